import PyProof.Rows.All
import Wide.All
import OpenK.AllK
import Wide.FinOn
import HandS.ForMost
import HandS.Lambda
import HandS.ForExc
import HandS.Wide
import HandS.TupAny
import HandS.TupMul
import HandS.TupLe
import HandS.Deep
import HandS.IsInst
import HandS.Flow
import HandS.Zip
import HandS.RevRange
import HandS.RaiseMore
import HandS.Style
import HandS.ExcCtx
import HandS.HotCalls
import HandS.ExcIs
import HandS.ExcValue
import HandS.EndBits
import HandS.EndTab
import HandS.HeadEnd
import HandS.HeadHook1
import HandS.HeadHook2
import HandS.HeadHook3
import HandS.HeadHook4
import HandS.HeadWalk
import HandS.Head0
import HandS.Head1
import HandS.Head2
import HandS.CallLocal
import KE.KeyNested
import HandS.Conv
import PySem.Challenge.RW_litinmidst_k19_errors_in_order
set_option Elab.async false
set_option linter.all false
set_option maxRecDepth 100000
set_option maxHeartbeats 1000000
/-! The deep layer: values as data (tuples, lists by value), a store of things that change, readings over them. -/
namespace Li
open PySem PySem.Spec PyProof.Rows L2

/-! ### values -/
inductive D where
  | non | bl (b : Bool) | int (i : Int) | str (x : Str) | tup (ds : List D) | lst (ds : List D) | ref (a : Addr) | ty (n : String) | scr (ns : List Int)
instance : Inhabited D := ⟨.non⟩

mutual
def Rep (K : PySem.W.Frag) (F : Hp) : D → V → Prop
  | .non, v => v = .non
  | .bl b, v => v = .bl b
  | .int i, v => v = .int i
  | .str x, v => v = .str x
  | .ref a, v => v = .ref a
  | .ty n, v => v = .ty n
  | .tup ds, v => ∃ a vs, v = .ref a ∧ SqT K F a vs ∧ Reps K F ds vs
  | .lst ds, v => ∃ a vs, v = .ref a ∧ F a = some (.lst vs) ∧ Reps K F ds vs
  | .scr ns, v => ∃ a, v = .ref a ∧ SqL K F a (ns.map V.int)
def Reps (K : PySem.W.Frag) (F : Hp) : List D → List V → Prop
  | [], vs => vs = []
  | d :: ds, vs => ∃ v r, vs = v :: r ∧ Rep K F d v ∧ Reps K F ds r
end

/-- a thing that changes -/
inductive MO where
  | lst (ds : List D) | ins (C : Addr) (fs : List (Str × D))
abbrev MS := Addr → Option MO
def mset (μ : MS) (a : Addr) (m : Option MO) : MS := fun b => if b = a then m else μ b
theorem mset_same {μ : MS} {a : Addr} {m : Option MO} : mset μ a m a = m := if_pos rfl
theorem mset_ne {μ : MS} {a b : Addr} {m : Option MO} (h : b ≠ a) : mset μ a m b = μ b := if_neg h
theorem mset_mset {μ : MS} {a : Addr} {m m' : Option MO} : mset (mset μ a m) a m' = mset μ a m' := by
  funext b; unfold mset; split <;> rfl
theorem mset_id {μ : MS} {a : Addr} : mset μ a (μ a) = μ := by
  funext b; unfold mset; split
  · rename_i h; rw [h]
  · rfl

def FReps (K : PySem.W.Frag) (F : Hp) : List (Str × D) → List (Str × V) → Prop
  | [], vs => vs = []
  | (k, d) :: ds, vs => ∃ v r, vs = (k, v) :: r ∧ Rep K F d v ∧ FReps K F ds r

theorem same_sqT {K : PySem.W.Frag} {H H' : Hp} {a : Addr} {xs : List V} (e : Same H H') (h : SqT K H a xs) : SqT K H' a xs := by
  rcases h with (h | ⟨o, h⟩) | h
  · exact .inl (.inl (e _ _ h))
  · exact .inl (.inr ⟨o, e _ _ h⟩)
  · exact .inr h
section
variable {K : PySem.W.Frag} {F F' : Hp}
mutual
theorem Rep.mono (e : Same F F') : ∀ {d : D} {v : V}, Rep K F d v → Rep K F' d v
  | .non, _, h => h
  | .bl _, _, h => h
  | .int _, _, h => h
  | .str _, _, h => h
  | .ref _, _, h => h
  | .ty _, _, h => h
  | .tup ds, v, h => by
    obtain ⟨a, vs, h1, h2, h3⟩ := (show ∃ a vs, v = .ref a ∧ SqT K F a vs ∧ Reps K F ds vs by simpa only [Rep] using h)
    simp only [Rep]
    exact ⟨a, vs, h1, same_sqT e h2, Reps.mono e h3⟩
  | .lst ds, v, h => by
    obtain ⟨a, vs, h1, h2, h3⟩ := (show ∃ a vs, v = .ref a ∧ F a = some (.lst vs) ∧ Reps K F ds vs by simpa only [Rep] using h)
    simp only [Rep]
    exact ⟨a, vs, h1, e _ _ h2, Reps.mono e h3⟩
  | .scr ns, v, h => by
    obtain ⟨a, h1, h2⟩ := (show ∃ a, v = .ref a ∧ SqL K F a (ns.map V.int) by simpa only [Rep] using h)
    simp only [Rep]
    exact ⟨a, h1, e.seq h2⟩
theorem Reps.mono (e : Same F F') : ∀ {ds : List D} {vs : List V}, Reps K F ds vs → Reps K F' ds vs
  | [], _, h => h
  | d :: ds, vs, h => by
    obtain ⟨v, r, h1, h2, h3⟩ := (show ∃ v r, vs = v :: r ∧ Rep K F d v ∧ Reps K F ds r by simpa only [Reps] using h)
    simp only [Reps]
    exact ⟨v, r, h1, Rep.mono e h2, Reps.mono e h3⟩
end
theorem FReps.mono (e : Same F F') : ∀ {ds : List (Str × D)} {vs : List (Str × V)}, FReps K F ds vs → FReps K F' ds vs
  | [], _, h => h
  | (k, d) :: ds, vs, ⟨v, r, h1, h2, h3⟩ => ⟨v, r, h1, h2.mono e, FReps.mono e h3⟩
theorem rep_tup {ds : List D} {v : V} : Rep K F (.tup ds) v ↔ ∃ a vs, v = .ref a ∧ SqT K F a vs ∧ Reps K F ds vs := by simp only [Rep]
theorem rep_lst {ds : List D} {v : V} : Rep K F (.lst ds) v ↔ ∃ a vs, v = .ref a ∧ F a = some (.lst vs) ∧ Reps K F ds vs := by simp only [Rep]
theorem rep_scr {ns : List Int} {v : V} : Rep K F (.scr ns) v ↔ ∃ a, v = .ref a ∧ SqL K F a (ns.map V.int) := by simp only [Rep]
theorem rep_non {v : V} : Rep K F .non v ↔ v = .non := by simp only [Rep]
theorem rep_bl {b : Bool} {v : V} : Rep K F (.bl b) v ↔ v = .bl b := by simp only [Rep]
theorem rep_int {i : Int} {v : V} : Rep K F (.int i) v ↔ v = .int i := by simp only [Rep]
theorem rep_str {x : Str} {v : V} : Rep K F (.str x) v ↔ v = .str x := by simp only [Rep]
theorem rep_ref {a : Addr} {v : V} : Rep K F (.ref a) v ↔ v = .ref a := by simp only [Rep]
theorem rep_ty {n : String} {v : V} : Rep K F (.ty n) v ↔ v = .ty n := by simp only [Rep]
theorem reps_nil {vs : List V} : Reps K F [] vs ↔ vs = [] := by simp only [Reps]
theorem reps_cons {d : D} {ds : List D} {vs : List V} : Reps K F (d :: ds) vs ↔ ∃ v r, vs = v :: r ∧ Rep K F d v ∧ Reps K F ds r := by simp only [Reps]
theorem Reps.cons {d : D} {ds : List D} {v : V} {vs : List V} (h : Rep K F d v) (t : Reps K F ds vs) : Reps K F (d :: ds) (v :: vs) := reps_cons.mpr ⟨v, vs, rfl, h, t⟩
theorem Reps.length : ∀ {ds : List D} {vs : List V}, Reps K F ds vs → ds.length = vs.length
  | [], _, h => by rw [reps_nil.mp h]; rfl
  | d :: ds, vs, h => by
    obtain ⟨v, r, rfl, _, t⟩ := reps_cons.mp h
    simp only [List.length_cons, Reps.length t]
theorem Reps.get : ∀ {ds : List D} {vs : List V} {i : Nat} {d : D}, Reps K F ds vs → ds[i]? = some d → ∃ v, vs[i]? = some v ∧ Rep K F d v
  | [], _, i, _, h, e => by simp at e
  | d :: ds, vs, 0, _, h, e => by
    obtain ⟨v, r, rfl, q, t⟩ := reps_cons.mp h
    simp at e; subst e
    exact ⟨v, rfl, q⟩
  | d :: ds, vs, i + 1, _, h, e => by
    obtain ⟨v, r, rfl, q, t⟩ := reps_cons.mp h
    exact Reps.get (i := i) t (by simpa using e)
theorem Reps.append : ∀ {ds es : List D} {vs ws : List V}, Reps K F ds vs → Reps K F es ws → Reps K F (ds ++ es) (vs ++ ws)
  | [], _, _, _, h, t => by rw [reps_nil.mp h]; exact t
  | d :: ds, _, _, _, h, t => by
    obtain ⟨v, r, rfl, q, u⟩ := reps_cons.mp h
    exact .cons q (Reps.append u t)
theorem Reps.take : ∀ {ds : List D} {vs : List V} (n : Nat), Reps K F ds vs → Reps K F (ds.take n) (vs.take n)
  | _, _, 0, _ => by simp only [List.take_zero]; exact reps_nil.mpr rfl
  | [], vs, n + 1, h => by rw [reps_nil.mp h]; exact reps_nil.mpr rfl
  | d :: ds, _, n + 1, h => by
    obtain ⟨v, r, rfl, q, u⟩ := reps_cons.mp h
    exact .cons q (Reps.take n u)
theorem Reps.drop : ∀ {ds : List D} {vs : List V} (n : Nat), Reps K F ds vs → Reps K F (ds.drop n) (vs.drop n)
  | _, _, 0, h => h
  | [], vs, n + 1, h => by rw [reps_nil.mp h]; exact reps_nil.mpr rfl
  | d :: ds, _, n + 1, h => by
    obtain ⟨v, r, rfl, q, u⟩ := reps_cons.mp h
    exact Reps.drop n u
theorem Reps.reverse : ∀ {ds : List D} {vs : List V}, Reps K F ds vs → Reps K F ds.reverse vs.reverse
  | [], _, h => by rw [reps_nil.mp h]; exact reps_nil.mpr rfl
  | d :: ds, _, h => by
    obtain ⟨v, r, rfl, q, u⟩ := reps_cons.mp h
    rw [List.reverse_cons, List.reverse_cons]
    exact (Reps.reverse u).append (.cons q (reps_nil.mpr rfl))
theorem Reps.set {d : D} {v : V} (q : Rep K F d v) : ∀ {ds : List D} {vs : List V} (n : Nat), Reps K F ds vs → Reps K F (ds.set n d) (vs.set n v)
  | [], vs, n, h => by rw [reps_nil.mp h]; exact reps_nil.mpr rfl
  | e :: ds, _, 0, h => by
    obtain ⟨w, r, rfl, q', u⟩ := reps_cons.mp h
    exact .cons q u
  | e :: ds, _, n + 1, h => by
    obtain ⟨w, r, rfl, q', u⟩ := reps_cons.mp h
    exact .cons q' (Reps.set q n u)
end

/-! ### the state -/
/-- the tables of code objects of the defs that make lambdas -/
class Tbl where
  T : List (Addr × Str)
variable [Tbl]
theorem tabs_put {T : List (Addr × Str)} {H : Hp} {p : Addr} {o : HO} (t : LamX.Tabs T H) (h : ∀ u, H p = some u → ∃ xs, u = .lst xs) : LamX.Tabs T (upd H p o) := fun q hq => by
  obtain ⟨ps, h1, h2, h3⟩ := t q hq
  have ne : ∀ b u, H b = some u → (∀ xs, u ≠ .lst xs) → b ≠ p := fun b u e n z => by
    subst z
    obtain ⟨xs, rfl⟩ := h u e
    exact n xs rfl
  refine ⟨ps, by rw [upd_ne (ne _ _ h1 fun xs z => by cases z)]; exact h1, h2, fun pos cv hc => ?_⟩
  obtain ⟨c, e1, e2⟩ := h3 pos cv hc
  exact ⟨c, e1, by rw [upd_ne (ne _ _ e2 fun xs z => by unfold LamX.CodeO at z; cases z)]; exact e2⟩
theorem tabs_new {T : List (Addr × Str)} {H : Hp} {p : Addr} {o : HO} (t : LamX.Tabs T H) (h : H p = none) : LamX.Tabs T (upd H p o) := tabs_put t fun u e => by rw [h] at e; cases e
structure Ok (K : PySem.W.Frag) (F : Hp) (μ : MS) (H : Hp) : Prop where
  sub : Same F H
  lst : ∀ a ds, μ a = some (.lst ds) → F a = none ∧ ∃ vs, H a = some (.lst vs) ∧ Reps K F ds vs
  ins : ∀ a C fs, μ a = some (.ins C fs) → F a = none ∧ ∃ dx vfs, H a = some (.ins C dx vfs) ∧ FReps K F fs vfs
  tab : LamX.Tabs Tbl.T H
  ntb : ∀ b ps, F b ≠ some (.tbl ps)
theorem ntb_upd {F : Hp} {p : Addr} {o : HO} (h : ∀ b ps, F b ≠ some (.tbl ps)) (ho : ∀ ps, o ≠ .tbl ps) : ∀ b ps, (upd F p o) b ≠ some (.tbl ps) := fun b ps z => by
  by_cases hb : b = p
  · subst hb; rw [upd_same] at z; cases z; exact ho _ rfl
  · rw [upd_ne hb] at z; exact h _ _ z
section
variable {K : PySem.W.Frag} {F F' : Hp} {μ : MS} {H : Hp} {p : Addr}
theorem Ok.there (ok : Ok K F μ H) {m : MO} (h : μ p = some m) : ∃ o, H p = some o ∧ F p = none := by
  cases m with
  | lst ds => obtain ⟨h1, vs, h2, _⟩ := ok.lst p ds h; exact ⟨_, h2, h1⟩
  | ins C fs => obtain ⟨h1, dx, vfs, h2, _⟩ := ok.ins p C fs h; exact ⟨_, h2, h1⟩
theorem Ok.freeF (ok : Ok K F μ H) (h : H p = none) : F p = none := ok.sub.free h
theorem Ok.freeM (ok : Ok K F μ H) (h : H p = none) : μ p = none := by
  cases e : μ p with
  | none => rfl
  | some m =>
    obtain ⟨o, h1, _⟩ := ok.there e
    rw [h] at h1; cases h1
theorem same_upd {o : HO} (h : F p = none) : Same F (upd F p o) := fun b u q => by rw [upd_ne (ne_of_none q h)]; exact q
/-- a new thing that stays -/
theorem Ok.frozen (ok : Ok K F μ H) {o : HO} (h : H p = none) (ho : ∀ ps, o ≠ .tbl ps := by intro ps z; cases z) : Ok K (upd F p o) μ (upd H p o) := by
  have hF := ok.freeF h
  have hm := ok.freeM h
  have s : Same F (upd F p o) := same_upd hF
  have ne : ∀ {a m}, μ a = some m → a ≠ p := fun {a m} e z => by subst z; rw [hm] at e; cases e
  refine ⟨fun b u q => ?_, fun a ds e => ?_, fun a C fs e => ?_, tabs_new ok.tab h, ntb_upd ok.ntb ho⟩
  · by_cases hb : b = p
    · subst hb; rw [upd_same] at q ⊢; exact q
    · rw [upd_ne hb] at q ⊢; exact ok.sub b u q
  · obtain ⟨h1, vs, h2, h3⟩ := ok.lst a ds e
    exact ⟨by rw [upd_ne (ne e)]; exact h1, vs, by rw [upd_ne (ne e)]; exact h2, h3.mono s⟩
  · obtain ⟨h1, dx, vfs, h2, h3⟩ := ok.ins a C fs e
    exact ⟨by rw [upd_ne (ne e)]; exact h1, dx, vfs, by rw [upd_ne (ne e)]; exact h2, h3.mono s⟩
/-- a list in the store is made or changed -/
theorem Ok.put (ok : Ok K F μ H) {ds : List D} {vs : List V} (hF : F p = none) (hx : ∀ u, H p = some u → ∃ xs, u = .lst xs) (r : Reps K F ds vs) : Ok K F (mset μ p (some (.lst ds))) (upd H p (.lst vs)) := by
  refine ⟨fun b u q => ?_, fun a es e => ?_, fun a C fs e => ?_, tabs_put ok.tab hx, ok.ntb⟩
  · rw [upd_ne (ne_of_none q hF)]; exact ok.sub b u q
  · by_cases ha : a = p
    · subst ha; rw [mset_same] at e; cases e; exact ⟨hF, vs, upd_same, r⟩
    · rw [mset_ne ha] at e
      obtain ⟨h1, vs, h2, h3⟩ := ok.lst a es e
      exact ⟨h1, vs, by rw [upd_ne ha]; exact h2, h3⟩
  · by_cases ha : a = p
    · subst ha; rw [mset_same] at e; cases e
    · rw [mset_ne ha] at e
      obtain ⟨h1, dx, vfs, h2, h3⟩ := ok.ins a C fs e
      exact ⟨h1, dx, vfs, by rw [upd_ne ha]; exact h2, h3⟩
/-- a thing of the store is forgotten -/
theorem Ok.forget (ok : Ok K F μ H) : Ok K F (mset μ p none) H := by
  refine ⟨ok.sub, fun a es e => ?_, fun a C fs e => ?_, ok.tab, ok.ntb⟩
  · by_cases ha : a = p
    · subst ha; rw [mset_same] at e; cases e
    · rw [mset_ne ha] at e; exact ok.lst a es e
  · by_cases ha : a = p
    · subst ha; rw [mset_same] at e; cases e
    · rw [mset_ne ha] at e; exact ok.ins a C fs e
end

/-- from one state to a later one: what stays stays, and nothing is changed but what the store held -/
structure Stp (F : Hp) (μ : MS) (H : Hp) (F' : Hp) (μ' : MS) (H' : Hp) : Prop where
  s : Same F F'
  fr : ∀ b o, H b = some o → (∀ ps, o ≠ .tbl ps) → μ b = none → H' b = some o ∧ μ' b = none ∧ (F b = none → F' b = none)
section
variable {K : PySem.W.Frag} {F F' F1 F2 : Hp} {μ μ1 μ2 : MS} {H H1 H2 : Hp} {p : Addr}
theorem Stp.refl : Stp F μ H F μ H := ⟨Same.refl F, fun _ _ h _ m => ⟨h, m, id⟩⟩
theorem Stp.trans (a : Stp F μ H F1 μ1 H1) (b : Stp F1 μ1 H1 F2 μ2 H2) : Stp F μ H F2 μ2 H2 := ⟨a.s.trans b.s, fun c o h n m => let ⟨h1, m1, f1⟩ := a.fr c o h n m; let ⟨h2, m2, f2⟩ := b.fr c o h1 n m1; ⟨h2, m2, fun z => f2 (f1 z)⟩⟩
theorem Ok.stpFrozen (ok : Ok K F μ H) {o : HO} (h : H p = none) : Stp F μ H (upd F p o) μ (upd H p o) := ⟨same_upd (ok.freeF h), fun b u q n m =>
  have ne := ne_of_none q h
  ⟨by rw [upd_ne ne]; exact q, m, fun z => by rw [upd_ne ne]; exact z⟩⟩
theorem stpNew {o : HO} {m' : Option MO} (h : H p = none) : Stp F μ H F (mset μ p m') (upd H p o) := ⟨Same.refl F, fun b u q n m =>
  have ne := ne_of_none q h
  ⟨by rw [upd_ne ne]; exact q, by rw [mset_ne ne]; exact m, id⟩⟩
theorem stpPut {o : HO} {x : MO} {m' : Option MO} (h : μ p = some x) : Stp F μ H F (mset μ p m') (upd H p o) := ⟨Same.refl F, fun b u q n m => by
  have ne : b ≠ p := fun z => by subst z; rw [h] at m; cases m
  exact ⟨by rw [upd_ne ne]; exact q, by rw [mset_ne ne]; exact m, id⟩⟩
theorem stpFreeze {o : HO} {x : MO} {m' : Option MO} (h : μ p = some x) (hF : F p = none) : Stp F μ H (upd F p o) (mset μ p m') H := ⟨same_upd hF, fun b u q n m => by
  have ne : b ≠ p := fun z => by subst z; rw [h] at m; cases m
  exact ⟨q, by rw [mset_ne ne]; exact m, fun z => by rw [upd_ne ne]; exact z⟩⟩
/-- seen from ahead of p's making, p may change as it likes -/
theorem Stp.skip (a : Stp F μ H F1 μ1 H1) (h : H p = none) {o : HO} : Stp F μ H F1 μ1 (upd H1 p o) := ⟨a.s, fun b u q n m => by
  obtain ⟨h1, m1, f1⟩ := a.fr b u q n m
  exact ⟨by rw [upd_ne (ne_of_none q h)]; exact h1, m1, f1⟩⟩
theorem Stp.skipF (a : Stp F μ H F1 μ1 H1) (h : H p = none) (hF : F1 p = none) {o : HO} : Stp F μ H (upd F1 p o) μ1 H1 := ⟨a.s.trans (same_upd hF), fun b u q n m => by
  obtain ⟨h1, m1, f1⟩ := a.fr b u q n m
  exact ⟨h1, m1, fun z => by rw [upd_ne (ne_of_none q h)]; exact f1 z⟩⟩
theorem Stp.skipM (a : Stp F μ H F1 μ1 H1) (h : H p = none) {m' : Option MO} : Stp F μ H F1 (mset μ1 p m') H1 := ⟨a.s, fun b u q n m => by
  obtain ⟨h1, m1, f1⟩ := a.fr b u q n m
  exact ⟨h1, by rw [mset_ne (ne_of_none q h)]; exact m1, f1⟩⟩
/-- a list in the store stays from now on as it is -/
theorem Ok.freeze (ok : Ok K F μ H) {ds : List D} (h : μ p = some (.lst ds)) : ∃ F', Stp F μ H F' (mset μ p none) H ∧ Ok K F' (mset μ p none) H ∧ Rep K F' (.lst ds) (.ref p) := by
  obtain ⟨h1, vs, h2, h3⟩ := ok.lst p ds h
  have s : Same F (upd F p (.lst vs)) := same_upd h1
  refine ⟨upd F p (.lst vs), stpFreeze h h1, ⟨fun b u q => ?_, fun a es e => ?_, fun a C fs e => ?_, ok.tab, ntb_upd ok.ntb (fun ps z => by cases z)⟩, rep_lst.mpr ⟨p, vs, rfl, upd_same, h3.mono s⟩⟩
  · by_cases hb : b = p
    · subst hb; rw [upd_same] at q; cases q; exact h2
    · rw [upd_ne hb] at q; exact ok.sub b u q
  · by_cases ha : a = p
    · subst ha; rw [mset_same] at e; cases e
    · rw [mset_ne ha] at e
      obtain ⟨h1, vs, h2, h3⟩ := ok.lst a es e
      exact ⟨by rw [upd_ne ha]; exact h1, vs, h2, h3.mono s⟩
  · by_cases ha : a = p
    · subst ha; rw [mset_same] at e; cases e
    · rw [mset_ne ha] at e
      obtain ⟨h1, dx, vfs, h2, h3⟩ := ok.ins a C fs e
      exact ⟨by rw [upd_ne ha]; exact h1, dx, vfs, h2, h3.mono s⟩
end

abbrev DSt := List (Option D)
structure RelS (K : PySem.W.Frag) (F : Hp) (ρ : DSt) (σ : L2.St) : Prop where
  len : ρ.length = σ.length
  at_ : ∀ (i : Nat) (d : D), ρ[i]? = some (some d) → ∃ v, σ[i]? = some (some v) ∧ Rep K F d v
section
variable {K : PySem.W.Frag} {F F' : Hp} {ρ : DSt} {σ : L2.St}
theorem RelS.mono (r : RelS K F ρ σ) (e : Same F F') : RelS K F' ρ σ := ⟨r.len, fun i d h => let ⟨v, h1, h2⟩ := r.at_ i d h; ⟨v, h1, h2.mono e⟩⟩
theorem RelS.set (r : RelS K F ρ σ) {d : D} {v : V} (q : Rep K F d v) (i : Nat) : RelS K F (ρ.set i (some d)) (σ.set i (some v)) := by
  refine ⟨by rw [List.length_set, List.length_set, r.len], fun j e h => ?_⟩
  by_cases hj : i = j
  · subst hj
    by_cases hl : i < ρ.length
    · rw [List.getElem?_set_self hl] at h
      cases h
      exact ⟨v, List.getElem?_set_self (by rw [← r.len]; exact hl), q⟩
    · rw [List.getElem?_eq_none (by rw [List.length_set]; omega)] at h; cases h
  · rw [List.getElem?_set_ne hj] at h ⊢
    exact r.at_ j e h
/-- slots forgotten on one side -/
theorem RelS.lose (r : RelS K F ρ σ) (i : Nat) : RelS K F (ρ.set i none) σ := by
  refine ⟨by rw [List.length_set, r.len], fun j e h => ?_⟩
  by_cases hj : i = j
  · subst hj
    by_cases hl : i < ρ.length
    · rw [List.getElem?_set_self hl] at h; cases h
    · rw [List.getElem?_eq_none (by rw [List.length_set]; omega)] at h; cases h
  · rw [List.getElem?_set_ne hj] at h
    exact r.at_ j e h
theorem RelS.start {N : List Str} {ds : List D} {vs : List V} (q : Reps K F ds vs) : RelS K F (ds.map some ++ List.replicate (N.length - ds.length) none) (L2.start N vs) := by
  have hl := q.length
  refine ⟨by simp only [L2.start, List.length_append, List.length_map, List.length_replicate, hl], fun i d h => ?_⟩
  by_cases hi : i < ds.length
  · rw [List.getElem?_append_left (by simpa using hi), List.getElem?_map] at h
    cases e : ds[i]? with
    | none => rw [e] at h; cases h
    | some d' =>
      rw [e] at h; cases h
      obtain ⟨v, h1, h2⟩ := q.get e
      exact ⟨v, by unfold L2.start; rw [List.getElem?_append_left (by simp; omega), List.getElem?_map, h1]; rfl, h2⟩
  · rw [List.getElem?_append_right (by simpa using hi), List.getElem?_replicate] at h
    split at h <;> cases h
end

/-! ### readings over data -/
abbrev DK := D → MS → Prop
abbrev DTE := DSt → MS → DK → Prop
abbrev DTT := DSt → MS → (Bool → MS → Prop) → Prop
abbrev DTA := DSt → MS → (List D → MS → Prop) → Prop
abbrev DPS := DSt → MS → Prop
structure DEnds where
  nx : DPS
  rt : DK
  bk : DPS := fun _ _ => False
  ct : DPS := fun _ _ => False
abbrev DTS := DEnds → DSt → MS → Prop
abbrev DTG := D → DSt → MS → DPS → Prop
abbrev DTGs := List D → DSt → MS → DPS → Prop
abbrev DTI := DSt → MS → (List D → MS → Prop) → Prop

/-- what the wish over data says of the wish over the heap -/
def Cl (K : PySem.W.Frag) (F : Hp) (μ : MS) (H : Hp) (Qd : DK) (Q : VK) : Prop := ∀ F' d μ' v H', Stp F μ H F' μ' H' → Ok K F' μ' H' → Rep K F' d v → Qd d μ' → Q v H'
def ClS (K : PySem.W.Frag) (F : Hp) (μ : MS) (H : Hp) (Qd : DPS) (Q : L2.St → Hp → Prop) : Prop := ∀ F' ρ' μ' σ' H', Stp F μ H F' μ' H' → Ok K F' μ' H' → RelS K F' ρ' σ' → Qd ρ' μ' → Q σ' H'
theorem Cl.mono {K : PySem.W.Frag} {F F' : Hp} {μ μ' : MS} {H H' : Hp} {Qd : DK} {Q : VK} (c : Cl K F μ H Qd Q) (e : Stp F μ H F' μ' H') : Cl K F' μ' H' Qd Q := fun F1 d μ1 v H1 s => c F1 d μ1 v H1 (e.trans s)
theorem ClS.mono {K : PySem.W.Frag} {F F' : Hp} {μ μ' : MS} {H H' : Hp} {Qd : DPS} {Q : L2.St → Hp → Prop} (c : ClS K F μ H Qd Q) (e : Stp F μ H F' μ' H') : ClS K F' μ' H' Qd Q := fun F1 d μ1 v H1 s => c F1 d μ1 v H1 (e.trans s)

/-- the state at a def's entry -/
structure Ent where
  F : Hp
  μ : MS
  H : Hp
def Ent.to (B : Ent) (F : Hp) (μ : MS) (H : Hp) : Prop := Stp B.F B.μ B.H F μ H
theorem Ent.to.trans {B : Ent} {F F' : Hp} {μ μ' : MS} {H H' : Hp} (a : B.to F μ H) (b : Stp F μ H F' μ' H') : B.to F' μ' H' := Stp.trans a b
section
variable (K : PySem.W.Frag) (B : Ent)
def LE (t : DTE) : TE := fun σ H Q => ∃ F ρ μ Qd, B.to F μ H ∧ Ok K F μ H ∧ RelS K F ρ σ ∧ t ρ μ Qd ∧ Cl K F μ H Qd Q
def LT (t : DTT) : TT := fun σ H Q => ∃ F ρ μ Qd, B.to F μ H ∧ Ok K F μ H ∧ RelS K F ρ σ ∧ t ρ μ Qd ∧ ∀ F' b μ' H', Stp F μ H F' μ' H' → Ok K F' μ' H' → Qd b μ' → Q b H'
def LA (t : DTA) : TA := fun σ H Q => ∃ F ρ μ Qd, B.to F μ H ∧ Ok K F μ H ∧ RelS K F ρ σ ∧ t ρ μ Qd ∧ ∀ F' ds μ' vs H', Stp F μ H F' μ' H' → Ok K F' μ' H' → Reps K F' ds vs → Qd ds μ' → Q vs H'
structure ClD (F : Hp) (μ : MS) (H : Hp) (DD : DEnds) (D : Ends) : Prop where
  nx : ClS K F μ H DD.nx D.nx
  rt : Cl K F μ H DD.rt D.rt
  bk : ClS K F μ H DD.bk D.bk
  ct : ClS K F μ H DD.ct D.ct
def LS (t : DTS) : TS := fun D σ H => ∃ F ρ μ DD, B.to F μ H ∧ Ok K F μ H ∧ RelS K F ρ σ ∧ t DD ρ μ ∧ ClD K F μ H DD D
def LG (t : DTG) : TG := fun v σ H Q => ∃ F d ρ μ Qd, B.to F μ H ∧ Ok K F μ H ∧ RelS K F ρ σ ∧ Rep K F d v ∧ t d ρ μ Qd ∧ ClS K F μ H Qd Q
def LGs (t : DTGs) : TGs := fun vs σ H Q => ∃ F ds ρ μ Qd, B.to F μ H ∧ Ok K F μ H ∧ RelS K F ρ σ ∧ Reps K F ds vs ∧ t ds ρ μ Qd ∧ ClS K F μ H Qd Q
/-- J gives out ds -/
def Gives (F : Hp) (ds : List D) (J : It) : Prop := ∀ (i : Nat) F1 μ1 H1, Same F F1 → Ok K F1 μ1 H1 →
  (∀ d, ds[i]? = some d → J.go i H1 ∧ ∀ x H2, J.yld i H1 x H2 → ∃ F2, Stp F1 μ1 H1 F2 μ1 H2 ∧ Ok K F2 μ1 H2 ∧ Rep K F2 d x) ∧ (ds.length ≤ i → J.stop i H1)
def LI (t : DTI) : TI := fun σ H R => ∃ F ρ μ Qd, B.to F μ H ∧ Ok K F μ H ∧ RelS K F ρ σ ∧ t ρ μ Qd ∧ ∀ F' ds μ' H' J, Stp F μ H F' μ' H' → Ok K F' μ' H' → ds.length ≤ sizeLine → Gives K F' ds J → Qd ds μ' → R J H'
end
theorem ClD.mono {K : PySem.W.Frag} {F F' : Hp} {μ μ' : MS} {H H' : Hp} {DD : DEnds} {D : Ends} (c : ClD K F μ H DD D) (e : Stp F μ H F' μ' H') : ClD K F' μ' H' DD D := ⟨c.nx.mono e, c.rt.mono e, c.bk.mono e, c.ct.mono e⟩

abbrev DE (X : Cx) (B : Ent) (e : Expr) (t : DTE) : Prop := PE X e (LE X.K B t)
abbrev DT (X : Cx) (B : Ent) (e : Expr) (t : DTT) : Prop := PT X e (LT X.K B t)
abbrev DW (X : Cx) (B : Ent) (e : Expr) (t : DTT) : Prop := PW X e (LT X.K B t)
abbrev DA (X : Cx) (B : Ent) (es : List Expr) (t : DTA) : Prop := PA X es (LA X.K B t)
abbrev DS (X : Cx) (B : Ent) (st : Stmt) (t : DTS) : Prop := PS X st (LS X.K B t)
abbrev DSs (X : Cx) (B : Ent) (st : List Stmt) (t : DTS) : Prop := PSs X st (LS X.K B t)
abbrev DG (X : Cx) (B : Ent) (e : Expr) (t : DTG) : Prop := PG X e (LG X.K B t)
abbrev DGs (X : Cx) (B : Ent) (es : List Expr) (t : DTGs) : Prop := PGs X es (LGs X.K B t)
abbrev DI (X : Cx) (B : Ent) (tg e : Expr) (t : DTI) : Prop := PI X tg e (LI X.K B t)

theorem PE.by {X : Cx} {e : Expr} {t u : TE} (h : PE X e t) (i : ∀ σ H Q, u σ H Q → t σ H Q) : PE X e u := ⟨fun pins s σ H Q I q => h.run pins s σ H Q I (i σ H Q q)⟩
theorem PT.by {X : Cx} {e : Expr} {t u : TT} (h : PT X e t) (i : ∀ σ H Q, u σ H Q → t σ H Q) : PT X e u := ⟨fun pins s σ H Q I q => h.run pins s σ H Q I (i σ H Q q)⟩
theorem PW.by {X : Cx} {e : Expr} {t u : TT} (h : PW X e t) (i : ∀ σ H Q, u σ H Q → t σ H Q) : PW X e u := ⟨fun wh pins s σ H Q I q => h.run wh pins s σ H Q I (i σ H Q q)⟩
theorem PA.by {X : Cx} {es : List Expr} {t u : TA} (h : PA X es t) (i : ∀ σ H Q, u σ H Q → t σ H Q) : PA X es u := ⟨fun pos pins s σ H Q I q => h.run pos pins s σ H Q I (i σ H Q q)⟩
theorem PS.by {X : Cx} {st : Stmt} {t u : TS} (h : PS X st t) (i : ∀ D σ H, u D σ H → t D σ H) : PS X st u := ⟨fun pins s σ H D I q => h.run pins s σ H D I (i D σ H q)⟩
theorem PSs.by {X : Cx} {st : List Stmt} {t u : TS} (h : PSs X st t) (i : ∀ D σ H, u D σ H → t D σ H) : PSs X st u := ⟨fun pins s σ H D I q => h.run pins s σ H D I (i D σ H q)⟩
theorem PG.by {X : Cx} {e : Expr} {t u : TG} (h : PG X e t) (i : ∀ v σ H Q, u v σ H Q → t v σ H Q) : PG X e u := ⟨fun pins s σ H v w Q I r q => h.run pins s σ H v w Q I r (i v σ H Q q)⟩
theorem PGs.by {X : Cx} {es : List Expr} {t u : TGs} (h : PGs X es t) (i : ∀ v σ H Q, u v σ H Q → t v σ H Q) : PGs X es u := ⟨fun pins s σ H v w Q I r q => h.run pins s σ H v w Q I r (i v σ H Q q)⟩
theorem PI.by {X : Cx} {tg e : Expr} {t u : TI} (h : PI X tg e t) (i : ∀ σ H R, u σ H R → t σ H R) : PI X tg e u := ⟨fun pins s σ H R I q => h.run pins s σ H R I (i σ H R q)⟩
end Li

set_option Elab.async false
set_option linter.all false
set_option maxRecDepth 100000
set_option maxHeartbeats 1000000
/-! Expressions, operators, tests over data. -/
namespace Li
open PySem PySem.Spec PyProof.Rows L2
variable [Tbl]

/-- by the answer of a test -/
def bcase (b : Bool) (A B : Prop) : Prop := match b with | true => A | false => B
theorem bcase_of {b : Bool} {A B : Prop} (h1 : b = true → A) (h2 : b = false → B) : bcase b A B := by
  cases b
  · exact h2 rfl
  · exact h1 rfl
theorem bcase_t {b : Bool} {A B : Prop} (h : b = true) (q : A) : bcase b A B := by subst h; exact q
theorem bcase_f {b : Bool} {A B : Prop} (h : b = false) (q : B) : bcase b A B := by subst h; exact q
theorem bcase_ite {b : Bool} {A B : Prop} : (if b = true then A else B) ↔ bcase b A B := by cases b <;> simp [bcase]

/-! ### == -/
mutual
def deq : D → D → Bool
  | .non, .non => true
  | .bl a, .bl b => a == b
  | .bl a, .int j => (if a then 1 else 0) == j
  | .int i, .bl b => i == (if b then 1 else 0)
  | .int i, .int j => i == j
  | .str x, .str y => x == y
  | .lst xs, .lst ys => deqs xs ys
  | .tup xs, .tup ys => deqs xs ys
  | _, _ => false
def deqs : List D → List D → Bool
  | [], [] => true
  | x :: xs, y :: ys => deq x y && deqs xs ys
  | _, _ => false
end
mutual
def D.py : D → PyData
  | .non => .none
  | .bl b => .bool b
  | .int i => .int i
  | .str x => .str x
  | .lst xs => .list (D.pys xs)
  | .tup xs => .tuple (D.pys xs)
  | .ref _ => .dict []
  | .ty _ => .dict []
  | .scr _ => .dict []
def D.pys : List D → List PyData
  | [] => []
  | x :: xs => x.py :: D.pys xs
end
mutual
/-- no object, plain texts -/
def D.lay : D → Bool
  | .non | .bl _ | .int _ => true
  | .str x => PyData.strOk x
  | .lst xs | .tup xs => D.lays xs
  | .ref _ | .ty _ | .scr _ => false
def D.lays : List D → Bool
  | [] => true
  | x :: xs => x.lay && D.lays xs
end
mutual
def D.dep : D → Nat
  | .lst xs | .tup xs => D.deps xs + 1
  | _ => 0
def D.deps : List D → Nat
  | [] => 0
  | x :: xs => max x.dep (D.deps xs)
end
mutual
theorem py_lay : ∀ d : D, d.py.canLay0 = d.lay
  | .non => by simp [D.py, D.lay, PyData.canLay0]
  | .bl _ => by simp [D.py, D.lay, PyData.canLay0]
  | .int _ => by simp [D.py, D.lay, PyData.canLay0]
  | .str x => by simp [D.py, D.lay, PyData.canLay0]
  | .lst xs => by simp only [D.py, D.lay, PyData.canLay0]; exact pys_lay xs
  | .tup xs => by simp only [D.py, D.lay, PyData.canLay0]; exact pys_lay xs
  | .ref _ => by simp [D.py, D.lay, PyData.canLay0]
  | .ty _ => by simp [D.py, D.lay, PyData.canLay0]
  | .scr _ => by simp [D.py, D.lay, PyData.canLay0]
theorem pys_lay : ∀ ds : List D, PyData.canLayAll0 (D.pys ds) = D.lays ds
  | [] => by simp [D.pys, D.lays, PyData.canLayAll0]
  | d :: ds => by simp only [D.pys, D.lays, PyData.canLayAll0, py_lay d, pys_lay ds]
end
mutual
theorem py_dep : ∀ d : D, d.lay = true → d.py.depth = d.dep
  | .non, _ => by simp [D.py, D.dep, PyData.depth]
  | .bl _, _ => by simp [D.py, D.dep, PyData.depth]
  | .int _, _ => by simp [D.py, D.dep, PyData.depth]
  | .str x, _ => by simp [D.py, D.dep, PyData.depth]
  | .lst xs, h => by simp only [D.py, D.dep, PyData.depth]; rw [pys_dep xs (by simpa only [D.lay] using h)]
  | .tup xs, h => by simp only [D.py, D.dep, PyData.depth]; rw [pys_dep xs (by simpa only [D.lay] using h)]
  | .ref _, h => by simp [D.lay] at h
  | .ty _, h => by simp [D.lay] at h
  | .scr _, h => by simp [D.lay] at h
theorem pys_dep : ∀ ds : List D, D.lays ds = true → PyData.depthAll (D.pys ds) = D.deps ds
  | [], _ => by simp [D.pys, D.deps, PyData.depthAll]
  | d :: ds, h => by
    have h' : d.lay = true ∧ D.lays ds = true := by simpa [D.lays] using h
    simp only [D.pys, D.deps, PyData.depthAll, py_dep d h'.1, pys_dep ds h'.2]
end
mutual
theorem deq_py : ∀ x y : D, x.lay = true → y.lay = true → x.py.eqv y.py = deq x y
  | .non, y, _, h => by cases y <;> simp [D.py, deq, PyData.eqv] <;> simp [D.lay] at h
  | .bl _, y, _, h => by cases y <;> simp [D.py, deq, PyData.eqv] <;> simp [D.lay] at h
  | .int _, y, _, h => by cases y <;> simp [D.py, deq, PyData.eqv] <;> simp [D.lay] at h
  | .str _, y, _, h => by cases y <;> simp [D.py, deq, PyData.eqv] <;> simp [D.lay] at h
  | .lst xs, y, g, h => by
    cases y with
    | lst ys => simp only [D.py, deq, PyData.eqv]; exact deqs_py xs ys (by simpa only [D.lay] using g) (by simpa only [D.lay] using h)
    | _ => simp [D.py, deq, PyData.eqv] <;> simp [D.lay] at h
  | .tup xs, y, g, h => by
    cases y with
    | tup ys => simp only [D.py, deq, PyData.eqv]; exact deqs_py xs ys (by simpa only [D.lay] using g) (by simpa only [D.lay] using h)
    | _ => simp [D.py, deq, PyData.eqv] <;> simp [D.lay] at h
  | .ref _, _, h, _ => by simp [D.lay] at h
  | .ty _, _, h, _ => by simp [D.lay] at h
  | .scr _, _, h, _ => by simp [D.lay] at h
theorem deqs_py : ∀ xs ys : List D, D.lays xs = true → D.lays ys = true → PyData.eqvAll (D.pys xs) (D.pys ys) = deqs xs ys
  | [], [], _, _ => by simp [D.pys, deqs, PyData.eqvAll]
  | [], _ :: _, _, _ => by simp [D.pys, deqs, PyData.eqvAll]
  | _ :: _, [], _, _ => by simp [D.pys, deqs, PyData.eqvAll]
  | x :: xs, y :: ys, g, h => by
    have g' : x.lay = true ∧ D.lays xs = true := by simpa [D.lays] using g
    have h' : y.lay = true ∧ D.lays ys = true := by simpa [D.lays] using h
    simp only [D.pys, deqs, PyData.eqvAll, deq_py x y g'.1 h'.1, deqs_py xs ys g'.2 h'.2]
end
section
variable {K : PySem.W.Frag} {F H : Hp}
mutual
theorem rep_dp (s : Same F H) : ∀ {d : D} {v : V}, d.lay = true → Rep K F d v → Dp K H v d.py
  | .non, v, _, h => by rw [rep_non.mp h]; simp only [D.py]; exact .non
  | .bl b, v, _, h => by rw [rep_bl.mp h]; simp only [D.py]; exact .bl b
  | .int i, v, _, h => by rw [rep_int.mp h]; simp only [D.py]; exact .int i
  | .str x, v, _, h => by rw [rep_str.mp h]; simp only [D.py]; exact .str x
  | .lst ds, v, l, h => by
    obtain ⟨a, vs, rfl, h2, h3⟩ := rep_lst.mp h
    simp only [D.py]
    exact .lst (SqL.of (s _ _ h2)) (reps_dp s (by simpa only [D.lay] using l) h3)
  | .tup ds, v, l, h => by
    obtain ⟨a, vs, rfl, h2, h3⟩ := rep_tup.mp h
    simp only [D.py]
    exact .tup (same_sqT s h2) (reps_dp s (by simpa only [D.lay] using l) h3)
  | .ref _, _, l, _ => by simp [D.lay] at l
  | .ty _, _, l, _ => by simp [D.lay] at l
  | .scr _, _, l, _ => by simp [D.lay] at l
theorem reps_dp (s : Same F H) : ∀ {ds : List D} {vs : List V}, D.lays ds = true → Reps K F ds vs → DpAll K H vs (D.pys ds)
  | [], _, _, h => by rw [reps_nil.mp h]; simp only [D.pys]; exact .nil
  | d :: ds, _, l, h => by
    have l' : d.lay = true ∧ D.lays ds = true := by simpa [D.lays] using l
    obtain ⟨v, r, rfl, q, u⟩ := reps_cons.mp h
    simp only [D.pys]
    exact .cons (rep_dp s l'.1 q) (reps_dp s l'.2 u)
end
end

/-- what a list of the store holds -/
def refL (o : Option MO) (k : List D → Prop) : Prop := match o with
  | some (.lst ds) => k ds
  | _ => False
theorem refL_of {o : Option MO} {ds : List D} {k : List D → Prop} (h : o = some (.lst ds)) (q : k ds) : refL o k := by subst h; exact q
theorem refL_elim {o : Option MO} {k : List D → Prop} (h : refL o k) : ∃ ds, o = some (.lst ds) ∧ k ds := by
  unfold refL at h
  split at h
  · exact ⟨_, rfl, h⟩
  · exact h.elim

/-! ### operators -/
abbrev KD := D → D → MS → DK → Prop
/-- an operator's reading over the heap, from its reading over data -/
def L2R (K : PySem.W.Frag) (k : KD) : R2 := fun v w H Q => ∃ F μ x y Qd, Ok K F μ H ∧ Rep K F x v ∧ Rep K F y w ∧ k x y μ Qd ∧ Cl K F μ H Qd Q
abbrev DOp (X : Cx) (f : Value → Value → Sem Value) (k : KD) : Prop := OpR X f (L2R X.K k)
def dBin (k : KD) (ta tb : DTE) : DTE := fun ρ μ Q => ta ρ μ fun x μ1 => tb ρ μ1 fun y μ2 => k x y μ2 Q
theorem le_bin {K : PySem.W.Frag} {B : Ent} {k : KD} {ta tb : DTE} {σ : L2.St} {H : Hp} {Q : VK} (h : LE K B (dBin k ta tb) σ H Q) : tOp (L2R K k) (LE K B ta) (LE K B tb) σ H Q := by
  obtain ⟨F, ρ, μ, Qd, sB, ok, rs, t, cl⟩ := h
  refine ⟨F, ρ, μ, _, sB, ok, rs, t, fun F1 x μ1 v H1 s1 ok1 rx t1 => ?_⟩
  refine ⟨F1, ρ, μ1, _, sB.trans s1, ok1, rs.mono s1.s, t1, fun F2 y μ2 w H2 s2 ok2 ry t2 => ?_⟩
  exact ⟨F2, μ2, x, y, Qd, ok2, rx.mono s2.s, ry, t2, cl.mono (s1.trans s2)⟩

section
variable {X : Cx} {B : Ent} {a b c : Expr} {ta tb tc : DTE} {pos : Pos} {op : Operator} {k : KD}
theorem de_bin (ho : DOp X (binaryOp op) k) (ha : DE X B a ta) (hb : DE X B b tb) : DE X B (.BinOp a op b pos) (dBin k ta tb) := PE.by (pe_op ho ha hb) fun _ _ _ => le_bin

/-! ### names, constants -/
def dVar (i : Nat) : DTE := fun ρ μ Q => match ρ[i]? with
  | some (some d) => Q d μ
  | _ => False
def dC (d : D) : DTE := fun _ μ Q => Q d μ
theorem dv (i : Nat) {x : Str} {pos : Pos} (hN : X.N[i]? = some x := by rfl) (hv : Vis X.env.scope x := by first | exact Or.inl rfl | exact Or.inr (Or.inl rfl) | exact Or.inr (Or.inr rfl)) (hd : (x == ("__debug__" : Str)) = false := by decide)
    (hcd : (x == ("__classdict__" : Str)) = false := by decide) : DE X B (.Name x pos) (dVar i) := PE.by (pe_var hN hv hd hcd) fun σ H Q ⟨F, ρ, μ, Qd, sB, ok, rs, t, cl⟩ => by
  unfold dVar at t
  split at t
  · rename_i d e
    obtain ⟨v, h1, h2⟩ := rs.at_ i d e
    exact ⟨v, h1, cl F d μ v H (Stp.refl) ok h2 t⟩
  · exact t.elim
/-- a list of the store, read as a value: it stays from now on as it is -/
def dVarF (i : Nat) : DTE := fun ρ μ Q => match ρ[i]? with
  | some (some (.ref a)) => refL (μ a) fun ds => Q (.lst ds) (mset μ a none)
  | some (some d) => Q d μ
  | _ => False
theorem dvF (i : Nat) {x : Str} {pos : Pos} (hN : X.N[i]? = some x := by rfl) (hv : Vis X.env.scope x := by first | exact Or.inl rfl | exact Or.inr (Or.inl rfl) | exact Or.inr (Or.inr rfl)) (hd : (x == ("__debug__" : Str)) = false := by decide)
    (hcd : (x == ("__classdict__" : Str)) = false := by decide) : DE X B (.Name x pos) (dVarF i) := PE.by (pe_var hN hv hd hcd) fun σ H Q ⟨F, ρ, μ, Qd, sB, ok, rs, t, cl⟩ => by
  unfold dVarF at t
  split at t
  · rename_i a e
    obtain ⟨v, h1, h2⟩ := rs.at_ i _ e
    obtain rfl := rep_ref.mp h2
    obtain ⟨ds, e2, t⟩ := refL_elim t
    obtain ⟨F', s, ok', r⟩ := ok.freeze e2
    exact ⟨_, h1, cl F' _ _ _ H s ok' r t⟩
  · rename_i d _ e
    obtain ⟨v, h1, h2⟩ := rs.at_ i d e
    exact ⟨v, h1, cl F d μ v H (Stp.refl) ok h2 t⟩
  · exact t.elim
theorem le_c {d : D} {v : V} (r : ∀ F, Rep X.K F d v) {σ : L2.St} {H : Hp} {Q : VK} (h : LE X.K B (dC d) σ H Q) : tC v σ H Q := by
  obtain ⟨F, ρ, μ, Qd, sB, ok, rs, t, cl⟩ := h
  exact cl F d μ v H (Stp.refl) ok (r F) t
theorem de_int {i j pos} : DE X B (.Constant (.int i) j pos) (dC (.int i)) := PE.by pe_int fun _ _ _ => le_c fun _ => rep_int.mpr rfl
theorem de_bl {b j pos} : DE X B (.Constant (.bool b) j pos) (dC (.bl b)) := PE.by pe_bl fun _ _ _ => le_c fun _ => rep_bl.mpr rfl
theorem de_non {j pos} : DE X B (.Constant .none j pos) (dC .non) := PE.by pe_non fun _ _ _ => le_c fun _ => rep_non.mpr rfl
theorem de_str {x j pos} : DE X B (.Constant (.str x) j pos) (dC (.str x)) := PE.by pe_str fun _ _ _ => le_c fun _ => rep_str.mpr rfl
/-- a module's name: what it holds -/
structure Glb (K : PySem.W.Frag) (mg : Str → Option Value) (x : Str) (d : D) : Prop where
  ex : ∃ v u, mg x = some u ∧ RelV v u ∧ ∀ F, Rep K F d v
theorem de_glob {x : Str} {d : D} {pos : Pos} (hg : Gl X x) (g : Glb X.K X.mg x d) (hd : (x == ("__debug__" : Str)) = false := by decide) : DE X B (.Name x pos) (dC d) := by
  obtain ⟨v, u, h1, h2, h3⟩ := g.ex
  exact PE.by (pe_glob hg h1 h2 hd) fun _ _ _ => le_c h3
end

/-! ### + - * // % -/
section
variable {X : Cx}
/-- a list: by value, or in the store -/
def asL (μ : MS) (x : D) : Option (List D) := match x with
  | .lst ds => some ds
  | .ref a => (match μ a with
    | some (.lst ds) => some ds
    | _ => none)
  | _ => none
def kAdd : KD := fun x y μ Q => match x, y with
  | .int i, .int j => Q (.int (i + j)) μ
  | .str s, .str t => s.length + t.length ≤ sizeLine ∧ Q (.str (s ++ t)) μ
  | .tup s, .tup t => s.length + t.length ≤ sizeLine ∧ Q (.tup (s ++ t)) μ
  | x, y => (match asL μ x, asL μ y with
    | some s, some t => s.length + t.length ≤ sizeLine ∧ Q (.lst (s ++ t)) μ
    | _, _ => False)
theorem asL_rep {K : PySem.W.Frag} {F : Hp} {μ : MS} {H : Hp} (ok : Ok K F μ H) {x : D} {v : V} {ds : List D} (r : Rep K F x v) (h : asL μ x = some ds) : ∃ a vs, v = .ref a ∧ H a = some (.lst vs) ∧ Reps K F ds vs := by
  cases x with
  | lst es =>
    cases h
    obtain ⟨a, vs, e, h1, h2⟩ := rep_lst.mp r
    exact ⟨a, vs, e, ok.sub _ _ h1, h2⟩
  | ref a =>
    have h' : (match μ a with
      | some (.lst ds) => some ds
      | _ => none) = some ds := h
    split at h'
    · rename_i es em
      cases h'
      obtain ⟨_, vs, h1, h2⟩ := ok.lst _ _ em
      exact ⟨_, vs, rep_ref.mp r, h1, h2⟩
    · cases h'
  | _ => cases h
theorem Ok.sqT {K : PySem.W.Frag} {F : Hp} {μ : MS} {H : Hp} (ok : Ok K F μ H) {a : Addr} {xs : List V} (h : SqT K F a xs) : SqT K H a xs := same_sqT ok.sub h
theorem cl_tup {K : PySem.W.Frag} {F : Hp} {μ : MS} {H : Hp} {Qd : DK} {Q : VK} (ok : Ok K F μ H) (cl : Cl K F μ H Qd Q) {ds : List D} {vs : List V} (r : Reps K F ds vs) (q : Qd (.tup ds) μ) {p : Addr} (hp : H p = none) : Q (.ref p) (upd H p (.tup vs)) :=
  cl (upd F p (.tup vs)) _ μ _ _ (ok.stpFrozen hp) (ok.frozen hp) (rep_tup.mpr ⟨p, vs, rfl, SqT.of upd_same, r.mono (same_upd (ok.freeF hp))⟩) q
theorem cl_lst {K : PySem.W.Frag} {F : Hp} {μ : MS} {H : Hp} {Qd : DK} {Q : VK} (ok : Ok K F μ H) (cl : Cl K F μ H Qd Q) {ds : List D} {vs : List V} (r : Reps K F ds vs) (q : Qd (.lst ds) μ) {p : Addr} (hp : H p = none) : Q (.ref p) (upd H p (.lst vs)) :=
  cl (upd F p (.lst vs)) _ μ _ _ (ok.stpFrozen hp) (ok.frozen hp) (rep_lst.mpr ⟨p, vs, rfl, upd_same, r.mono (same_upd (ok.freeF hp))⟩) q
theorem cl_lstM {K : PySem.W.Frag} {F : Hp} {μ : MS} {H : Hp} {Qd : DK} {Q : VK} (ok : Ok K F μ H) (cl : Cl K F μ H Qd Q) {ds : List D} {vs : List V} (r : Reps K F ds vs) (q : ∀ a, μ a = none → Qd (.ref a) (mset μ a (some (.lst ds)))) {p : Addr} (hp : H p = none) : Q (.ref p) (upd H p (.lst vs)) :=
  cl F _ _ _ _ (stpNew hp) (ok.put (ok.freeF hp) (fun u e => by rw [hp] at e; cases e) r) (rep_ref.mpr rfl) (q p (ok.freeM hp))
theorem do_add : DOp X (binaryOp .Add) kAdd := by
  intro pins s σ H v w vv ww Q I rv rw' ⟨F, μ, x, y, Qd, ok, rx, ry, hk, cl⟩
  unfold kAdd at hk
  split at hk
  · obtain rfl := rep_int.mp rx
    obtain rfl := rep_int.mp ry
    exact op_add pins s σ H _ _ vv ww Q I rv rw' ⟨_, _, rfl, rfl, cl F _ μ _ H (Stp.refl) ok (rep_int.mpr rfl) hk⟩
  · obtain rfl := rep_str.mp rx
    obtain rfl := rep_str.mp ry
    exact op_add_str pins s σ H _ _ vv ww Q I rv rw' ⟨_, _, rfl, rfl, hk.1, cl F _ μ _ H (Stp.refl) ok (rep_str.mpr rfl) hk.2⟩
  · obtain ⟨a, vs, rfl, h1, h2⟩ := rep_tup.mp rx
    obtain ⟨b, ws, rfl, h3, h4⟩ := rep_tup.mp ry
    have l1 := h2.length
    have l2 := h4.length
    refine op_catA pins s σ H _ _ vv ww Q I rv rw' ⟨a, b, vs, ws, rfl, rfl, ok.sqT h1, ok.sqT h3, by omega, fun e => ?_, fun _ e => ?_, fun _ _ p hp => cl_tup ok cl (h2.append h4) hk.2 hp⟩
    · subst e
      rename_i ss tt
      have : ss = [] := List.eq_nil_of_length_eq_zero l1
      subst this
      exact cl F _ μ _ H (Stp.refl) ok (rep_tup.mpr ⟨b, ws, rfl, h3, h4⟩) hk.2
    · subst e
      rename_i ss tt _
      have : tt = [] := List.eq_nil_of_length_eq_zero l2
      subst this
      exact cl F _ μ _ H (Stp.refl) ok (rep_tup.mpr ⟨a, vs, rfl, h1, h2⟩) (by simpa using hk.2)
  · split at hk
    · rename_i ss tt e1 e2
      obtain ⟨a, vs, rfl, h1, h2⟩ := asL_rep ok rx e1
      obtain ⟨b, ws, rfl, h3, h4⟩ := asL_rep ok ry e2
      have l1 := h2.length
      have l2 := h4.length
      exact op_cat pins s σ H _ _ vv ww Q I rv rw' ⟨a, b, vs, ws, rfl, rfl, h1, h3, by omega, fun p hp => cl_lst ok cl (h2.append h4) hk.2 hp⟩
    · exact hk.elim
/-- list + list, the new one to be changed -/
def kAddM : KD := fun x y μ Q => match asL μ x, asL μ y with
  | some s, some t => s.length + t.length ≤ sizeLine ∧ ∀ a, μ a = none → Q (.ref a) (mset μ a (some (.lst (s ++ t))))
  | _, _ => False
theorem do_addM : DOp X (binaryOp .Add) kAddM := by
  intro pins s σ H v w vv ww Q I rv rw' ⟨F, μ, x, y, Qd, ok, rx, ry, hk, cl⟩
  unfold kAddM at hk
  split at hk
  · rename_i ss tt e1 e2
    obtain ⟨a, vs, rfl, h1, h2⟩ := asL_rep ok rx e1
    obtain ⟨b, ws, rfl, h3, h4⟩ := asL_rep ok ry e2
    have l1 := h2.length
    have l2 := h4.length
    exact op_cat pins s σ H _ _ vv ww Q I rv rw' ⟨a, b, vs, ws, rfl, rfl, h1, h3, by omega, fun p hp => cl_lstM ok cl (h2.append h4) hk.2 hp⟩
  · exact hk.elim
def kSub : KD := fun x y μ Q => match x, y with
  | .int i, .int j => Q (.int (i - j)) μ
  | _, _ => False
theorem do_sub : DOp X (binaryOp .Sub) kSub := by
  intro pins s σ H v w vv ww Q I rv rw' ⟨F, μ, x, y, Qd, ok, rx, ry, hk, cl⟩
  unfold kSub at hk
  split at hk
  · obtain rfl := rep_int.mp rx
    obtain rfl := rep_int.mp ry
    exact op_sub pins s σ H _ _ vv ww Q I rv rw' ⟨_, _, rfl, rfl, cl F _ μ _ H (Stp.refl) ok (rep_int.mpr rfl) hk⟩
  · exact hk.elim
/-- a product that the model carries out -/
def MulOk (i j : Int) : Prop := CMul i j ∨ CMulW i j
def kMul : KD := fun x y μ Q => match x, y with
  | .int i, .int j => MulOk i j ∧ Q (.int (i * j)) μ
  | _, _ => False
theorem do_mul : DOp X (binaryOp .Mult) kMul := by
  intro pins s σ H v w vv ww Q I rv rw' ⟨F, μ, x, y, Qd, ok, rx, ry, hk, cl⟩
  unfold kMul at hk
  split at hk
  · obtain rfl := rep_int.mp rx
    obtain rfl := rep_int.mp ry
    have q := cl F _ μ _ H (Stp.refl) ok (rep_int.mpr rfl) hk.2
    rcases hk.1 with h | h
    · exact op_mul pins s σ H _ _ vv ww Q I rv rw' ⟨_, _, rfl, rfl, h, q⟩
    · exact op_mulW pins s σ H _ _ vv ww Q I rv rw' ⟨_, _, rfl, rfl, h, q⟩
  · exact hk.elim
/-- a positive divisor -/
def DivOk (j : Int) : Prop := 0 < j ∧ j.natAbs.log2 < 9000
def kDiv : KD := fun x y μ Q => match x, y with
  | .int i, .int j => DivOk j ∧ Q (.int (i / j)) μ
  | _, _ => False
theorem do_div : DOp X (binaryOp .FloorDiv) kDiv := by
  intro pins s σ H v w vv ww Q I rv rw' ⟨F, μ, x, y, Qd, ok, rx, ry, hk, cl⟩
  unfold kDiv at hk
  split at hk
  · obtain rfl := rep_int.mp rx
    obtain rfl := rep_int.mp ry
    exact op_fdivW pins s σ H _ _ vv ww Q I rv rw' ⟨_, _, rfl, rfl, hk.1, cl F _ μ _ H (Stp.refl) ok (rep_int.mpr rfl) hk.2⟩
  · exact hk.elim
def kMod : KD := fun x y μ Q => match x, y with
  | .int i, .int j => 0 < j ∧ Q (.int (i % j)) μ
  | _, _ => False
theorem do_mod : DOp X (binaryOp .Mod) kMod := by
  intro pins s σ H v w vv ww Q I rv rw' ⟨F, μ, x, y, Qd, ok, rx, ry, hk, cl⟩
  unfold kMod at hk
  split at hk
  · obtain rfl := rep_int.mp rx
    obtain rfl := rep_int.mp ry
    exact op_mod pins s σ H _ _ vv ww Q I rv rw' ⟨_, _, rfl, rfl, hk.1, cl F _ μ _ H (Stp.refl) ok (rep_int.mpr rfl) hk.2⟩
  · exact hk.elim
def kNeg (x : D) (μ : MS) (Q : DK) : Prop := match x with
  | .int i => Q (.int (-i)) μ
  | _ => False
def dNeg (te : DTE) : DTE := fun ρ μ Q => te ρ μ fun x μ1 => kNeg x μ1 Q
theorem de_neg {B : Ent} {a : Expr} {ta : DTE} {pos : Pos} (ha : DE X B a ta) : DE X B (.UnaryOp .USub a pos) (dNeg ta) := PE.by (pe_un un_neg ha) fun σ H Q ⟨F, ρ, μ, Qd, sB, ok, rs, t, cl⟩ => by
  refine ⟨F, ρ, μ, _, sB, ok, rs, t, fun F1 x μ1 v H1 s1 ok1 rx t1 => ?_⟩
  unfold kNeg at t1
  split at t1
  · exact ⟨_, rep_int.mp rx, cl F1 _ μ1 _ H1 s1 ok1 (rep_int.mpr rfl) t1⟩
  · exact t1.elim
def kPow : KD := fun x y μ Q => match x, y with
  | .int i, .int j => CPow i j ∧ Q (.int (i ^ j.toNat)) μ
  | _, _ => False
theorem do_pow : DOp X (binaryOp .Pow) kPow := by
  intro pins s σ H v w vv ww Q I rv rw' ⟨F, μ, x, y, Qd, ok, rx, ry, hk, cl⟩
  unfold kPow at hk
  split at hk
  · obtain rfl := rep_int.mp rx
    obtain rfl := rep_int.mp ry
    exact op_pow pins s σ H _ _ vv ww Q I rv rw' ⟨_, _, rfl, rfl, hk.1, cl F _ μ _ H (Stp.refl) ok (rep_int.mpr rfl) hk.2⟩
  · exact hk.elim

/-! ### comparisons -/
abbrev okEq (x y : D) : Prop := x.lay = true ∧ y.lay = true ∧ (x.dep ≤ 64 ∧ y.dep ≤ 64)
def kEq : KD := fun x y μ Q => okEq x y ∧ Q (.bl (deq x y)) μ
def kNe : KD := fun x y μ Q => okEq x y ∧ Q (.bl (!deq x y)) μ
theorem shaped_of {d : D} (h : d.lay = true) (h2 : d.dep ≤ 64) : SeqAt.shaped d.py = true := by
  show (d.py.canLay0 && decide (d.py.depth ≤ 64)) = true
  rw [Bool.and_eq_true, py_lay]
  exact ⟨h, decide_eq_true (by rw [py_dep d h]; exact h2)⟩
theorem do_eq (hu : X.A.units + 65 < cLine) : DOp X (compareOp .Eq) kEq := by
  have hu : X.A.units + 64 < cLine := by omega
  intro pins s σ H v w vv ww Q I rv rw' ⟨F, μ, x, y, Qd, ok, rx, ry, ⟨⟨h1, h2, h3, h4⟩, hk⟩, cl⟩
  refine op_eqD hu pins s σ H v w vv ww Q I rv rw' ⟨x.py, y.py, rep_dp ok.sub h1 rx, rep_dp ok.sub h2 ry, shaped_of h1 h3, shaped_of h2 h4, ?_⟩
  rw [deq_py x y h1 h2]
  exact cl F _ μ _ H (Stp.refl) ok (rep_bl.mpr rfl) hk
theorem do_ne (hu : X.A.units + 65 < cLine) : DOp X (compareOp .NotEq) kNe := by
  have hu : X.A.units + 64 < cLine := by omega
  intro pins s σ H v w vv ww Q I rv rw' ⟨F, μ, x, y, Qd, ok, rx, ry, ⟨⟨h1, h2, h3, h4⟩, hk⟩, cl⟩
  refine op_neD hu pins s σ H v w vv ww Q I rv rw' ⟨x.py, y.py, rep_dp ok.sub h1 rx, rep_dp ok.sub h2 ry, shaped_of h1 h3, shaped_of h2 h4, ?_⟩
  rw [deq_py x y h1 h2]
  exact cl F _ μ _ H (Stp.refl) ok (rep_bl.mpr rfl) hk
def kCmp (f : Int → Int → Bool) : KD := fun x y μ Q => match x, y with
  | .int i, .int j => Q (.bl (f i j)) μ
  | _, _ => False
theorem do_cmp {op : CmpOp} {f : Int → Int → Bool} (h : OpR X (compareOp op) (rI0 fun i j => .bl (f i j))) : DOp X (compareOp op) (kCmp f) := by
  intro pins s σ H v w vv ww Q I rv rw' ⟨F, μ, x, y, Qd, ok, rx, ry, hk, cl⟩
  unfold kCmp at hk
  split at hk
  · obtain rfl := rep_int.mp rx
    obtain rfl := rep_int.mp ry
    exact h pins s σ H _ _ vv ww Q I rv rw' ⟨_, _, rfl, rfl, cl F _ μ _ H (Stp.refl) ok (rep_bl.mpr rfl) hk⟩
  · exact hk.elim
abbrev kLt : KD := kCmp fun i j => decide (i < j)
abbrev kLe : KD := kCmp fun i j => decide (i ≤ j)
abbrev kGt : KD := kCmp fun i j => decide (j < i)
abbrev kGe : KD := kCmp fun i j => decide (j ≤ i)
theorem do_lt : DOp X (compareOp .Lt) kLt := do_cmp op_lt
theorem do_le : DOp X (compareOp .LtE) kLe := do_cmp op_le
theorem do_gt : DOp X (compareOp .Gt) kGt := do_cmp op_gt
theorem do_ge : DOp X (compareOp .GtE) kGe := do_cmp op_ge
/-- is None, is a bool -/
def isNon : D → Bool
  | .non => true
  | _ => false
def kIs : KD := fun x y μ Q => match y with
  | .non => Q (.bl (isNon x)) μ
  | _ => False
def kIsNot : KD := fun x y μ Q => match y with
  | .non => Q (.bl (!isNon x)) μ
  | _ => False
theorem isNon_rep {K : PySem.W.Frag} {F : Hp} {x : D} {v : V} (r : Rep K F x v) : decide (v = V.non) = isNon x := by
  cases x with
  | non => rw [rep_non.mp r]; rfl
  | bl b => rw [rep_bl.mp r]; rfl
  | int i => rw [rep_int.mp r]; rfl
  | str i => rw [rep_str.mp r]; rfl
  | ref i => rw [rep_ref.mp r]; rfl
  | ty i => rw [rep_ty.mp r]; rfl
  | tup ds => obtain ⟨a, _, rfl, _⟩ := rep_tup.mp r; rfl
  | lst ds => obtain ⟨a, _, rfl, _⟩ := rep_lst.mp r; rfl
  | scr ds => obtain ⟨a, rfl, _⟩ := rep_scr.mp r; rfl
theorem do_is : DOp X (compareOp .Is) kIs := by
  intro pins s σ H v w vv ww Q I rv rw' ⟨F, μ, x, y, Qd, ok, rx, ry, hk, cl⟩
  unfold kIs at hk
  split at hk
  · obtain rfl := rep_non.mp ry
    exact op_isN pins s σ H _ _ vv ww Q I rv rw' ⟨rfl, by rw [isNon_rep rx]; exact cl F _ μ _ H (Stp.refl) ok (rep_bl.mpr rfl) hk⟩
  · exact hk.elim
theorem do_isNot : DOp X (compareOp .IsNot) kIsNot := by
  intro pins s σ H v w vv ww Q I rv rw' ⟨F, μ, x, y, Qd, ok, rx, ry, hk, cl⟩
  unfold kIsNot at hk
  split at hk
  · obtain rfl := rep_non.mp ry
    exact op_notN pins s σ H _ _ vv ww Q I rv rw' ⟨rfl, by rw [isNon_rep rx]; exact cl F _ μ _ H (Stp.refl) ok (rep_bl.mpr rfl) hk⟩
  · exact hk.elim
end

/-! ### comparisons as values, as tests -/
def dTest (t : DTE) : DTT := fun ρ μ Q => t ρ μ fun d μ1 => match d with
  | .bl b => Q b μ1
  | _ => False
section
variable {X : Cx} {B : Ent} {a b c : Expr} {ta tb tc : DTE} {pos : Pos} {op op' : CmpOp} {k k' : KD}
theorem lt_test {t : TE} {td : DTE} (h : ∀ σ H Q, LE X.K B td σ H Q → t σ H Q) {σ : L2.St} {H : Hp} {Q : Bool → Hp → Prop} (q : LT X.K B (dTest td) σ H Q) : tTest t σ H Q := by
  obtain ⟨F, ρ, μ, Qd, sB, ok, rs, t, cl⟩ := q
  refine h σ H _ ⟨F, ρ, μ, _, sB, ok, rs, t, fun F1 d μ1 v H1 s1 ok1 rd t1 => ?_⟩
  cases d with
  | bl b => exact ⟨b, rep_bl.mp rd, cl F1 b μ1 H1 s1 ok1 t1⟩
  | _ => exact t1.elim
theorem de_cmp (ho : DOp X (compareOp op) k) (ha : DE X B a ta) (hb : DE X B b tb) (hm : behindInMarks op b = false) : DE X B (.Compare a [op] [b] pos) (dBin k ta tb) := PE.by (pe_cmpR ho ha hb hm) fun _ _ _ => le_bin
theorem dt_cmp (ho : DOp X (compareOp op) k) (ha : DE X B a ta) (hb : DE X B b tb) (hm : behindInMarks op b = false) : DT X B (.Compare a [op] [b] pos) (dTest (dBin k ta tb)) := PT.by (pt_cmpR ho ha hb hm) fun _ _ _ => lt_test fun _ _ _ => le_bin
theorem dt_val {e : Expr} {t : DTE} (h : DE X B e t) (he : ∀ whole, isTrue e X.env whole = (do let v ← whole; standAt e.pos; holding [v] (truthy v)) := by intro _; rfl) : DT X B e (dTest t) :=
  PT.by (pt_val h he) fun σ H Q q => lt_test (fun _ _ _ z => z) q
/-- a < b < c -/
def dChain (k k' : KD) (ta tb tc : DTE) : DTE := fun ρ μ Q => ta ρ μ fun x μ1 => tb ρ μ1 fun y μ2 => k x y μ2 fun z μ3 => match z with
  | .bl b => bcase b (tc ρ μ3 fun w μ4 => k' y w μ4 Q) (Q (.bl false) μ3)
  | _ => False

/-! ### and, or, not, if else -/
def dAnd (t u : DTT) : DTT := fun ρ μ Q => t ρ μ fun b μ1 => bcase b (u ρ μ1 Q) (Q false μ1)
def dOr (t u : DTT) : DTT := fun ρ μ Q => t ρ μ fun b μ1 => bcase b (Q true μ1) (u ρ μ1 Q)
def dNot (t : DTT) : DTT := fun ρ μ Q => t ρ μ fun b μ1 => Q (!b) μ1
variable {rest : List Expr} {tA tB : DTT}
theorem dw_and1 (ha : DT X B a tA) : DW X B (.BoolOp .And [a] pos) tA := pw_and1 ha
theorem dw_or1 (ha : DT X B a tA) : DW X B (.BoolOp .Or [a] pos) tA := pw_or1 ha
theorem dw_and (ha : DT X B a tA) (hb : DW X B (.BoolOp .And (b :: rest) pos) tB) : DW X B (.BoolOp .And (a :: b :: rest) pos) (dAnd tA tB) := PW.by (pw_and ha hb) fun σ H Q ⟨F, ρ, μ, Qd, sB, ok, rs, t, cl⟩ => by
  refine ⟨F, ρ, μ, _, sB, ok, rs, t, fun F1 b μ1 H1 s1 ok1 t1 => ?_⟩
  cases b with
  | true => rw [if_pos rfl]; exact ⟨F1, ρ, μ1, Qd, sB.trans s1, ok1, rs.mono s1.s, t1, fun F2 c μ2 H2 s2 => cl F2 c μ2 H2 (s1.trans s2)⟩
  | false => rw [if_neg Bool.false_ne_true]; exact cl F1 false μ1 H1 s1 ok1 t1
theorem dw_or (ha : DT X B a tA) (hb : DW X B (.BoolOp .Or (b :: rest) pos) tB) : DW X B (.BoolOp .Or (a :: b :: rest) pos) (dOr tA tB) := PW.by (pw_or ha hb) fun σ H Q ⟨F, ρ, μ, Qd, sB, ok, rs, t, cl⟩ => by
  refine ⟨F, ρ, μ, _, sB, ok, rs, t, fun F1 b μ1 H1 s1 ok1 t1 => ?_⟩
  cases b with
  | true => rw [if_pos rfl]; exact cl F1 true μ1 H1 s1 ok1 t1
  | false => rw [if_neg Bool.false_ne_true]; exact ⟨F1, ρ, μ1, Qd, sB.trans s1, ok1, rs.mono s1.s, t1, fun F2 c μ2 H2 s2 => cl F2 c μ2 H2 (s1.trans s2)⟩
theorem dt_not (ha : DT X B a tA) : DT X B (.UnaryOp .Not a pos) (dNot tA) := PT.by (pt_not ha) fun σ H Q ⟨F, ρ, μ, Qd, sB, ok, rs, t, cl⟩ =>
  ⟨F, ρ, μ, _, sB, ok, rs, t, fun F1 b μ1 H1 s1 ok1 t1 => cl F1 (!b) μ1 H1 s1 ok1 t1⟩
/-- as values: all but the last True or False -/
def dAndV (ta tb : DTE) : DTE := fun ρ μ Q => ta ρ μ fun d μ1 => match d with
  | .bl b => bcase b (tb ρ μ1 Q) (Q (.bl false) μ1)
  | _ => False
def dOrV (ta tb : DTE) : DTE := fun ρ μ Q => ta ρ μ fun d μ1 => match d with
  | .bl b => bcase b (Q (.bl true) μ1) (tb ρ μ1 Q)
  | _ => False
def dNotV (ta : DTE) : DTE := fun ρ μ Q => ta ρ μ fun d μ1 => match d with
  | .bl b => Q (.bl (!b)) μ1
  | _ => False
theorem de_one {bop} {t : DTE} (h : DE X B a t) : DE X B (.BoolOp bop [a] pos) t := pe_one h
theorem de_and (ha : DE X B a ta) (hb : DE X B (.BoolOp .And (b :: rest) pos) tb) : DE X B (.BoolOp .And (a :: b :: rest) pos) (dAndV ta tb) := PE.by (pe_and ha hb) fun σ H Q ⟨F, ρ, μ, Qd, sB, ok, rs, t, cl⟩ => by
  refine ⟨F, ρ, μ, _, sB, ok, rs, t, fun F1 d μ1 v H1 s1 ok1 rd t1 => ?_⟩
  split at t1
  · rename_i b
    cases b with
    | true => exact ⟨true, rep_bl.mp rd, by rw [if_pos rfl]; exact ⟨F1, ρ, μ1, Qd, sB.trans s1, ok1, rs.mono s1.s, t1, cl.mono s1⟩⟩
    | false => exact ⟨false, rep_bl.mp rd, by rw [if_neg Bool.false_ne_true]; exact cl F1 _ μ1 _ H1 s1 ok1 (rep_bl.mpr rfl) t1⟩
  · exact t1.elim
theorem de_or (ha : DE X B a ta) (hb : DE X B (.BoolOp .Or (b :: rest) pos) tb) : DE X B (.BoolOp .Or (a :: b :: rest) pos) (dOrV ta tb) := PE.by (pe_or ha hb) fun σ H Q ⟨F, ρ, μ, Qd, sB, ok, rs, t, cl⟩ => by
  refine ⟨F, ρ, μ, _, sB, ok, rs, t, fun F1 d μ1 v H1 s1 ok1 rd t1 => ?_⟩
  split at t1
  · rename_i b
    cases b with
    | true => exact ⟨true, rep_bl.mp rd, by rw [if_pos rfl]; exact cl F1 _ μ1 _ H1 s1 ok1 (rep_bl.mpr rfl) t1⟩
    | false => exact ⟨false, rep_bl.mp rd, by rw [if_neg Bool.false_ne_true]; exact ⟨F1, ρ, μ1, Qd, sB.trans s1, ok1, rs.mono s1.s, t1, cl.mono s1⟩⟩
  · exact t1.elim
theorem de_not (ha : DE X B a ta) : DE X B (.UnaryOp .Not a pos) (dNotV ta) := PE.by (pe_not ha) fun σ H Q ⟨F, ρ, μ, Qd, sB, ok, rs, t, cl⟩ => by
  refine ⟨F, ρ, μ, _, sB, ok, rs, t, fun F1 d μ1 v H1 s1 ok1 rd t1 => ?_⟩
  split at t1
  · rename_i b
    exact ⟨b, rep_bl.mp rd, cl F1 _ μ1 _ H1 s1 ok1 (rep_bl.mpr rfl) t1⟩
  · exact t1.elim
def dIf (t : DTT) (ta tb : DTE) : DTE := fun ρ μ Q => t ρ μ fun b μ1 => bcase b (ta ρ μ1 Q) (tb ρ μ1 Q)
theorem de_ifExp (hc : DT X B c tA) (ha : DE X B a ta) (hb : DE X B b tb) : DE X B (.IfExp c a b pos) (dIf tA ta tb) := PE.by (pe_ifExp hc ha hb) fun σ H Q ⟨F, ρ, μ, Qd, sB, ok, rs, t, cl⟩ => by
  refine ⟨F, ρ, μ, _, sB, ok, rs, t, fun F1 b μ1 H1 s1 ok1 t1 => ?_⟩
  cases b with
  | true => rw [if_pos rfl]; exact ⟨F1, ρ, μ1, Qd, sB.trans s1, ok1, rs.mono s1.s, t1, cl.mono s1⟩
  | false => rw [if_neg Bool.false_ne_true]; exact ⟨F1, ρ, μ1, Qd, sB.trans s1, ok1, rs.mono s1.s, t1, cl.mono s1⟩
end
end Li

set_option Elab.async false
set_option linter.all false
set_option maxRecDepth 100000
set_option maxHeartbeats 1000000
/-! Subscripts, displays, calls of built-ins, statements, loops, comprehensions over data. -/
namespace Li
open PySem PySem.Spec PyProof.Rows L2
variable [Tbl]

section
variable {X : Cx} {B : Ent} {a b c : Expr} {ta tb tc : DTE} {pos : Pos} {op op' : CmpOp} {k k' : KD}
theorem le_chain {K : PySem.W.Frag} {B : Ent} {σ : L2.St} {H : Hp} {Q : VK} (h : LE K B (dChain k k' ta tb tc) σ H Q) : tChain (L2R K k) (L2R K k') (LE K B ta) (LE K B tb) (LE K B tc) σ H Q := by
  obtain ⟨F, ρ, μ, Qd, sB, ok, rs, t, cl⟩ := h
  refine ⟨F, ρ, μ, _, sB, ok, rs, t, fun F1 x μ1 v H1 s1 ok1 rx t1 => ?_⟩
  refine ⟨F1, ρ, μ1, _, sB.trans s1, ok1, rs.mono s1.s, t1, fun F2 y μ2 w H2 s2 ok2 ry t2 => ?_⟩
  refine ⟨F2, μ2, x, y, _, ok2, rx.mono s2.s, ry, t2, fun F3 z μ3 zv H3 s3 ok3 rz t3 => ?_⟩
  split at t3
  · rename_i b
    cases b with
    | false =>
      refine ⟨false, rep_bl.mp rz, ?_⟩
      rw [if_neg Bool.false_ne_true]
      exact cl F3 _ μ3 _ H3 ((s1.trans s2).trans s3) ok3 (rep_bl.mpr rfl) t3
    | true =>
    refine ⟨true, rep_bl.mp rz, ?_⟩
    rw [if_pos rfl]
    refine ⟨F3, ρ, μ3, _, (sB.trans (s1.trans s2)).trans s3, ok3, rs.mono ((s1.trans s2).trans s3).s, t3, fun F4 w' μ4 wv H4 s4 ok4 rw' t4 => ?_⟩
    exact ⟨F4, μ4, y, w', Qd, ok4, ry.mono (s3.trans s4).s, rw', t4, cl.mono ((s1.trans s2).trans (s3.trans s4))⟩
  · exact t3.elim
theorem de_chain (ho : DOp X (compareOp op) k) (ho' : DOp X (compareOp op') k') (ha : DE X B a ta) (hb : DE X B b tb) (hc : DE X B c tc) (hm : lastMarks [op, op'] [b, c] = false := by with_unfolding_all rfl) :
    DE X B (.Compare a [op, op'] [b, c] pos) (dChain k k' ta tb tc) := PE.by (pe_chain ho ho' ha hb hc hm) fun _ _ _ => le_chain
theorem dt_chain (ho : DOp X (compareOp op) k) (ho' : DOp X (compareOp op') k') (ha : DE X B a ta) (hb : DE X B b tb) (hc : DE X B c tc) (hm : lastMarks [op, op'] [b, c] = false := by with_unfolding_all rfl) :
    DT X B (.Compare a [op, op'] [b, c] pos) (dTest (dChain k k' ta tb tc)) := PT.by (pt_chain ho ho' ha hb hc hm) fun _ _ _ => lt_test fun _ _ _ => le_chain
end

/-! ### x[i] -/
def getK (o : Option D) (k : D → Prop) : Prop := match o with
  | some d => k d
  | none => False
def kIx : KD := fun x y μ Q => match x, y with
  | .tup ds, .int i => getK (atI ds i) fun d => Q d μ
  | .lst ds, .int i => getK (atI ds i) fun d => Q d μ
  | .str z, .int i => z.length ≤ sizeLine ∧ getK ((atI z.cps.toList i).map fun c => .str ⟨#[c]⟩) fun d => Q d μ
  | .scr ns, .int i => getK ((atI ns i).map D.int) fun d => Q d μ
  | .ref a, .int i => refL (μ a) fun ds => getK (atI ds i) fun d => Q d μ
  | _, _ => False
theorem getK_of {o : Option D} {k : D → Prop} (h : getK o k) : ∃ d, o = some d ∧ k d := by
  cases o with
  | none => exact h.elim
  | some d => exact ⟨d, rfl, h⟩
theorem getK_some {o : Option D} {d : D} {k : D → Prop} (h : o = some d) (q : k d) : getK o k := by subst h; exact q
theorem reps_atI {K : PySem.W.Frag} {F : Hp} {ds : List D} {vs : List V} {i : Int} {d : D} (r : Reps K F ds vs) (h : atI ds i = some d) : ∃ v, atI vs i = some v ∧ Rep K F d v := by
  unfold atI at h ⊢
  rw [← r.length]
  cases e : ixN ds.length i with
  | none => rw [e] at h; cases h
  | some j =>
    rw [e] at h
    exact r.get h
theorem atI_map {α β : Type} (f : α → β) {xs : List α} {i : Int} : atI (xs.map f) i = (atI xs i).map f := by
  unfold atI
  rw [List.length_map]
  cases ixN xs.length i with
  | none => rfl
  | some j => simp
section
variable {X : Cx} {B : Ent} {a b c e : Expr} {ta tb tc te : DTE} {pos : Pos}
theorem ix_all : IxR X (L2R X.K kIx) := by
  intro value slice pins s σ H v w vv ww Q I rv rw' ⟨F, μ, x, y, Qd, ok, rx, ry, hk, cl⟩ hs
  unfold kIx at hk
  split at hk
  · obtain ⟨p, vs, rfl, h1, h2⟩ := rep_tup.mp rx
    obtain rfl := rep_int.mp ry
    obtain ⟨d, e, q⟩ := getK_of hk
    obtain ⟨v, e', r⟩ := reps_atI h2 e
    exact ix_tup value slice pins s σ H _ _ vv ww Q I rv rw' ⟨p, vs, _, v, rfl, rfl, ok.sqT h1, e', cl F d μ v H (Stp.refl) ok r q⟩ hs
  · obtain ⟨p, vs, rfl, h1, h2⟩ := rep_lst.mp rx
    obtain rfl := rep_int.mp ry
    obtain ⟨d, e, q⟩ := getK_of hk
    obtain ⟨v, e', r⟩ := reps_atI h2 e
    exact ix_list value slice pins s σ H _ _ vv ww Q I rv rw' ⟨p, vs, _, v, rfl, rfl, SqL.of (ok.sub _ _ h1), e', cl F d μ v H (Stp.refl) ok r q⟩ hs
  · obtain rfl := rep_str.mp rx
    obtain rfl := rep_int.mp ry
    obtain ⟨hz, hk⟩ := hk
    obtain ⟨d, e, q⟩ := getK_of hk
    cases e2 : atI (Str.cps _).toList _ with
    | none => rw [e2] at e; cases e
    | some c =>
      rw [e2] at e; cases e
      exact ix_str value slice pins s σ H _ _ vv ww Q I rv rw' ⟨_, _, c, rfl, rfl, hz, e2, cl F _ μ _ H (Stp.refl) ok (rep_str.mpr rfl) q⟩ hs
  · obtain ⟨p, rfl, h1⟩ := rep_scr.mp rx
    obtain rfl := rep_int.mp ry
    obtain ⟨d, e, q⟩ := getK_of hk
    rename_i ns i
    cases e2 : atI ns i with
    | none => rw [e2] at e; cases e
    | some c =>
      rw [e2] at e; cases e
      exact ix_list value slice pins s σ H _ _ vv ww Q I rv rw' ⟨p, _, _, V.int c, rfl, rfl, ok.sub.seq h1, by rw [atI_map, e2]; rfl, cl F _ μ _ H (Stp.refl) ok (rep_int.mpr rfl) q⟩ hs
  · obtain rfl := rep_ref.mp rx
    obtain rfl := rep_int.mp ry
    obtain ⟨ds, em, hk⟩ := refL_elim hk
    obtain ⟨_, vs, h1, h2⟩ := ok.lst _ ds em
    obtain ⟨d, e, q⟩ := getK_of hk
    obtain ⟨v, e', r⟩ := reps_atI h2 e
    exact ix_list value slice pins s σ H _ _ vv ww Q I rv rw' ⟨_, vs, _, v, rfl, rfl, SqL.of h1, e', cl F d μ v H (Stp.refl) ok r q⟩ hs
  · exact hk.elim
theorem de_ix (ha : DE X B a ta) (hb : DE X B b tb) (hs : PlainIx b := by intro _ _; rfl) : DE X B (.Subscript a b pos) (dBin kIx ta tb) := PE.by (pe_ix ix_all ha hb hs) fun _ _ _ => le_bin

/-! ### x[lo:hi] -/
abbrev DTO := DSt → MS → (Option Int → MS → Prop) → Prop
def LO (K : PySem.W.Frag) (B : Ent) (t : DTO) : TO := fun σ H Q => ∃ F ρ μ Qd, B.to F μ H ∧ Ok K F μ H ∧ RelS K F ρ σ ∧ t ρ μ Qd ∧ ∀ F' o μ' H', Stp F μ H F' μ' H' → Ok K F' μ' H' → Qd o μ' → Q o H'
abbrev DO (X : Cx) (B : Ent) (e : Option Expr) (t : DTO) : Prop := PO X e (LO X.K B t)
def dNoPart : DTO := fun _ μ Q => Q none μ
def dPart (t : DTE) : DTO := fun ρ μ Q => t ρ μ fun d μ1 => match d with
  | .int i => Q (some i) μ1
  | _ => False
theorem PO.by {e : Option Expr} {t u : TO} (h : PO X e t) (i : ∀ σ H Q, u σ H Q → t σ H Q) : PO X e u := ⟨fun pins s σ H Q I q => h.run pins s σ H Q I (i σ H Q q)⟩
theorem do_none : DO X B none dNoPart := PO.by po_none fun σ H Q ⟨F, ρ, μ, Qd, sB, ok, rs, t, cl⟩ => cl F none μ H (Stp.refl) ok t
theorem do_some (h : DE X B e te) : DO X B (some e) (dPart te) := PO.by (po_some h) fun σ H Q ⟨F, ρ, μ, Qd, sB, ok, rs, t, cl⟩ => by
  refine ⟨F, ρ, μ, _, sB, ok, rs, t, fun F1 d μ1 v H1 s1 ok1 rd t1 => ?_⟩
  split at t1
  · rename_i i
    exact ⟨i, rep_int.mp rd, cl F1 _ μ1 H1 s1 ok1 t1⟩
  · exact t1.elim
def cut {α : Type} (xs : List α) (lo hi : Option Int) : List α := (xs.drop (HT.sIx xs.length 0 lo)).take (HT.sIx xs.length xs.length hi - HT.sIx xs.length 0 lo)
def kSl (x : D) (lo hi : Option Int) (μ : MS) (Q : DK) : Prop := match x with
  | .tup ds => Q (.tup (cut ds lo hi)) μ
  | .lst ds => Q (.lst (cut ds lo hi)) μ
  | .str z => z.length ≤ sizeLine ∧ Q (.str (cutS z lo hi)) μ
  | .ref a => refL (μ a) fun ds => Q (.lst (cut ds lo hi)) μ
  | _ => False
theorem reps_cut {K : PySem.W.Frag} {F : Hp} {ds : List D} {vs : List V} {lo hi : Option Int} (r : Reps K F ds vs) : Reps K F (cut ds lo hi) (cutV vs lo hi) := by
  unfold cut cutV
  rw [← r.length]
  exact (r.drop _).take _
def dSl (te : DTE) (tl th : DTO) : DTE := fun ρ μ Q => te ρ μ fun x μ1 => tl ρ μ1 fun lo μ2 => th ρ μ2 fun hi μ3 => kSl x lo hi μ3 Q
theorem cut_all {ds : List D} {lo hi : Option Int} (h : HT.sIx ds.length 0 lo = 0 ∧ HT.sIx ds.length ds.length hi = ds.length) : cut ds lo hi = ds := by
  unfold cut
  rw [h.1, h.2]; simp
theorem sl_all : SlR X (fun v lo hi H Q => ∃ F μ x Qd, Ok X.K F μ H ∧ Rep X.K F x v ∧ kSl x lo hi μ Qd ∧ Cl X.K F μ H Qd Q) := by
  intro pins s σ H v vv vl vu lo hi sl Q I rv hs pl pu ⟨F, μ, x, Qd, ok, rx, hk, cl⟩
  unfold kSl at hk
  split at hk
  · obtain ⟨p, vs, rfl, h1, h2⟩ := rep_tup.mp rx
    have hl := h2.length
    refine sl_tupA pins s σ H _ vv vl vu lo hi sl Q I rv hs pl pu ⟨p, vs, rfl, ok.sqT h1, fun z => ?_, fun _ q hq => cl_tup ok cl (reps_cut h2) hk hq⟩
    rw [← hl] at z
    rw [cut_all z] at hk
    exact cl F _ μ _ H (Stp.refl) ok (rep_tup.mpr ⟨p, vs, rfl, h1, h2⟩) hk
  · obtain ⟨p, vs, rfl, h1, h2⟩ := rep_lst.mp rx
    exact sl_list pins s σ H _ vv vl vu lo hi sl Q I rv hs pl pu ⟨p, vs, rfl, SqL.of (ok.sub _ _ h1), fun q hq => cl_lst ok cl (reps_cut h2) hk hq⟩
  · obtain rfl := rep_str.mp rx
    exact sl_str pins s σ H _ vv vl vu lo hi sl Q I rv hs pl pu ⟨_, rfl, hk.1, cl F _ μ _ H (Stp.refl) ok (rep_str.mpr rfl) hk.2⟩
  · obtain rfl := rep_ref.mp rx
    obtain ⟨ds, em, hk⟩ := refL_elim hk
    obtain ⟨_, vs, h1, h2⟩ := ok.lst _ ds em
    exact sl_list pins s σ H _ vv vl vu lo hi sl Q I rv hs pl pu ⟨_, vs, rfl, SqL.of h1, fun q hq => cl_lst ok cl (reps_cut h2) hk hq⟩
  · exact hk.elim
theorem de_slice {lo hi : Option Expr} {tl th : DTO} {p2 : Pos} (he : DE X B e te) (hl : DO X B lo tl) (hu : DO X B hi th) : DE X B (.Subscript e (.Slice lo hi none p2) pos) (dSl te tl th) := PE.by (pe_slice sl_all he hl hu) fun σ H Q ⟨F, ρ, μ, Qd, sB, ok, rs, t, cl⟩ => by
  refine ⟨F, ρ, μ, _, sB, ok, rs, t, fun F1 x μ1 v H1 s1 ok1 rx t1 => ?_⟩
  refine ⟨F1, ρ, μ1, _, sB.trans s1, ok1, rs.mono s1.s, t1, fun F2 l μ2 H2 s2 ok2 t2 => ?_⟩
  refine ⟨F2, ρ, μ2, _, (sB.trans s1).trans s2, ok2, rs.mono (s1.trans s2).s, t2, fun F3 u μ3 H3 s3 ok3 t3 => ?_⟩
  exact ⟨F3, μ3, x, Qd, ok3, rx.mono (s2.trans s3).s, t3, cl.mono ((s1.trans s2).trans s3)⟩
/-- xs[::-1], a list -/
def kRev (x : D) (μ : MS) (Q : DK) : Prop := match x with
  | .lst ds => Q (.lst ds.reverse) μ
  | _ => False
def dRevL (te : DTE) : DTE := fun ρ μ Q => te ρ μ fun x μ1 => kRev x μ1 Q
theorem de_revL {k : Nat} {p1 p2 p3 : Pos} (he : DE X B e te) : DE X B (.Subscript e (.Slice none none (some (.UnaryOp .USub (.Constant (.int 1) k p1) p2)) p3) pos) (dRevL te) := PE.by (pe_revL he) fun σ H Q ⟨F, ρ, μ, Qd, sB, ok, rs, t, cl⟩ => by
  refine ⟨F, ρ, μ, _, sB, ok, rs, t, fun F1 x μ1 v H1 s1 ok1 rx t1 => ?_⟩
  unfold kRev at t1
  split at t1
  · obtain ⟨p, vs, rfl, h1, h2⟩ := rep_lst.mp rx
    exact ⟨p, vs, rfl, SqL.of (ok1.sub _ _ h1), fun q hq => cl_lst ok1 (cl.mono s1) h2.reverse t1 hq⟩
  · exact t1.elim
end

/-! ### argument lists, displays -/
def LAn (K : PySem.W.Frag) (B : Ent) (n : Nat) (t : DTA) : TA := fun σ H Q => ∃ F ρ μ Qd, B.to F μ H ∧ Ok K F μ H ∧ RelS K F ρ σ ∧ t ρ μ Qd ∧ ∀ F' ds μ' vs H', Stp F μ H F' μ' H' → Ok K F' μ' H' → Reps K F' ds vs → ds.length = n → Qd ds μ' → Q vs H'
abbrev DAn (X : Cx) (B : Ent) (es : List Expr) (n : Nat) (t : DTA) : Prop := PA X es (LAn X.K B n t)
def dNil : DTA := fun _ μ Q => Q [] μ
def dCons (te : DTE) (t : DTA) : DTA := fun ρ μ Q => te ρ μ fun d μ1 => t ρ μ1 fun ds μ2 => Q (d :: ds) μ2
def dTup (t : DTA) : DTE := fun ρ μ Q => t ρ μ fun ds μ1 => Q (.tup ds) μ1
def dLst (t : DTA) : DTE := fun ρ μ Q => t ρ μ fun ds μ1 => Q (.lst ds) μ1
/-- a list to be changed -/
def dLstM (t : DTA) : DTE := fun ρ μ Q => t ρ μ fun ds μ1 => ∀ a, μ1 a = none → Q (.ref a) (mset μ1 a (some (.lst ds)))
section
variable {X : Cx} {B : Ent} {e : Expr} {es : List Expr} {te : DTE} {t : DTA} {n : Nat} {pos : Pos}
theorem da_nil : DAn X B [] 0 dNil := PA.by pa_nil fun σ H Q ⟨F, ρ, μ, Qd, sB, ok, rs, t, cl⟩ => cl F [] μ [] H (Stp.refl) ok (reps_nil.mpr rfl) rfl t
theorem da_cons (ha : DE X B e te) (hr : DAn X B es n t) (hs : starEach (e :: es) X.env = (false, eval e X.env) :: starEach es X.env := by rfl) : DAn X B (e :: es) (n + 1) (dCons te t) := PA.by (pa_cons ha hr hs) fun σ H Q ⟨F, ρ, μ, Qd, sB, ok, rs, t, cl⟩ => by
  refine ⟨F, ρ, μ, _, sB, ok, rs, t, fun F1 x μ1 v H1 s1 ok1 rx t1 => ?_⟩
  refine ⟨F1, ρ, μ1, _, sB.trans s1, ok1, rs.mono s1.s, t1, fun F2 ds μ2 vs H2 s2 ok2 r2 l2 t2 => ?_⟩
  exact cl F2 _ μ2 _ H2 (s1.trans s2) ok2 (.cons (rx.mono s2.s) r2) (by rw [List.length_cons, l2]) t2
theorem line_of {n : Nat} (h : n ≤ 1000) : n ≤ sizeLine := Nat.le_trans h (by decide)
theorem de_tup {k : Nat} (h : DAn X B es n t) (hn : n ≤ 1000 := by decide) : DE X B (.Tuple es k pos) (dTup t) := PE.by (pe_tup h) fun σ H Q ⟨F, ρ, μ, Qd, sB, ok, rs, t, cl⟩ => by
  refine ⟨F, ρ, μ, _, sB, ok, rs, t, fun F1 ds μ1 vs H1 s1 ok1 r1 l1 t1 => ?_⟩
  exact ⟨by rw [← r1.length, l1]; exact line_of hn, fun p hp => cl_tup ok1 (cl.mono s1) r1 t1 hp⟩
theorem de_lst (h : DAn X B es n t) (hn : n ≤ 1000 := by decide) : DE X B (.List es pos) (dLst t) := PE.by (pe_lst h) fun σ H Q ⟨F, ρ, μ, Qd, sB, ok, rs, t, cl⟩ => by
  refine ⟨F, ρ, μ, _, sB, ok, rs, t, fun F1 ds μ1 vs H1 s1 ok1 r1 l1 t1 => ?_⟩
  exact ⟨by rw [← r1.length, l1]; exact line_of hn, fun p hp => cl_lst ok1 (cl.mono s1) r1 t1 hp⟩
theorem de_lstM (h : DAn X B es n t) (hn : n ≤ 1000 := by decide) : DE X B (.List es pos) (dLstM t) := PE.by (pe_lst h) fun σ H Q ⟨F, ρ, μ, Qd, sB, ok, rs, t, cl⟩ => by
  refine ⟨F, ρ, μ, _, sB, ok, rs, t, fun F1 ds μ1 vs H1 s1 ok1 r1 l1 t1 => ?_⟩
  exact ⟨by rw [← r1.length, l1]; exact line_of hn, fun p hp => cl_lstM ok1 (cl.mono s1) r1 t1 hp⟩
end

/-! ### calls of what is built in -/
abbrev KC := List D → MS → DK → Prop
def L2C (K : PySem.W.Frag) (k : KC) : List V → Hp → VK → Prop := fun vs H Q => ∃ F μ ds Qd, Ok K F μ H ∧ Reps K F ds vs ∧ k ds μ Qd ∧ Cl K F μ H Qd Q
abbrev DCall (X : Cx) (f : Value) (k : KC) : Prop := CallR X f (L2C X.K k)
def dCB (k : KC) (t : DTA) : DTE := fun ρ μ Q => t ρ μ fun ds μ1 => k ds μ1 Q
theorem le_cb {K : PySem.W.Frag} {B : Ent} {k : KC} {t : DTA} {n : Nat} {σ : L2.St} {H : Hp} {Q : VK} (h : LE K B (dCB k t) σ H Q) : tCB (L2C K k) (LAn K B n t) σ H Q := by
  obtain ⟨F, ρ, μ, Qd, sB, ok, rs, t, cl⟩ := h
  exact ⟨F, ρ, μ, _, sB, ok, rs, t, fun F1 ds μ1 vs H1 s1 ok1 r1 l1 t1 => ⟨F1, μ1, ds, Qd, ok1, r1, t1, cl.mono s1⟩⟩
section
variable {X : Cx} {B : Ent} {e : Expr} {es : List Expr} {te : DTE} {t : DTA} {n : Nat} {x : Str} {p pos : Pos} {id T : String} {k : KC}
theorem de_callB (hc : DCall X (.builtin id) k) (hg : Gl X x) (hm : X.mg x = none) (hv : bootBuiltins x = some (.builtin id)) (ha : DAn X B (e :: es) n t) (hn : x ≠ "__name__" := by decide) (hdb : (x == ("__debug__" : Str)) = false := by decide)
    (he : starEach (e :: es) X.env = (false, eval e X.env) :: starEach es X.env := by rfl) (hpl : (backTo pos (starEach es X.env)).any (·.1) = false := by rfl) : DE X B (.Call (.Name x p) (e :: es) [] pos) (dCB k t) :=
  PE.by (pe_callB hc hg hm hv ha hn hdb he hpl) fun _ _ _ => le_cb
theorem de_callTy (hc : DCall X (.type T) k) (hg : Gl X x) (hm : X.mg x = none) (hv : bootBuiltins x = some (.type T)) (ha : DAn X B (e :: es) n t) (hn : x ≠ "__name__" := by decide) (hdb : (x == ("__debug__" : Str)) = false := by decide)
    (he : starEach (e :: es) X.env = (false, eval e X.env) :: starEach es X.env := by rfl) (hpl : (backTo pos (starEach es X.env)).any (·.1) = false := by rfl) : DE X B (.Call (.Name x p) (e :: es) [] pos) (dCB k t) :=
  PE.by (pe_callTy hc hg hm hv ha hn hdb he hpl) fun _ _ _ => le_cb
/-- a built-in class, as a value -/
theorem de_ty (hg : Gl X x) (hm : X.mg x = none) (hv : bootBuiltins x = some (.type T)) (hn : x ≠ "__name__" := by decide) (hd : (x == ("__debug__" : Str)) = false := by decide) : DE X B (.Name x pos) (dC (.ty T)) :=
  PE.by (pe_bltn (v := .ty T) hg hm hv rfl hn hd) fun _ _ _ => le_c fun _ => rep_ty.mpr rfl
end

section
variable {X : Cx}
theorem Same.ok {K : PySem.W.Frag} {F : Hp} {μ : MS} {H : Hp} {Qd : DK} {Q : VK} (ok : Ok K F μ H) (cl : Cl K F μ H Qd Q) {d : D} {v : V} (r : Rep K F d v) (q : Qd d μ) : Q v H := cl F d μ v H (Stp.refl) ok r q
def kLen : KC := fun xs μ Q => match xs with
  | [.tup ds] => Q (.int ds.length) μ
  | [.lst ds] => Q (.int ds.length) μ
  | [.str z] => z.length ≤ sizeLine ∧ Q (.int z.length) μ
  | [.scr ns] => Q (.int ns.length) μ
  | [.ref a] => refL (μ a) fun ds => Q (.int ds.length) μ
  | _ => False
theorem reps1 {K : PySem.W.Frag} {F : Hp} {d : D} {vs : List V} (r : Reps K F [d] vs) : ∃ v, vs = [v] ∧ Rep K F d v := by
  obtain ⟨v, t, rfl, h, q⟩ := reps_cons.mp r
  rw [reps_nil.mp q]
  exact ⟨v, rfl, h⟩
theorem reps2 {K : PySem.W.Frag} {F : Hp} {d e : D} {vs : List V} (r : Reps K F [d, e] vs) : ∃ v w, vs = [v, w] ∧ Rep K F d v ∧ Rep K F e w := by
  obtain ⟨v, t, rfl, h, q⟩ := reps_cons.mp r
  obtain ⟨w, rfl, h2⟩ := reps1 q
  exact ⟨v, w, rfl, h, h2⟩
theorem dc_len : DCall X (.builtin "len") kLen := by
  intro pins s σ H vs us Q I rv ⟨F, μ, ds, Qd, ok, r, hk, cl⟩
  unfold kLen at hk
  split at hk
  · obtain ⟨v, rfl, r1⟩ := reps1 r
    obtain ⟨p, ws, rfl, h1, h2⟩ := rep_tup.mp r1
    refine call_len pins s σ H _ us Q I rv ⟨_, ws.length, rfl, .inr ⟨ws, ok.sqT h1, rfl⟩, ?_⟩
    rw [← h2.length]
    exact Same.ok ok cl (rep_int.mpr rfl) hk
  · obtain ⟨v, rfl, r1⟩ := reps1 r
    obtain ⟨p, ws, rfl, h1, h2⟩ := rep_lst.mp r1
    refine call_len pins s σ H _ us Q I rv ⟨_, ws.length, rfl, .inl ⟨ws, SqL.of (ok.sub _ _ h1), rfl⟩, ?_⟩
    rw [← h2.length]
    exact Same.ok ok cl (rep_int.mpr rfl) hk
  · obtain ⟨v, rfl, r1⟩ := reps1 r
    obtain rfl := rep_str.mp r1
    exact call_len_str pins s σ H _ us Q I rv ⟨_, rfl, hk.1, Same.ok ok cl (rep_int.mpr rfl) hk.2⟩
  · obtain ⟨v, rfl, r1⟩ := reps1 r
    obtain ⟨p, rfl, h1⟩ := rep_scr.mp r1
    refine call_len pins s σ H _ us Q I rv ⟨_, _, rfl, .inl ⟨_, ok.sub.seq h1, rfl⟩, ?_⟩
    rw [List.length_map]
    exact Same.ok ok cl (rep_int.mpr rfl) hk
  · obtain ⟨v, rfl, r1⟩ := reps1 r
    obtain rfl := rep_ref.mp r1
    obtain ⟨ds, em, hk⟩ := refL_elim hk
    obtain ⟨_, ws, h1, h2⟩ := ok.lst _ ds em
    refine call_len pins s σ H _ us Q I rv ⟨_, ws.length, rfl, .inl ⟨ws, SqL.of h1, rfl⟩, ?_⟩
    rw [← h2.length]
    exact Same.ok ok cl (rep_int.mpr rfl) hk
  · exact hk.elim
def kAbs : KC := fun xs μ Q => match xs with
  | [.int i] => Q (.int i.natAbs) μ
  | _ => False
theorem dc_abs : DCall X (.builtin "abs") kAbs := by
  intro pins s σ H vs us Q I rv ⟨F, μ, ds, Qd, ok, r, hk, cl⟩
  unfold kAbs at hk
  split at hk
  · rename_i i
    obtain ⟨v, rfl, r1⟩ := reps1 r
    obtain rfl := rep_int.mp r1
    refine call_abs pins s σ H _ us Q I rv ⟨i, rfl, ?_⟩
    have e : (if i < 0 then -i else i) = (i.natAbs : Int) := by split <;> omega
    rw [e]
    exact Same.ok ok cl (rep_int.mpr rfl) hk
  · exact hk.elim
def kInt : KC := fun xs μ Q => match xs with
  | [.int i] => Q (.int i) μ
  | [.bl b] => Q (.int (if b then 1 else 0)) μ
  | [.str a] => a.length ≤ 640 ∧ (match PySem.intText? a with
    | some n => Q (.int n) μ
    | none => False)
  | _ => False
theorem dc_int : DCall X (.type "int") kInt := by
  intro pins s σ H vs us Q I rv ⟨F, μ, ds, Qd, ok, r, hk, cl⟩
  unfold kInt at hk
  split at hk
  · obtain ⟨v, rfl, r1⟩ := reps1 r
    obtain rfl := rep_int.mp r1
    exact call_int1 pins s σ H _ us Q I rv (.inl ⟨_, rfl, Same.ok ok cl (rep_int.mpr rfl) hk⟩)
  · obtain ⟨v, rfl, r1⟩ := reps1 r
    obtain rfl := rep_bl.mp r1
    exact call_int1 pins s σ H _ us Q I rv (.inr ⟨_, rfl, Same.ok ok cl (rep_int.mpr rfl) hk⟩)
  · obtain ⟨v, rfl, r1⟩ := reps1 r
    obtain rfl := rep_str.mp r1
    obtain ⟨h1, h2⟩ := hk
    split at h2
    · rename_i n e
      exact call_int_str pins s σ H _ us Q I rv ⟨_, n, rfl, e, h1, Same.ok ok cl (rep_int.mpr rfl) h2⟩
    · exact h2.elim
  · exact hk.elim
theorem call_str_bool : CallR X (.type "str") (fun xs H Q => ∃ b, xs = [.bl b] ∧ Q (.str (if b then "True" else "False")) H) := by
  intro pins s σ H xs us Q I rs h
  obtain ⟨b, rfl, q⟩ := h
  obtain ⟨u, rfl, r⟩ := vals1 rs
  cases r
  exact PySem.P.str_of_bool ⟨.str _, H, I.tok _, ⟨_, rfl⟩, q⟩
def kStr : KC := fun xs μ Q => match xs with
  | [.int i] => i.natAbs.log2 < 1920 ∧ Q (.str (toString i)) μ
  | [.str a] => Q (.str a) μ
  | [.bl b] => Q (.str (if b then "True" else "False")) μ
  | _ => False
theorem dc_str : DCall X (.type "str") kStr := by
  intro pins s σ H vs us Q I rv ⟨F, μ, ds, Qd, ok, r, hk, cl⟩
  unfold kStr at hk
  split at hk
  · obtain ⟨v, rfl, r1⟩ := reps1 r
    obtain rfl := rep_int.mp r1
    exact call_str_int pins s σ H _ us Q I rv ⟨_, rfl, hk.1, Same.ok ok cl (rep_str.mpr rfl) hk.2⟩
  · obtain ⟨v, rfl, r1⟩ := reps1 r
    obtain rfl := rep_str.mp r1
    exact SkE.call_str_str pins s σ H _ us Q I rv ⟨_, rfl, Same.ok ok cl (rep_str.mpr rfl) hk⟩
  · obtain ⟨v, rfl, r1⟩ := reps1 r
    obtain rfl := rep_bl.mp r1
    exact call_str_bool pins s σ H _ us Q I rv ⟨_, rfl, Same.ok ok cl (rep_str.mpr rfl) hk⟩
  · exact hk.elim
def kMax : KC := fun xs μ Q => match xs with
  | [.int i, .int j] => Q (.int (max i j)) μ
  | _ => False
def kMin : KC := fun xs μ Q => match xs with
  | [.int i, .int j] => Q (.int (min i j)) μ
  | _ => False
theorem dc_max (hc : X.calm = true) : DCall X (.builtin "max") kMax := by
  intro pins s σ H vs us Q I rv ⟨F, μ, ds, Qd, ok, r, hk, cl⟩
  unfold kMax at hk
  split at hk
  · rename_i i j
    obtain ⟨v, w, rfl, r1, r2⟩ := reps2 r
    obtain rfl := rep_int.mp r1
    obtain rfl := rep_int.mp r2
    refine call_max2 hc pins s σ H _ us Q I rv ⟨i, j, rfl, ?_⟩
    have e : (if j > i then j else i) = max i j := by split <;> omega
    rw [e]
    exact Same.ok ok cl (rep_int.mpr rfl) hk
  · exact hk.elim
theorem dc_min (hc : X.calm = true) : DCall X (.builtin "min") kMin := by
  intro pins s σ H vs us Q I rv ⟨F, μ, ds, Qd, ok, r, hk, cl⟩
  unfold kMin at hk
  split at hk
  · rename_i i j
    obtain ⟨v, w, rfl, r1, r2⟩ := reps2 r
    obtain rfl := rep_int.mp r1
    obtain rfl := rep_int.mp r2
    refine call_min2 hc pins s σ H _ us Q I rv ⟨i, j, rfl, ?_⟩
    have e : (if j < i then j else i) = min i j := by split <;> omega
    rw [e]
    exact Same.ok ok cl (rep_int.mpr rfl) hk
  · exact hk.elim
def kTuple : KC := fun xs μ Q => match xs with
  | [.lst ds] => Q (.tup ds) μ
  | [.tup ds] => Q (.tup ds) μ
  | [.ref a] => refL (μ a) fun ds => Q (.tup ds) μ
  | _ => False
theorem dc_tuple : DCall X (.type "tuple") kTuple := by
  intro pins s σ H vs us Q I rv ⟨F, μ, ds, Qd, ok, r, hk, cl⟩
  unfold kTuple at hk
  split at hk
  · obtain ⟨v, rfl, r1⟩ := reps1 r
    obtain ⟨p, ws, rfl, h1, h2⟩ := rep_lst.mp r1
    exact call_tuple_of pins s σ H _ us Q I rv ⟨p, ws, rfl, .inl ⟨SqL.of (ok.sub _ _ h1), fun l hl => cl_tup ok cl h2 hk hl⟩⟩
  · obtain ⟨v, rfl, r1⟩ := reps1 r
    obtain ⟨p, ws, rfl, h1, h2⟩ := rep_tup.mp r1
    exact call_tuple_of pins s σ H _ us Q I rv ⟨p, ws, rfl, .inr ⟨ok.sqT h1, Same.ok ok cl (rep_tup.mpr ⟨p, ws, rfl, h1, h2⟩) hk⟩⟩
  · obtain ⟨v, rfl, r1⟩ := reps1 r
    obtain rfl := rep_ref.mp r1
    obtain ⟨ds, em, hk⟩ := refL_elim hk
    obtain ⟨_, ws, h1, h2⟩ := ok.lst _ ds em
    exact call_tuple_of pins s σ H _ us Q I rv ⟨_, ws, rfl, .inl ⟨SqL.of h1, fun l hl => cl_tup ok cl h2 hk hl⟩⟩
  · exact hk.elim
def kList : KC := fun xs μ Q => match xs with
  | [.lst ds] => Q (.lst ds) μ
  | [.tup ds] => Q (.lst ds) μ
  | [.ref a] => refL (μ a) fun ds => Q (.lst ds) μ
  | _ => False
theorem dc_list : DCall X (.type "list") kList := by
  intro pins s σ H vs us Q I rv ⟨F, μ, ds, Qd, ok, r, hk, cl⟩
  unfold kList at hk
  split at hk
  · obtain ⟨v, rfl, r1⟩ := reps1 r
    obtain ⟨p, ws, rfl, h1, h2⟩ := rep_lst.mp r1
    exact call_list_of pins s σ H _ us Q I rv ⟨p, ws, rfl, .inl (SqL.of (ok.sub _ _ h1)), fun l hl => cl_lst ok cl h2 hk hl⟩
  · obtain ⟨v, rfl, r1⟩ := reps1 r
    obtain ⟨p, ws, rfl, h1, h2⟩ := rep_tup.mp r1
    exact call_list_of pins s σ H _ us Q I rv ⟨p, ws, rfl, .inr (ok.sqT h1), fun l hl => cl_lst ok cl h2 hk hl⟩
  · obtain ⟨v, rfl, r1⟩ := reps1 r
    obtain rfl := rep_ref.mp r1
    obtain ⟨ds, em, hk⟩ := refL_elim hk
    obtain ⟨_, ws, h1, h2⟩ := ok.lst _ ds em
    exact call_list_of pins s σ H _ us Q I rv ⟨_, ws, rfl, .inl (SqL.of h1), fun l hl => cl_lst ok cl h2 hk hl⟩
  · exact hk.elim
/-! isinstance with a built-in class -/
def tyName : D → Option String
  | .non => some "NoneType"
  | .bl _ => some "bool"
  | .int _ => some "int"
  | .str _ => some "str"
  | .tup _ => some "tuple"
  | .lst _ => some "list"
  | _ => none
def kIsi : KC := fun xs μ Q => match xs with
  | [x, .ty T] => (match tyName x with
    | some n => (match kitB n T with
      | some b => Q (.bl b) μ
      | none => False)
    | none => False)
  | _ => False
theorem tyX_of {K : PySem.W.Frag} {F : Hp} {μ : MS} {H : Hp} (ok : Ok K F μ H) {x : D} {v : V} {n : String} (r : Rep K F x v) (h : tyName x = some n) : TyX K H v (.type n) := by
  cases x with
  | non => cases h; rw [rep_non.mp r]; exact .base .non
  | bl b => cases h; rw [rep_bl.mp r]; exact .base (.bl b)
  | int b => cases h; rw [rep_int.mp r]; exact .base (.int b)
  | str b => cases h; rw [rep_str.mp r]; exact .base (.str b)
  | tup ds =>
    cases h
    obtain ⟨a, vs, rfl, h1, h2⟩ := rep_tup.mp r
    rcases ok.sqT h1 with (h | ⟨o, h⟩) | ⟨o, its, n, h, hc, _⟩
    · exact .base (.tup h)
    · exact .fTuple h
    · exact .kTuple h hc
  | lst ds =>
    cases h
    obtain ⟨a, vs, rfl, h1, h2⟩ := rep_lst.mp r
    exact .base (.lst (ok.sub _ _ h1))
  | ref a => cases h
  | ty a => cases h
  | scr a => cases h
theorem dc_isi : DCall X (.builtin "isinstance") kIsi := by
  intro pins s σ H vs us Q I rv ⟨F, μ, ds, Qd, ok, r, hk, cl⟩
  unfold kIsi at hk
  split at hk
  · rename_i x T
    obtain ⟨v, w, rfl, r1, r2⟩ := reps2 r
    obtain rfl := rep_ty.mp r2
    split at hk
    · rename_i n e
      split at hk
      · rename_i b eb
        exact call_isi pins s σ H _ us Q I rv ⟨v, .ty T, .type n, .type T, b, rfl, .ty T, tyX_of ok r1 e, kit_ty eb, Same.ok ok cl (rep_bl.mpr rfl) hk⟩
      · exact hk.elim
    · exact hk.elim
  · exact hk.elim
end
section
variable {X : Cx}
/-! ### in -/
def kInD (neg : Bool) : KD := fun x y μ Q => match y with
  | .tup ds => okEq x (.tup ds) ∧ Q (.bl (neg != ds.any fun z => deq z x)) μ
  | .lst ds => okEq x (.lst ds) ∧ Q (.bl (neg != ds.any fun z => deq z x)) μ
  | _ => False
abbrev kIn : KD := kInD false
abbrev kNotIn : KD := kInD true
theorem pys_any (x : D) (hx : x.lay = true) : ∀ ds : List D, D.lays ds = true → (D.pys ds).any (fun z => PyData.eqv z x.py) = ds.any fun z => deq z x
  | [], _ => by simp [D.pys]
  | d :: ds, h => by
    have h' : d.lay = true ∧ D.lays ds = true := by simpa [D.lays] using h
    simp only [D.pys, List.any_cons, deq_py d x h'.1 hx, pys_any x hx ds h'.2]
theorem do_inD (hu : X.A.units + 65 < cLine) (neg : Bool) : DOp X (compareOp (if neg then .NotIn else .In)) (kInD neg) := by
  intro pins s σ H v w vv ww Q I rv rw' ⟨F, μ, x, y, Qd, ok, rx, ry, hk, cl⟩
  unfold kInD at hk
  split at hk
  · rename_i ds
    obtain ⟨⟨h1, h2, h3, h4⟩, hk⟩ := hk
    have h2' : D.lays ds = true := by simpa only [D.lay] using h2
    have hd := rep_dp ok.sub h1 rx
    have he := rep_dp ok.sub h2 ry
    simp only [D.py] at he
    obtain ⟨as, r1⟩ := Dp.reads I _ _ vv hd rv
    obtain ⟨bs, r2⟩ := Dp.reads I _ _ ww he rw'
    have e4 : D.deps ds + 1 ≤ 64 := by simpa only [D.dep] using h4
    have hroom : X.A.units + 1 + min (PyData.depthAll (D.pys ds)) x.py.depth < cLine := by
      rw [pys_dep ds h2', py_dep x h1]
      have := Nat.min_le_right (D.deps ds) x.dep
      omega
    have q : EP X pins σ Q (.bool (neg != (D.pys ds).any fun z => PyData.eqv z x.py)) s := ⟨.bl _, H, I, rfl, by rw [pys_any x h1 ds h2']; exact cl F _ μ _ H Stp.refl ok (rep_bl.mpr rfl) hk⟩
    cases neg with
    | false => exact SeqAt.in_tuple_reads r2 r1 (by rw [pys_lay]; exact h2') (by rw [py_lay]; exact h1) hroom (by simpa using q)
    | true => exact SeqAt.notIn_tuple_reads r2 r1 (by rw [pys_lay]; exact h2') (by rw [py_lay]; exact h1) hroom (by simpa using q)
  · rename_i ds
    obtain ⟨⟨h1, h2, h3, h4⟩, hk⟩ := hk
    have h2' : D.lays ds = true := by simpa only [D.lay] using h2
    have hd := rep_dp ok.sub h1 rx
    have he := rep_dp ok.sub h2 ry
    simp only [D.py] at he
    obtain ⟨as, r1⟩ := Dp.reads I _ _ vv hd rv
    obtain ⟨bs, r2⟩ := Dp.reads I _ _ ww he rw'
    have e4 : D.deps ds + 1 ≤ 64 := by simpa only [D.dep] using h4
    have hroom : X.A.units + 1 + min (PyData.depthAll (D.pys ds)) x.py.depth < cLine := by
      rw [pys_dep ds h2', py_dep x h1]
      have := Nat.min_le_right (D.deps ds) x.dep
      omega
    have q : EP X pins σ Q (.bool (neg != (D.pys ds).any fun z => PyData.eqv z x.py)) s := ⟨.bl _, H, I, rfl, by rw [pys_any x h1 ds h2']; exact cl F _ μ _ H Stp.refl ok (rep_bl.mpr rfl) hk⟩
    cases neg with
    | false => exact SeqAt.in_list_reads r2 r1 (by rw [pys_lay]; exact h2') (by rw [py_lay]; exact h1) hroom (by simpa using q)
    | true => exact SeqAt.notIn_list_reads r2 r1 (by rw [pys_lay]; exact h2') (by rw [py_lay]; exact h1) hroom (by simpa using q)
  · exact hk.elim
theorem do_in (hu : X.A.units + 65 < cLine) : DOp X (compareOp .In) kIn := do_inD hu false
theorem do_notIn (hu : X.A.units + 65 < cLine) : DOp X (compareOp .NotIn) kNotIn := do_inD hu true
/-- one sign in a text -/
def kInSD (neg : Bool) : KD := fun x y μ Q => match x, y with
  | .str a, .str z => (match a.cps with
    | ⟨[c]⟩ => Q (.bl (neg != decide (c ∈ z.cps.toList))) μ
    | _ => False)
  | _, _ => False
abbrev kInS : KD := kInSD false
abbrev kNotInS : KD := kInSD true
theorem do_inS : DOp X (compareOp .In) kInS := by
  intro pins s σ H v w vv ww Q I rv rw' ⟨F, μ, x, y, Qd, ok, rx, ry, hk, cl⟩
  unfold kInS kInSD at hk
  split at hk
  · rename_i a z
    obtain rfl := rep_str.mp rx
    obtain rfl := rep_str.mp ry
    obtain ⟨cps⟩ := a
    split at hk
    · rename_i c e
      simp only at e
      subst e
      exact op_in_sign pins s σ H _ _ vv ww Q I rv rw' ⟨c, z, rfl, rfl, by simpa using cl F _ μ _ H Stp.refl ok (rep_bl.mpr rfl) hk⟩
    · exact hk.elim
  · exact hk.elim
theorem do_notInS : DOp X (compareOp .NotIn) kNotInS := by
  intro pins s σ H v w vv ww Q I rv rw' ⟨F, μ, x, y, Qd, ok, rx, ry, hk, cl⟩
  unfold kNotInS kInSD at hk
  split at hk
  · rename_i a z
    obtain rfl := rep_str.mp rx
    obtain rfl := rep_str.mp ry
    obtain ⟨cps⟩ := a
    split at hk
    · rename_i c e
      simp only at e
      subst e
      exact op_notIn_sign pins s σ H _ _ vv ww Q I rv rw' ⟨c, z, rfl, rfl, by simpa using cl F _ μ _ H Stp.refl ok (rep_bl.mpr rfl) hk⟩
    · exact hk.elim
  · exact hk.elim
end
end Li

set_option Elab.async false
set_option linter.all false
set_option maxRecDepth 100000
set_option maxHeartbeats 1000000
/-! Targets, statements, loops, comprehensions over data. -/
namespace Li
open PySem PySem.Spec PyProof.Rows L2
variable [Tbl]

/-! ### lengths of what stands in memory -/
def Line (K : PySem.W.Frag) (v : V) (H : Hp) : Prop := ∀ a xs, v = .ref a → (SqL K H a xs ∨ SqT K H a xs) → xs.length ≤ sizeLine
theorem Inv.line {X : Cx} {pins : List (Addr × Obj)} {σ : L2.St} {H : Hp} {s : Shared} (I : Inv X pins σ H s) (v : V) : Line X.K v H := fun a xs _ h => by
  rcases h with h | h
  · obtain ⟨_, _, _, z⟩ := I.list h; exact z
  · obtain ⟨_, _, _, z⟩ := I.tuple h; exact z
theorem PE.lined {X : Cx} {e : Expr} {t : TE} (h : PE X e t) : PE X e (fun σ H Q => t σ H fun v H1 => Line X.K v H1 → Q v H1) := ⟨fun pins s σ H Q I q =>
  thn (h.run pins s σ H _ I q) fun _ s1 ⟨v, H1, I1, r1, q1⟩ => ⟨v, H1, I1, r1, q1 (Inv.line I1 v)⟩⟩
theorem PA.lined {X : Cx} {es : List Expr} {t : TA} (h : PA X es t) : PA X es (fun σ H Q => t σ H fun vs H1 => (∀ v ∈ vs, Line X.K v H1) → Q vs H1) := ⟨fun pos pins s σ H Q I q =>
  thn (h.run pos pins s σ H _ I q) fun _ s1 ⟨vs, H1, I1, r1, q1⟩ => ⟨vs, H1, I1, r1, q1 fun v _ => Inv.line I1 v⟩⟩

/-! ### targets -/
def dName (i : Nat) : DTG := fun d ρ μ Q => Q (ρ.set i (some d)) μ
def dGNil : DTGs := fun ds ρ μ Q => match ds with
  | [] => Q ρ μ
  | _ :: _ => False
def dGCons (g : DTG) (gs : DTGs) : DTGs := fun ds ρ μ Q => match ds with
  | [] => False
  | d :: r => g d ρ μ fun ρ1 μ1 => gs r ρ1 μ1 Q
def dGTup (n : Nat) (gs : DTGs) : DTG := fun d ρ μ Q => match d with
  | .tup ds => bcase (ds.length == n) (gs ds ρ μ Q) False
  | _ => False
section
variable {X : Cx} {B : Ent} {pos : Pos}
theorem dg_name {i : Nat} {x : Str} (hN : X.N.Nodup) (hi : X.N[i]? = some x) (hx : Loc X.env.scope x) (hf : X.fn x = true ∨ X.env.scope.names.lookup x = some .local := by first | exact .inl rfl | exact .inr rfl | assumption) : DG X B (.Name x pos) (dName i) :=
  PG.by (pg_name hN hi hx hf) fun v σ H Q ⟨F, d, ρ, μ, Qd, sB, ok, rs, rd, t, cl⟩ => cl F _ μ _ H (Stp.refl) ok (rs.set rd i) t
theorem dgs_nil : DGs X B [] dGNil := PGs.by pgs_nil fun vs σ H Q ⟨F, ds, ρ, μ, Qd, sB, ok, rs, rd, t, cl⟩ => by
  cases ds with
  | nil => exact ⟨reps_nil.mp rd, cl F _ μ _ H (Stp.refl) ok rs t⟩
  | cons d r => exact t.elim
theorem dgs_cons {e : Expr} {es : List Expr} {g : DTG} {gs : DTGs} (h1 : DG X B e g) (h2 : DGs X B es gs) (hs : (assignEach (e :: es) X.env).map (·.2) = assign e X.env :: (assignEach es X.env).map (·.2) := by rfl) : DGs X B (e :: es) (dGCons g gs) :=
  PGs.by (pgs_cons h1 h2 hs) fun vs σ H Q ⟨F, ds, ρ, μ, Qd, sB, ok, rs, rd, t, cl⟩ => by
  cases ds with
  | nil => exact t.elim
  | cons d r =>
    obtain ⟨v, w, rfl, r1, r2⟩ := reps_cons.mp rd
    refine ⟨v, w, rfl, F, d, ρ, μ, _, sB, ok, rs, r1, t, fun F1 ρ1 μ1 σ1 H1 s1 ok1 rs1 t1 => ?_⟩
    exact ⟨F1, r, ρ1, μ1, Qd, sB.trans s1, ok1, rs1, r2.mono s1.s, t1, cl.mono s1⟩
theorem dg_tup {es : List Expr} {k : Nat} {gs : DTGs} {n : Nat} (hc : X.calm = true) (h : DGs X B es gs)
    (hn : (assignEach es X.env).length = n := by rfl) (hst : (assignEach es X.env).findIdx? (·.1) = none := by rfl) : DG X B (.Tuple es k pos) (dGTup n gs) :=
  PG.by (pg_tup hc h hn hst) fun v σ H Q ⟨F, d, ρ, μ, Qd, sB, ok, rs, rd, t, cl⟩ => by
  unfold dGTup at t
  split at t
  · rename_i ds
    obtain ⟨a, vs, rfl, h1, h2⟩ := rep_tup.mp rd
    cases e : (ds.length == n) with
    | false => rw [e] at t; exact t.elim
    | true =>
      rw [e] at t
      exact ⟨a, vs, rfl, ok.sqT h1, by rw [← h2.length]; exact eq_of_beq e, F, ds, ρ, μ, Qd, sB, ok, rs, h2, t, cl⟩
  · exact t.elim
/-- x[i] = v, a list of the store -/
def dGSub (ta ti : DTE) : DTG := fun d ρ μ Q => ta ρ μ fun x μ1 => ti ρ μ1 fun y μ2 => match x, y with
  | .ref a, .int i => refL (μ2 a) fun ds => match ixN ds.length i with
      | some j => Q ρ (mset μ2 a (some (.lst (ds.set j d))))
      | none => False
  | _, _ => False
theorem dg_sub {o i : Expr} {ta ti : DTE} (ho : DE X B o ta) (hi : DE X B i ti) (ha : ∀ v, assign (.Subscript o i pos) X.env v = (do
      let ov ← holding [v] (eval o X.env)
      let iv ← holding [v, ov] (eval i X.env)
      standAt pos
      holding [v, ov, iv] (setItem ov iv v)
      release [v, ov, iv] []) := by intro _; rfl) : DG X B (.Subscript o i pos) (dGSub ta ti) :=
  PG.by (pg_sub ho hi set_list ha) fun v σ H Q ⟨F, d, ρ, μ, Qd, sB, ok, rs, rd, t, cl⟩ => by
  refine ⟨F, ρ, μ, _, sB, ok, rs, t, fun F1 x μ1 xv H1 s1 ok1 rx t1 => ?_⟩
  refine ⟨F1, ρ, μ1, _, sB.trans s1, ok1, rs.mono s1.s, t1, fun F2 y μ2 yv H2 s2 ok2 ry t2 => ?_⟩
  split at t2
  · rename_i a k
    obtain rfl := rep_ref.mp (rx.mono s2.s)
    obtain rfl := rep_int.mp ry
    obtain ⟨ds, em, t2⟩ := refL_elim t2
    · split at t2
      · rename_i j ej
        obtain ⟨hF, vs, h1, h2⟩ := ok2.lst a ds em
        exact ⟨a, vs, k, j, rfl, rfl, h1, by rw [← h2.length]; exact ej, cl F2 ρ _ σ _ ((s1.trans s2).trans (stpPut em)) (ok2.put hF (fun u e => by rw [h1] at e; cases e; exact ⟨_, rfl⟩) (h2.set (rd.mono (s1.trans s2).s) j)) (rs.mono (s1.trans s2).s) t2⟩
      · exact t2.elim
  · exact t2.elim
end

/-! ### statements -/
def dNext : DTS := fun DD ρ μ => DD.nx ρ μ
def dSeq (t u : DTS) : DTS := fun DD ρ μ => t { DD with nx := u DD } ρ μ
def dAsg (te : DTE) (g : DTG) : DTS := fun DD ρ μ => te ρ μ fun d μ1 => g d ρ μ1 DD.nx
def dDrop (te : DTE) : DTS := fun DD ρ μ => te ρ μ fun _ μ1 => DD.nx ρ μ1
def dRet (te : DTE) : DTS := fun DD ρ μ => te ρ μ DD.rt
def dRetN : DTS := fun DD _ μ => DD.rt .non μ
def dIfS (c : DTT) (t u : DTS) : DTS := fun DD ρ μ => c ρ μ fun b μ1 => bcase b (t DD ρ μ1) (u DD ρ μ1)
def dBreak : DTS := fun DD ρ μ => DD.bk ρ μ
def dCont : DTS := fun DD ρ μ => DD.ct ρ μ
def dNever : DTS := fun _ _ _ => False
/-- a slot forgotten -/
def dLose (is : List Nat) : DPS → DPS := fun Q ρ μ => Q (is.foldl (fun r i => r.set i none) ρ) μ
section
variable {X : Cx} {B : Ent} {st : Stmt} {rest : List Stmt} {t u : DTS} {e : Expr} {te : DTE} {pos : Pos}
theorem dss_nil : DSs X B [] dNext := PSs.by pss_nil fun D σ H ⟨F, ρ, μ, DD, sB, ok, rs, t, cl⟩ => cl.nx F ρ μ σ H (Stp.refl) ok rs t
theorem ls_seq {K : PySem.W.Frag} {D : Ends} {σ : L2.St} {H : Hp} (h : LS K B (dSeq t u) D σ H) : tSeq (LS K B t) (LS K B u) D σ H := by
  obtain ⟨F, ρ, μ, DD, sB, ok, rs, t, cl⟩ := h
  refine ⟨F, ρ, μ, _, sB, ok, rs, t, ⟨fun F1 ρ1 μ1 σ1 H1 s1 ok1 rs1 t1 => ?_, cl.rt, cl.bk, cl.ct⟩⟩
  exact ⟨F1, ρ1, μ1, DD, sB.trans s1, ok1, rs1, t1, cl.mono s1⟩
theorem dss_cons (h1 : DS X B st t) (h2 : DSs X B rest u) : DSs X B (st :: rest) (dSeq t u) := PSs.by (pss_cons h1 h2) fun _ _ _ => ls_seq
theorem dss_one (h1 : DS X B st t) : DSs X B [st] t := pss_one h1
theorem ds_pass : DS X B (.Pass pos) dNext := PS.by ps_pass fun D σ H ⟨F, ρ, μ, DD, sB, ok, rs, t, cl⟩ => cl.nx F ρ μ σ H (Stp.refl) ok rs t
theorem ds_break : DS X B (.Break pos) dBreak := PS.by ps_break fun D σ H ⟨F, ρ, μ, DD, sB, ok, rs, t, cl⟩ => cl.bk F ρ μ σ H (Stp.refl) ok rs t
theorem ds_continue : DS X B (.Continue pos) dCont := PS.by ps_continue fun D σ H ⟨F, ρ, μ, DD, sB, ok, rs, t, cl⟩ => cl.ct F ρ μ σ H (Stp.refl) ok rs t
theorem ls_asg {K : PySem.W.Frag} {g : DTG} {D : Ends} {σ : L2.St} {H : Hp} (h : LS K B (dAsg te g) D σ H) : tAsg (LE K B te) (LG K B g) D σ H := by
  obtain ⟨F, ρ, μ, DD, sB, ok, rs, t, cl⟩ := h
  refine ⟨F, ρ, μ, _, sB, ok, rs, t, fun F1 d μ1 v H1 s1 ok1 rd t1 => ?_⟩
  exact ⟨F1, d, ρ, μ1, DD.nx, sB.trans s1, ok1, rs.mono s1.s, rd, t1, cl.nx.mono s1⟩
theorem ds_asg {tg : Expr} {g : DTG} (he : DE X B e te) (hg : DG X B tg g) (hs : swapsWithSole [tg] e pos.line X.env = pure false := by rfl) (hw : swappedStores [tg] e X.env = pure none := by rfl)
    (h1 : (assignEach [tg] X.env).map (·.2) = [assign tg X.env] := by rfl) : DS X B (.Assign [tg] e pos) (dAsg te g) := PS.by (ps_asg he hg hs hw h1) fun _ _ _ => ls_asg
theorem ds_set {i : Nat} {x : Str} {pos' : Pos} (hN : X.N.Nodup) (hi : X.N[i]? = some x) (hx : Loc X.env.scope x) (he : DE X B e te) (hs : swapsWith e (some (.Name x pos')) pos.line X.env = pure false := by rfl)
    (hf : X.fn x = true ∨ X.env.scope.names.lookup x = some .local := by first | exact .inl rfl | exact .inr rfl | assumption) : DS X B (.Assign [.Name x pos'] e pos) (dAsg te (dName i)) :=
  PS.by (ps_set hN hi hx he hs hf) fun D σ H ⟨F, ρ, μ, DD, sB, ok, rs, t, cl⟩ =>
    ⟨F, ρ, μ, _, sB, ok, rs, t, fun F1 d μ1 v H1 s1 ok1 rd t1 => cl.nx F1 _ μ1 _ H1 s1 ok1 ((rs.mono s1.s).set rd i) t1⟩
def dPar (i j : Nat) (ta : DTA) : DTS := fun DD ρ μ => ta ρ μ fun ds μ1 => match ds with
  | [d, e] => DD.nx ((ρ.set i (some d)).set j (some e)) μ1
  | _ => False
theorem ds_par {i j : Nat} {x y : Str} {a b : Expr} {ta : DTA} {px py pt : Pos} {kt k2 pt2} {n : Nat} (hc : X.calm = true) (hN : X.N.Nodup) (hi : X.N[i]? = some x) (hj : X.N[j]? = some y) (hij : i ≠ j)
    (hx : X.env.scope.names.lookup x = some .local) (hy : X.env.scope.names.lookup y = some .local) (ha : DAn X B [a, b] n ta)
    (hw : swappedStores [.Tuple [.Name x px, .Name y py] kt pt] (.Tuple [a, b] k2 pt2) X.env = pure (some [x, y]))
    (hs : swapsWithSole [.Tuple [.Name x px, .Name y py] kt pt] (.Tuple [a, b] k2 pt2) pos.line X.env = pure false := by rfl) :
    DS X B (.Assign [.Tuple [.Name x px, .Name y py] kt pt] (.Tuple [a, b] k2 pt2) pos) (dPar i j ta) :=
  PS.by (ps_par hc hN hi hj hij hx hy ha hw hs) fun D σ H ⟨F, ρ, μ, DD, sB, ok, rs, t, cl⟩ => by
  refine ⟨F, ρ, μ, _, sB, ok, rs, t, fun F1 ds μ1 vs H1 s1 ok1 r1 l1 t1 => ?_⟩
  split at t1
  · obtain ⟨v, w, rfl, q1, q2⟩ := reps2 r1
    exact ⟨v, w, rfl, cl.nx F1 _ μ1 _ H1 s1 ok1 (((rs.mono s1.s).set q1 i).set q2 j) t1⟩
  · exact t1.elim
def dPar3 (i j l : Nat) (ta : DTA) : DTS := fun DD ρ μ => ta ρ μ fun ds μ1 => match ds with
  | [d, e, f] => DD.nx (((ρ.set i (some d)).set j (some e)).set l (some f)) μ1
  | _ => False
theorem ds_par3 {i j l : Nat} {x y z : Str} {a b c : Expr} {ta : DTA} {px py pz pt : Pos} {kt k2 pt2} {n : Nat} (hc : X.calm = true) (hN : X.N.Nodup) (hi : X.N[i]? = some x) (hj : X.N[j]? = some y) (hl : X.N[l]? = some z) (hij : i ≠ j) (hil : i ≠ l) (hjl : j ≠ l)
    (hx : X.env.scope.names.lookup x = some .local) (hy : X.env.scope.names.lookup y = some .local) (hz : X.env.scope.names.lookup z = some .local) (ha : DAn X B [a, b, c] n ta)
    (hw : swappedStores [.Tuple [.Name x px, .Name y py, .Name z pz] kt pt] (.Tuple [a, b, c] k2 pt2) X.env = pure (some [x, y, z]))
    (hs : swapsWithSole [.Tuple [.Name x px, .Name y py, .Name z pz] kt pt] (.Tuple [a, b, c] k2 pt2) pos.line X.env = pure false := by rfl) :
    DS X B (.Assign [.Tuple [.Name x px, .Name y py, .Name z pz] kt pt] (.Tuple [a, b, c] k2 pt2) pos) (dPar3 i j l ta) :=
  PS.by (ps_par3 hc hN hi hj hl hij hil hjl hx hy hz ha hw hs) fun D σ H ⟨F, ρ, μ, DD, sB, ok, rs, t, cl⟩ => by
  refine ⟨F, ρ, μ, _, sB, ok, rs, t, fun F1 ds μ1 vs H1 s1 ok1 r1 l1 t1 => ?_⟩
  split at t1
  · obtain ⟨v, r, rfl, q1, q⟩ := reps_cons.mp r1
    obtain ⟨w, u, rfl, q2, q3⟩ := reps2 q
    exact ⟨v, w, u, rfl, cl.nx F1 _ μ1 _ H1 s1 ok1 ((((rs.mono s1.s).set q1 i).set q2 j).set q3 l) t1⟩
  · exact t1.elim
theorem ds_drop (he : DE X B e te) (hs : swapsWith e none pos.line X.env = pure false := by rfl) : DS X B (.Expr e pos) (dDrop te) := PS.by (ps_expr he hs) fun D σ H ⟨F, ρ, μ, DD, sB, ok, rs, t, cl⟩ =>
  ⟨F, ρ, μ, _, sB, ok, rs, t, fun F1 d μ1 v H1 s1 ok1 rd t1 => cl.nx F1 ρ μ1 σ H1 s1 ok1 (rs.mono s1.s) t1⟩
theorem ds_ret (he : DE X B e te) : DS X B (.Return (some e) pos) (dRet te) := PS.by (ps_ret he) fun D σ H ⟨F, ρ, μ, DD, sB, ok, rs, t, cl⟩ => ⟨F, ρ, μ, _, sB, ok, rs, t, cl.rt⟩
theorem ds_retN : DS X B (.Return none pos) dRetN := PS.by ps_retN fun D σ H ⟨F, ρ, μ, DD, sB, ok, rs, t, cl⟩ => cl.rt F .non μ .non H (Stp.refl) ok (rep_non.mpr rfl) t
theorem ds_if {c : Expr} {a b : List Stmt} {tc : DTT} (hc : DT X B c tc) (ha : DSs X B a t) (hb : DSs X B b u) : DS X B (.If c a b pos) (dIfS tc t u) := PS.by (ps_if hc ha hb) fun D σ H ⟨F, ρ, μ, DD, sB, ok, rs, t, cl⟩ => by
  refine ⟨F, ρ, μ, _, sB, ok, rs, t, fun F1 b μ1 H1 s1 ok1 t1 => ?_⟩
  cases b with
  | true => rw [if_pos rfl]; exact ⟨F1, ρ, μ1, DD, sB.trans s1, ok1, rs.mono s1.s, t1, cl.mono s1⟩
  | false => rw [if_neg Bool.false_ne_true]; exact ⟨F1, ρ, μ1, DD, sB.trans s1, ok1, rs.mono s1.s, t1, cl.mono s1⟩
theorem ds_never : DS X B st dNever := ⟨fun _ _ _ _ _ _ ⟨_, _, _, _, _, _, _, h, _⟩ => h.elim⟩
theorem dss_never {sts : List Stmt} : DSs X B sts dNever := ⟨fun _ _ _ _ _ _ ⟨_, _, _, _, _, _, _, h, _⟩ => h.elim⟩
/-- what stands behind may forget some slots -/
def dForget (is : List Nat) (t : DTS) : DTS := fun DD ρ μ => t { DD with nx := dLose is DD.nx, ct := dLose is DD.ct } ρ μ
theorem RelS.loses {K : PySem.W.Frag} {F : Hp} {ρ : DSt} {σ : L2.St} (r : RelS K F ρ σ) : ∀ is : List Nat, RelS K F (is.foldl (fun r i => r.set i none) ρ) σ := by
  intro is
  induction is generalizing ρ with
  | nil => exact r
  | cons i is ih => exact ih (r.lose i)
theorem dss_forget {sts : List Stmt} {t : DTS} (is : List Nat) (h : DSs X B sts t) : DSs X B sts (dForget is t) := PSs.by h fun D σ H ⟨F, ρ, μ, DD, sB, ok, rs, t, cl⟩ =>
  ⟨F, ρ, μ, _, sB, ok, rs, t, ⟨fun F1 ρ1 μ1 σ1 H1 s1 ok1 rs1 t1 => cl.nx F1 _ μ1 σ1 H1 s1 ok1 (rs1.loses is) t1, cl.rt, cl.bk, fun F1 ρ1 μ1 σ1 H1 s1 ok1 rs1 t1 => cl.ct F1 _ μ1 σ1 H1 s1 ok1 (rs1.loses is) t1⟩⟩
end
end Li

set_option Elab.async false
set_option linter.all false
set_option maxRecDepth 100000
set_option maxHeartbeats 1000000
/-! Methods of built-in types, loops, comprehensions over data. -/
namespace Li
open PySem PySem.Spec PyProof.Rows L2
variable [Tbl]

/-- xs.append(e), xs a list of the store -/
def dAppend (to : DTE) (te : DTE) : DTE := fun ρ μ Q => to ρ μ fun x μ1 => match x with
  | .ref a => refL (μ1 a) fun _ => te ρ μ1 fun d μ2 => refL (μ2 a) fun ds => ds.length < sizeLine ∧ Q .non (mset μ2 a (some (.lst (ds ++ [d]))))
  | _ => False
section
variable {X : Cx} {B : Ent} {o e : Expr} {to te : DTE} {apos cpos : Pos}
theorem de_append (ho : DE X B o to) (he : DE X B e te) (hbase : attributeBase o "append" X.env (eval o X.env) = eval o X.env := by rfl)
    (hfew : ((backTo cpos (starEach [e] X.env)).all (fun x => !x.1) && (backToKw cpos (keywordEach [] X.env)).all (fun x => x.1.isSome)
      && decide ([e].length + ([] : List Keyword).length + (if ([] : List Keyword).isEmpty then 0 else 1) < 30)) = true := by rfl)
    (hline : (apos.endLine == cpos.line) = true := by rfl) (hs : starEach [e] X.env = (false, eval e X.env) :: starEach [] X.env := by rfl) (hplain : (backTo cpos (starEach [] X.env)).any (·.1) = false := by rfl) :
    DE X B (.Call (.Attribute o "append" apos) [e] [] cpos) (dAppend to te) :=
  PE.by (pe_bm PySem.F.plainAttrs_list PySem.F.slot_list_append PySem.F.type_list_append mt_append ho (da_cons he da_nil hs) hbase hfew hline hs hplain) fun σ H Q ⟨F, ρ, μ, Qd, sB, ok, rs, t, cl⟩ => by
  refine ⟨F, ρ, μ, _, sB, ok, rs, t, fun F1 x μ1 v H1 s1 ok1 rx t1 => ?_⟩
  split at t1
  · rename_i a
    obtain rfl := rep_ref.mp rx
    obtain ⟨ds0, em, t1⟩ := refL_elim t1
    obtain ⟨_, vs, h1, _⟩ := ok1.lst a ds0 em
    refine ⟨.inl ⟨rfl, _, SqL.of h1⟩, F1, ρ, μ1, (fun ds μ2 => match ds with
        | [d] => refL (μ2 a) fun ds => ds.length < sizeLine ∧ Qd .non (mset μ2 a (some (.lst (ds ++ [d]))))
        | _ => False), sB.trans s1, ok1, rs.mono s1.s, t1, fun F2 ds μ2 ws H2 s2 ok2 r2 l2 t2 => ?_⟩
    cases ds with
    | nil => cases l2
    | cons d r =>
      cases r with
      | cons _ _ => cases l2
      | nil =>
        obtain ⟨w, rfl, rw'⟩ := reps1 r2
        obtain ⟨ds, em2, t2⟩ := refL_elim (show refL (μ2 a) fun ds => ds.length < sizeLine ∧ Qd .non (mset μ2 a (some (.lst (ds ++ [d])))) from t2)
        obtain ⟨hF, vs2, h3, h4⟩ := ok2.lst a ds em2
        exact ⟨a, vs2, w, rfl, rfl, h3, by rw [← h4.length]; exact t2.1, cl F2 _ _ _ _ ((s1.trans s2).trans (stpPut em2)) (ok2.put hF (fun u e => by rw [h3] at e; cases e; exact ⟨_, rfl⟩) (h4.append (.cons rw' (reps_nil.mpr rfl)))) (rep_non.mpr rfl) t2.2⟩
  · exact t1.elim

/-! ### methods of texts -/
abbrev KM0 := Str → MS → DK → Prop
abbrev KM1 := Str → D → MS → DK → Prop
def dM0 (k : KM0) (to : DTE) : DTE := fun ρ μ Q => to ρ μ fun x μ1 => match x with
  | .str a => k a μ1 Q
  | _ => False
def dM1 (k : KM1) (to te : DTE) : DTE := fun ρ μ Q => to ρ μ fun x μ1 => match x with
  | .str a => te ρ μ1 fun y μ2 => k a y μ2 Q
  | _ => False
def kSplit : KM1 := fun a y μ Q => match y with
  | .str b => (b.length == 0) = false ∧ a.length + 2 ≤ sizeLine ∧ Q (.lst ((Txt.split a b).map .str)) μ
  | _ => False
theorem reps_strs {K : PySem.W.Frag} {F : Hp} : ∀ ys : List Str, Reps K F (ys.map .str) (ys.map V.str)
  | [] => reps_nil.mpr rfl
  | y :: ys => .cons (rep_str.mpr rfl) (reps_strs ys)
theorem de_split (ho : DE X B o to) (he : DE X B e te) (hs : starEach [e] X.env = [(false, eval e X.env)] := by rfl) (hbase : attributeBase o "split" X.env (eval o X.env) = eval o X.env := by rfl) (hline : (apos.endLine == cpos.line) = true := by rfl) :
    DE X B (.Call (.Attribute o "split" apos) [e] [] cpos) (dM1 kSplit to te) := PE.by (pe_split ho he hs hbase hline) fun σ H Q ⟨F, ρ, μ, Qd, sB, ok, rs, t, cl⟩ => by
  refine ⟨F, ρ, μ, _, sB, ok, rs, t, fun F1 x μ1 v H1 s1 ok1 rx t1 => ?_⟩
  split at t1
  · rename_i a
    obtain rfl := rep_str.mp rx
    refine ⟨⟨a, rfl⟩, F1, ρ, μ1, _, sB.trans s1, ok1, rs.mono s1.s, t1, fun F2 y μ2 w H2 s2 ok2 ry t2 => ?_⟩
    unfold kSplit at t2
    split at t2
    · rename_i b
      obtain rfl := rep_str.mp ry
      obtain ⟨h1, h2, h3⟩ := t2
      exact ⟨a, b, rfl, rfl, h1, h2, fun p hp => cl_lst ok2 (cl.mono (s1.trans s2)) (reps_strs _) h3 hp⟩
    · exact t2.elim
  · exact t1.elim
def allStr : List D → Option (List Str)
  | [] => some []
  | .str x :: r => (allStr r).map (x :: ·)
  | _ :: _ => none
theorem allStr_of {K : PySem.W.Frag} {F : Hp} : ∀ {ds : List D} {ys : List Str} {vs : List V}, allStr ds = some ys → Reps K F ds vs → vs = ys.map V.str
  | [], ys, vs, h, r => by cases h; rw [reps_nil.mp r]; rfl
  | d :: ds, ys, vs, h, r => by
    obtain ⟨v, t, rfl, r1, r2⟩ := reps_cons.mp r
    cases d with
    | str x =>
      cases e : allStr ds with
      | none => simp [allStr, e] at h
      | some zs =>
        simp [allStr, e] at h
        subst h
        rw [rep_str.mp r1, allStr_of e r2]; rfl
    | _ => simp [allStr] at h
theorem allStr_map : ∀ ys : List Str, allStr (ys.map .str) = some ys
  | [] => rfl
  | y :: ys => by simp [allStr, allStr_map ys]
def kJoin : KM1 := fun a y μ Q => match y with
  | .lst ds => (match allStr ds with
    | some ys => (ys.map (·.length)).sum + ys.length * a.length ≤ 16777216 ∧ Q (.str (Txt.join a ys)) μ
    | none => False)
  | _ => False
theorem de_join (ho : DE X B o to) (he : DE X B e te) (hs : starEach [e] X.env = [(false, eval e X.env)] := by rfl) (hbase : attributeBase o "join" X.env (eval o X.env) = eval o X.env := by rfl) (hline : (apos.endLine == cpos.line) = true := by rfl) :
    DE X B (.Call (.Attribute o "join" apos) [e] [] cpos) (dM1 kJoin to te) := PE.by (pe_join ho he hs hbase hline) fun σ H Q ⟨F, ρ, μ, Qd, sB, ok, rs, t, cl⟩ => by
  refine ⟨F, ρ, μ, _, sB, ok, rs, t, fun F1 x μ1 v H1 s1 ok1 rx t1 => ?_⟩
  split at t1
  · rename_i a
    obtain rfl := rep_str.mp rx
    refine ⟨⟨a, rfl⟩, F1, ρ, μ1, _, sB.trans s1, ok1, rs.mono s1.s, t1, fun F2 y μ2 w H2 s2 ok2 ry t2 => ?_⟩
    unfold kJoin at t2
    split at t2
    · rename_i ds
      obtain ⟨p, vs, rfl, h1, h2⟩ := rep_lst.mp ry
      split at t2
      · rename_i ys e
        have := allStr_of e h2
        subst this
        exact ⟨a, p, ys, rfl, rfl, .inl (SqL.of (ok2.sub _ _ h1)), t2.1, cl F2 _ μ2 _ H2 (s1.trans s2) ok2 (rep_str.mpr rfl) t2.2⟩
      · exact t2.elim
    · exact t2.elim
  · exact t1.elim
def kUpper : KM0 := fun a μ Q => a.length ≤ 5592405 ∧ Q (.str (Txt.upper a)) μ
theorem de_upper (ho : DE X B o to) (hbase : attributeBase o "upper" X.env (eval o X.env) = eval o X.env := by rfl) (hline : (apos.endLine == cpos.line) = true := by rfl) :
    DE X B (.Call (.Attribute o "upper" apos) [] [] cpos) (dM0 kUpper to) := PE.by (pe_upper ho hbase hline) fun σ H Q ⟨F, ρ, μ, Qd, sB, ok, rs, t, cl⟩ => by
  refine ⟨F, ρ, μ, _, sB, ok, rs, t, fun F1 x μ1 v H1 s1 ok1 rx t1 => ?_⟩
  split at t1
  · rename_i a
    obtain rfl := rep_str.mp rx
    exact ⟨⟨a, rfl⟩, a, rfl, rfl, t1.1, cl F1 _ μ1 _ H1 s1 ok1 (rep_str.mpr rfl) t1.2⟩
  · exact t1.elim
end

/-! ### what is walked -/
/-- a list, a tuple, a list of the store (it stays then as it is) -/
def dSeqI (te : DTE) : DTI := fun ρ μ R => te ρ μ fun x μ1 => match x with
  | .tup ds => R ds μ1
  | .lst ds => R ds μ1
  | .ref a => refL (μ1 a) fun ds => R ds (mset μ1 a none)
  | _ => False
def iSeq (K : PySem.W.Frag) (tl : TE) : TI := fun σ H R => tl σ H fun x H1 => (∃ a, x = .ref a ∧ ∃ xs, SqL K H1 a xs ∧ (xs.length ≤ sizeLine → R (Itl K a) H1)) ∨ (∃ a, x = .ref a ∧ ∃ xs, SqT K H1 a xs ∧ (xs.length ≤ sizeLine → R (Itt K a) H1))
theorem pi_seq {X : Cx} {tg l : Expr} {tl : TE} (hl : PE X l tl) : PI X tg l (iSeq X.K tl) := by
  refine ⟨fun pins s σ H R I h => ?_⟩
  refine thn (hl.run pins s σ H _ I h) fun v s1 ⟨x, H1, I1, r1, q1⟩ => ?_
  rcases q1 with ⟨a, e, xs, hq, q⟩ | ⟨a, e, xs, hq, q⟩
  · subst e
    cases r1
    obtain ⟨its, rv, p, hz⟩ := I1.list hq
    refine wpAny_pyIter_list p.isList ?_
    refine ⟨s1.heap.objs.size, [s1.heap.objs.size], _, _, H1, rfl, I1.kept (t' := s1.toks) fun b o e => Heap.get?_push_of_some _ e, turn_list a _, ⟨_, Heap.get?_push_size _ rfl, rfl, rfl⟩, fun b hb => ?_, q hz⟩
    have e : b = s1.heap.objs.size := by simpa using hb
    subst e
    exact I1.fpOk (Nat.le_refl _) (I1.hok.fresh (Nat.le_refl _))
  · subst e
    cases r1
    obtain ⟨its, rv, p, hz⟩ := I1.tuple hq
    refine wpAny_pyIter_tuple (show s1.heap.IsTuple a its.toArray from p) ?_
    refine ⟨s1.heap.objs.size, [s1.heap.objs.size], _, _, H1, rfl, I1.kept (t' := s1.toks) fun b o e => Heap.get?_push_of_some _ e, turn_tuple a _, ⟨_, Heap.get?_push_size _ rfl, rfl, rfl⟩, fun b hb => ?_, q hz⟩
    have e : b = s1.heap.objs.size := by simpa using hb
    subst e
    exact I1.fpOk (Nat.le_refl _) (I1.hok.fresh (Nat.le_refl _))
theorem gives_list {K : PySem.W.Frag} {F : Hp} {a : Addr} {ds : List D} {vs : List V} (h : F a = some (.lst vs)) (r : Reps K F ds vs) : Gives K F ds (Itl K a) := fun i F1 μ1 H1 s ok => by
  have hq : SqL K H1 a vs := SqL.of (ok.sub _ _ (s _ _ h))
  refine ⟨fun d e => ?_, fun hl => ⟨vs, hq, by rw [← r.length]; exact hl⟩⟩
  obtain ⟨v, e', q⟩ := r.get e
  refine ⟨⟨vs, v, hq, e'⟩, fun x H2 ⟨e2, y⟩ => ?_⟩
  subst e2
  have := y vs hq
  rw [e'] at this
  cases this
  exact ⟨F1, Stp.refl, ok, q.mono s⟩
theorem gives_tup {K : PySem.W.Frag} {F : Hp} {a : Addr} {ds : List D} {vs : List V} (h : SqT K F a vs) (r : Reps K F ds vs) : Gives K F ds (Itt K a) := fun i F1 μ1 H1 s ok => by
  have hq : SqT K H1 a vs := ok.sqT (same_sqT s h)
  refine ⟨fun d e => ?_, fun hl => ⟨vs, hq, by rw [← r.length]; exact hl⟩⟩
  obtain ⟨v, e', q⟩ := r.get e
  refine ⟨⟨vs, v, hq, e'⟩, fun x H2 ⟨e2, y⟩ => ?_⟩
  subst e2
  have := y vs hq
  rw [e'] at this
  cases this
  exact ⟨F1, Stp.refl, ok, q.mono s⟩
section
variable {X : Cx} {B : Ent} {tg l : Expr} {tl : DTE}
theorem di_seq (hl : DE X B l tl) : DI X B tg l (dSeqI tl) := PI.by (pi_seq hl) fun σ H R ⟨F, ρ, μ, Qd, sB, ok, rs, t, cl⟩ => by
  refine ⟨F, ρ, μ, _, sB, ok, rs, t, fun F1 x μ1 v H1 s1 ok1 rx t1 => ?_⟩
  split at t1
  · obtain ⟨a, vs, rfl, h1, h2⟩ := rep_tup.mp rx
    exact .inr ⟨a, rfl, vs, ok1.sqT h1, fun hz => cl F1 _ μ1 H1 _ s1 ok1 (by rw [h2.length]; exact hz) (gives_tup h1 h2) t1⟩
  · obtain ⟨a, vs, rfl, h1, h2⟩ := rep_lst.mp rx
    exact .inl ⟨a, rfl, vs, SqL.of (ok1.sub _ _ h1), fun hz => cl F1 _ μ1 H1 _ s1 ok1 (by rw [h2.length]; exact hz) (gives_list h1 h2) t1⟩
  · rename_i a
    obtain rfl := rep_ref.mp rx
    obtain ⟨ds, em, t1⟩ := refL_elim t1
    obtain ⟨F2, s2, ok2, r2⟩ := ok1.freeze em
    obtain ⟨a', vs, e, h1, h2⟩ := rep_lst.mp r2
    cases e
    exact .inl ⟨a, rfl, vs, SqL.of (ok2.sub _ _ h1), fun hz => cl F2 _ _ H1 _ (s1.trans s2) ok2 (by rw [h2.length]; exact hz) (gives_list h1 h2) t1⟩
  · exact t1.elim

/-! ranges -/
def intsD (lo : Int) (n : Nat) : List D := (List.range n).map fun i : Nat => D.int (lo + (i : Int))
theorem intsD_get {lo : Int} {n i : Nat} : (intsD lo n)[i]? = if i < n then some (.int (lo + i)) else none := by
  unfold intsD
  rw [List.getElem?_map]
  by_cases h : i < n
  · rw [if_pos h, List.getElem?_range h]; rfl
  · rw [if_neg h, List.getElem?_eq_none (by simpa using h)]; rfl
theorem intsD_length {lo : Int} {n : Nat} : (intsD lo n).length = n := by simp [intsD]
theorem gives_range {K : PySem.W.Frag} {F : Hp} {lo : Int} {n : Nat} : Gives K F (intsD lo n) (Itr lo n) := fun i F1 μ1 H1 s ok => by
  refine ⟨fun d e => ?_, fun hl => by rw [intsD_length] at hl; exact hl⟩
  rw [intsD_get] at e
  by_cases h : i < n
  · rw [if_pos h] at e
    cases e
    exact ⟨h, fun x H2 ⟨e2, y⟩ => ⟨F1, by rw [e2]; exact Stp.refl, by rw [e2]; exact ok, rep_int.mpr y⟩⟩
  · rw [if_neg h] at e; cases e
def dRange1 (ta : DTA) : DTI := fun ρ μ R => ta ρ μ fun ds μ1 => match ds with
  | [.int j] => j ≤ 16777216 ∧ -(2 ^ 62) ≤ j ∧ R (intsD 0 j.toNat) μ1
  | _ => False
def dRange2 (ta : DTA) : DTI := fun ρ μ R => ta ρ μ fun ds μ1 => match ds with
  | [.int i, .int j] => (0 ≤ i ∧ i ≤ 16777216) ∧ (j ≤ 16777216 ∧ -(2 ^ 62) ≤ j) ∧ R (intsD i (j - i).toNat) μ1
  | _ => False
theorem di_range1 {a : Expr} {ta : DTA} {n : Nat} {p pos : Pos} (hg : Gl X "range") (hm : X.mg "range" = none) (ha : DAn X B [a] n ta) (hs : starEach [a] X.env = [(false, eval a X.env)] := by rfl) :
    DI X B tg (.Call (.Name "range" p) [a] [] pos) (dRange1 ta) := PI.by (pi_range1 hg hm ha hs) fun σ H R ⟨F, ρ, μ, Qd, sB, ok, rs, t, cl⟩ => by
  refine ⟨F, ρ, μ, _, sB, ok, rs, t, fun F1 ds μ1 vs H1 s1 ok1 r1 hn1 t1 => ?_⟩
  split at t1
  · rename_i j
    obtain ⟨v, rfl, r⟩ := reps1 r1
    obtain rfl := rep_int.mp r
    clear hn1
    obtain ⟨h1, h2, h3⟩ := t1
    have hs : sizeLine = 16777216 := sizeLine_eq
    exact ⟨j, rfl, h2, by omega, cl F1 _ μ1 H1 _ s1 ok1 (by rw [intsD_length]; omega) gives_range h3⟩
  · exact t1.elim
theorem di_range2 {a b : Expr} {ta : DTA} {n : Nat} {p pos : Pos} (hg : Gl X "range") (hm : X.mg "range" = none) (ha : DAn X B [a, b] n ta) (hs : starEach [a, b] X.env = [(false, eval a X.env), (false, eval b X.env)] := by rfl) (hs2 : starEach [b] X.env = [(false, eval b X.env)] := by rfl) :
    DI X B tg (.Call (.Name "range" p) [a, b] [] pos) (dRange2 ta) := PI.by (pi_range2 hg hm ha hs hs2) fun σ H R ⟨F, ρ, μ, Qd, sB, ok, rs, t, cl⟩ => by
  refine ⟨F, ρ, μ, _, sB, ok, rs, t, fun F1 ds μ1 vs H1 s1 ok1 r1 hn1 t1 => ?_⟩
  split at t1
  · rename_i i j
    obtain ⟨v, w, rfl, r, r'⟩ := reps2 r1
    obtain rfl := rep_int.mp r
    obtain rfl := rep_int.mp r'
    clear hn1
    obtain ⟨h1, h2, h3⟩ := t1
    have hs : sizeLine = 16777216 := sizeLine_eq
    exact ⟨i, j, rfl, ⟨by omega, by omega, by omega, by omega⟩, cl F1 _ μ1 H1 _ s1 ok1 (by rw [intsD_length]; omega) gives_range h3⟩
  · exact t1.elim
/-! texts -/
def dStrI (te : DTE) : DTI := fun ρ μ R => te ρ μ fun x μ1 => match x with
  | .str a => a.length ≤ sizeLine ∧ R (a.cps.toList.map fun c => D.str ⟨#[c]⟩) μ1
  | _ => False
theorem di_str (hl : DE X B l tl) : DI X B tg l (dStrI tl) := PI.by (pi_str hl) fun σ H R ⟨F, ρ, μ, Qd, sB, ok, rs, t, cl⟩ => by
  refine ⟨F, ρ, μ, _, sB, ok, rs, t, fun F1 x μ1 v H1 s1 ok1 rx t1 => ?_⟩
  split at t1
  · rename_i a
    obtain rfl := rep_str.mp rx
    refine ⟨a, rfl, cl F1 _ μ1 H1 _ s1 ok1 (show (a.cps.toList.map fun c => D.str ⟨#[c]⟩).length ≤ sizeLine by rw [List.length_map, Array.length_toList]; exact t1.1) (fun i F2 μ2 H2 s ok => ⟨fun d e => ?_, fun hl => ?_⟩) t1.2⟩
    · rw [List.getElem?_map] at e
      cases e2 : a.cps.toList[i]? with
      | none => rw [e2] at e; cases e
      | some c =>
        rw [e2] at e; cases e
        have hc : a.cps[i]? = some c := by simpa using e2
        have hi : i < a.cps.size := (Array.getElem?_eq_some_iff.mp hc).1
        refine ⟨hi, fun x H3 ⟨e3, c', hc', e4⟩ => ?_⟩
        rw [hc] at hc'; cases hc'
        exact ⟨F2, by rw [e3]; exact Stp.refl, by rw [e3]; exact ok, rep_str.mpr e4⟩
    · show a.cps.size ≤ i
      simpa using hl
  · exact t1.elim
/-! enumerate, zip -/
def enumD (ds : List D) : List D := ds.zipIdx.map fun (d, i) => .tup [.int i, d]
theorem enumD_get {ds : List D} {i : Nat} : (enumD ds)[i]? = (ds[i]?).map fun d => D.tup [.int i, d] := by
  unfold enumD
  rw [List.getElem?_map, List.getElem?_zipIdx]
  cases ds[i]? with
  | none => rfl
  | some d => simp
def dEnum (ta : DTA) : DTI := fun ρ μ R => ta ρ μ fun ds μ1 => match ds with
  | [.lst ds] => R (enumD ds) μ1
  | _ => False
theorem di_enum {e : Expr} {ta : DTA} {n : Nat} {p pos tpos : Pos} {elts : List Expr} {kk : Nat} (hg : Gl X "enumerate") (hm : X.mg "enumerate" = none) (ha : DAn X B [e] n ta) (hs : starEach [e] X.env = [(false, eval e X.env)] := by rfl) :
    DI X B (.Tuple elts kk tpos) (.Call (.Name "enumerate" p) [e] [] pos) (dEnum ta) := PI.by (pi_enum hg hm (PA.lined ha) hs) fun σ H R ⟨F, ρ, μ, Qd, sB, ok, rs, t, cl⟩ => by
  refine ⟨F, ρ, μ, _, sB, ok, rs, t, fun F1 ds μ1 vs H1 s1 ok1 r1 hn1 t1 hL => ?_⟩
  split at t1
  · rename_i ds
    obtain ⟨v, rfl, r⟩ := reps1 r1
    obtain ⟨a, ws, rfl, h1, h2⟩ := rep_lst.mp r
    have hz := hL _ List.mem_cons_self a ws rfl (.inl (SqL.of (ok1.sub _ _ h1)))
    refine ⟨a, ws, rfl, SqL.of (ok1.sub _ _ h1), cl F1 _ μ1 H1 _ s1 ok1 (by unfold enumD; simp; rw [h2.length]; exact hz) (fun i F2 μ2 H2 s ok => ?_) t1⟩
    have hq : SqL X.K H2 a ws := SqL.of (ok.sub _ _ (s _ _ h1))
    refine ⟨fun d e => ?_, fun hl => ⟨ws, hq, by rw [← h2.length]; simpa [enumD] using hl⟩⟩
    rw [enumD_get] at e
    cases e2 : ds[i]? with
    | none => rw [e2] at e; cases e
    | some d' =>
      rw [e2] at e; cases e
      obtain ⟨w, ew, rw'⟩ := h2.get e2
      refine ⟨⟨ws, w, hq, ew⟩, fun x H3 ⟨T, y, e3, hT, e4, e5⟩ => ?_⟩
      have := e5 ws hq
      rw [ew] at this; cases this
      subst e3 e4
      have sF := same_upd (o := HO.tup [.int (i : Nat), w]) (ok.freeF hT)
      exact ⟨_, ok.stpFrozen hT, ok.frozen hT, rep_tup.mpr ⟨T, _, rfl, SqT.of upd_same, .cons (rep_int.mpr rfl) (.cons ((rw'.mono s).mono sF) (reps_nil.mpr rfl))⟩⟩
  · exact t1.elim
def zipD (ds es : List D) : List D := List.zipWith (fun d e => .tup [d, e]) ds es
theorem zipD_get {ds es : List D} {i : Nat} {d : D} (h : (zipD ds es)[i]? = some d) : ∃ x y, ds[i]? = some x ∧ es[i]? = some y ∧ d = .tup [x, y] := by
  unfold zipD at h
  rw [List.getElem?_zipWith] at h
  cases e1 : ds[i]? with
  | none => rw [e1] at h; cases h
  | some x =>
    cases e2 : es[i]? with
    | none => rw [e1, e2] at h; cases h
    | some y => rw [e1, e2] at h; cases h; exact ⟨x, y, rfl, rfl, rfl⟩
/-- both lists, or both tuples -/
def dZip (ta : DTA) : DTI := fun ρ μ R => ta ρ μ fun ds μ1 => match ds with
  | [.lst ds, .lst es] => R (zipD ds es) μ1
  | [.tup ds, .tup es] => R (zipD ds es) μ1
  | _ => False
theorem di_zip {e e2 : Expr} {ta : DTA} {n : Nat} {p pos tpos : Pos} {elts : List Expr} {kk : Nat} (hg : Gl X "zip") (hm : X.mg "zip" = none) (ha : DAn X B [e, e2] n ta)
    (hs : starEach [e, e2] X.env = (false, eval e X.env) :: starEach [e2] X.env := by rfl) (hpl : (backTo pos (starEach [e2] X.env)).any (·.1) = false := by rfl) :
    DI X B (.Tuple elts kk tpos) (.Call (.Name "zip" p) [e, e2] [] pos) (dZip ta) := PI.by (RZ.pi_zipA hg hm (PA.lined ha) hs hpl) fun σ H R ⟨F, ρ, μ, Qd, sB, ok, rs, t, cl⟩ => by
  refine ⟨F, ρ, μ, _, sB, ok, rs, t, fun F1 ds μ1 vs H1 s1 ok1 r1 hn1 t1 hL => ?_⟩
  split at t1
  · rename_i ds es
    obtain ⟨v, w, rfl, r, r'⟩ := reps2 r1
    obtain ⟨a, ws, rfl, h1, h2⟩ := rep_lst.mp r
    obtain ⟨b, us, rfl, h3, h4⟩ := rep_lst.mp r'
    have hz := hL _ List.mem_cons_self a ws rfl (.inl (SqL.of (ok1.sub _ _ h1)))
    refine ⟨a, b, ws, us, rfl, .inl ⟨SqL.of (ok1.sub _ _ h1), SqL.of (ok1.sub _ _ h3), cl F1 _ μ1 H1 _ s1 ok1 (by unfold zipD; rw [List.length_zipWith, h2.length]; omega) (fun i F2 μ2 H2 s ok => ?_) t1⟩⟩
    have hq : SqL X.K H2 a ws := SqL.of (ok.sub _ _ (s _ _ h1))
    have hq2 : SqL X.K H2 b us := SqL.of (ok.sub _ _ (s _ _ h3))
    refine ⟨fun d e => ?_, fun hl => ⟨ws, us, hq, hq2, ?_⟩⟩
    · obtain ⟨x, y, ex, ey, rfl⟩ := zipD_get e
      obtain ⟨w1, ew1, rw1⟩ := h2.get ex
      obtain ⟨w2, ew2, rw2⟩ := h4.get ey
      refine ⟨⟨ws, us, w1, w2, hq, hq2, ew1, ew2⟩, fun x H3 ⟨T, y1, y2, e3, hT, e4, e5, e6⟩ => ?_⟩
      have q1 := e5 ws hq
      have q2 := e6 us hq2
      rw [ew1] at q1; cases q1
      rw [ew2] at q2; cases q2
      subst e3 e4
      have sF := same_upd (o := HO.tup [w1, w2]) (ok.freeF hT)
      exact ⟨_, ok.stpFrozen hT, ok.frozen hT, rep_tup.mpr ⟨T, _, rfl, SqT.of upd_same, .cons ((rw1.mono s).mono sF) (.cons ((rw2.mono s).mono sF) (reps_nil.mpr rfl))⟩⟩
    · unfold zipD at hl
      rw [List.length_zipWith, h2.length, h4.length] at hl
      omega
  · rename_i ds es
    obtain ⟨v, w, rfl, r, r'⟩ := reps2 r1
    obtain ⟨a, ws, rfl, h1, h2⟩ := rep_tup.mp r
    obtain ⟨b, us, rfl, h3, h4⟩ := rep_tup.mp r'
    have hz := hL _ List.mem_cons_self a ws rfl (.inr (ok1.sqT h1))
    refine ⟨a, b, ws, us, rfl, .inr ⟨ok1.sqT h1, ok1.sqT h3, cl F1 _ μ1 H1 _ s1 ok1 (by unfold zipD; rw [List.length_zipWith, h2.length]; omega) (fun i F2 μ2 H2 s ok => ?_) t1⟩⟩
    have hq : SqT X.K H2 a ws := ok.sqT (same_sqT s h1)
    have hq2 : SqT X.K H2 b us := ok.sqT (same_sqT s h3)
    refine ⟨fun d e => ?_, fun hl => ⟨ws, us, hq, hq2, ?_⟩⟩
    · obtain ⟨x, y, ex, ey, rfl⟩ := zipD_get e
      obtain ⟨w1, ew1, rw1⟩ := h2.get ex
      obtain ⟨w2, ew2, rw2⟩ := h4.get ey
      refine ⟨⟨ws, us, w1, w2, hq, hq2, ew1, ew2⟩, fun x H3 ⟨T, y1, y2, e3, hT, e4, e5, e6⟩ => ?_⟩
      have q1 := e5 ws hq
      have q2 := e6 us hq2
      rw [ew1] at q1; cases q1
      rw [ew2] at q2; cases q2
      subst e3 e4
      have sF := same_upd (o := HO.tup [w1, w2]) (ok.freeF hT)
      exact ⟨_, ok.stpFrozen hT, ok.frozen hT, rep_tup.mpr ⟨T, _, rfl, SqT.of upd_same, .cons ((rw1.mono s).mono sF) (.cons ((rw2.mono s).mono sF) (reps_nil.mpr rfl))⟩⟩
    · unfold zipD at hl
      rw [List.length_zipWith, h2.length, h4.length] at hl
      omega
  · exact t1.elim
end

/-! ### for -/
def forL (g : DTG) (tb : DTS) (DD : DEnds) : List D → DPS
  | [] => DD.nx
  | d :: ds => fun ρ μ => g d ρ μ fun ρ1 μ1 => tb { DD with nx := forL g tb DD ds, ct := forL g tb DD ds, bk := DD.nx } ρ1 μ1
def dFor (ti : DTI) (g : DTG) (tb : DTS) : DTS := fun DD ρ μ => ti ρ μ fun ds μ1 => forL g tb DD ds ρ μ1
theorem ls_for {K : PySem.W.Frag} {B : Ent} {ti : DTI} {g : DTG} {tb : DTS} {D : Ends} {σ : L2.St} {H : Hp} (h : LS K B (dFor ti g tb) D σ H) : tFor (LI K B ti) (LG K B g) (LS K B tb) D σ H := by
  obtain ⟨F, ρ, μ, DD, sB, ok, rs, t, cl⟩ := h
  refine ⟨F, ρ, μ, _, sB, ok, rs, t, fun F1 ds μ1 H1 J s1 ok1 hz gv q => ?_⟩
  refine ⟨fun i m σ' H' => m = ds.length - i ∧ i ≤ ds.length ∧ ∃ F' ρ' μ', Stp F1 μ1 H1 F' μ' H' ∧ Ok K F' μ' H' ∧ RelS K F' ρ' σ' ∧ forL g tb DD (ds.drop i) ρ' μ', ⟨ds.length, by simp, Nat.zero_le _, F1, ρ, μ1, Stp.refl, ok1, rs.mono s1.s, q⟩, ?_⟩
  rintro i m σ' H' ⟨rfl, hi, F', ρ', μ', s', ok', rs', q'⟩
  have gi := gv i F' μ' H' s'.s ok'
  by_cases hlt : i < ds.length
  · obtain ⟨go, step⟩ := gi.1 ds[i] (List.getElem?_eq_getElem hlt)
    rw [List.drop_eq_getElem_cons hlt] at q'
    refine .inr ⟨go, fun σ2 H2 => i + 1 ≤ ds.length ∧ ∃ F2 ρ2 μ2, Stp F1 μ1 H1 F2 μ2 H2 ∧ Ok K F2 μ2 H2 ∧ RelS K F2 ρ2 σ2 ∧ forL g tb DD (ds.drop (i + 1)) ρ2 μ2, fun σ2 H2 h2 => ⟨ds.length - (i + 1), by omega, rfl, h2.1, h2.2⟩, fun x H2 y => ?_⟩
    obtain ⟨F2, s2, ok2, rx⟩ := step x H2 y
    refine ⟨F2, ds[i], ρ', μ', _, (sB.trans s1).trans (s'.trans s2), ok2, rs'.mono s2.s, rx, q', fun F3 ρ3 μ3 σ3 H3 s3 ok3 rs3 q3 => ?_⟩
    have s13 := (s'.trans s2).trans s3
    refine ⟨F3, ρ3, μ3, _, (sB.trans s1).trans s13, ok3, rs3, q3, ?_⟩
    have c := cl.mono (s1.trans s13)
    exact ⟨fun F4 ρ4 μ4 σ4 H4 s4 ok4 rs4 q4 => ⟨hlt, F4, ρ4, μ4, s13.trans s4, ok4, rs4, q4⟩, c.rt, c.nx, fun F4 ρ4 μ4 σ4 H4 s4 ok4 rs4 q4 => ⟨hlt, F4, ρ4, μ4, s13.trans s4, ok4, rs4, q4⟩⟩
  · have e : i = ds.length := by omega
    subst e
    rw [List.drop_length] at q'
    exact .inl ⟨gi.2 (Nat.le_refl _), cl.nx F' ρ' μ' σ' H' (s1.trans s') ok' rs' q'⟩
section
variable {X : Cx} {B : Ent} {tg iter : Expr} {body : List Stmt} {ti : DTI} {g : DTG} {tb : DTS} {pos : Pos}
theorem ds_for (hp : PassesOwn (model X.prog X.w) X.A X.env X.xe) (hc : X.calm = true) (hi : DI X B tg iter ti) (hg : DG X B tg g) (hb : DSs X B body tb) (hs : ∀ x, foldedSetIterable iter X.env x = pure x := by intro _; rfl) :
    DS X B (.For tg iter body [] pos) (dFor ti g tb) := PS.by (ps_for hp hc hi hg hb hs) fun _ _ _ => ls_for
/-- while, by an invariant with its measure -/
def dWhile (c : DTT) (tb : DTS) : DTS := fun DD ρ μ => ∃ W : Nat → DSt → MS → Prop, (∃ m, W m ρ μ) ∧ ∀ m ρ μ, W m ρ μ →
  c ρ μ fun b μ1 => bcase b (∃ N : DPS, (∀ ρ' μ', N ρ' μ' → ∃ m', m' < m ∧ W m' ρ' μ') ∧ tb { DD with nx := N, ct := N, bk := DD.nx } ρ μ1) (DD.nx ρ μ1)
theorem ds_while {c : Expr} {tc : DTT} (hp : PassesOwn (model X.prog X.w) X.A X.env X.xe) (hc : DT X B c tc) (hb : DSs X B body tb) : DS X B (.While c body [] pos) (dWhile tc tb) := PS.by (ps_while hp hc hb) fun D σ H ⟨F, ρ, μ, DD, sB, ok, rs, ⟨W, ⟨m0, w0⟩, turn⟩, cl⟩ => by
  refine ⟨fun m σ' H' => ∃ F' ρ' μ', Stp F μ H F' μ' H' ∧ Ok X.K F' μ' H' ∧ RelS X.K F' ρ' σ' ∧ W m ρ' μ', ⟨m0, F, ρ, μ, Stp.refl, ok, rs, w0⟩, ?_⟩
  rintro m σ' H' ⟨F', ρ', μ', s', ok', rs', w'⟩
  refine ⟨F', ρ', μ', _, sB.trans s', ok', rs', turn m ρ' μ' w', fun F1 b μ1 H1 s1 ok1 q1 => ?_⟩
  have sF := s'.trans s1
  cases b with
  | true =>
    refine iteT ?_
    obtain ⟨N, hN, q1⟩ := q1
    refine ⟨fun σ2 H2 => ∃ F2 ρ2 μ2, Stp F μ H F2 μ2 H2 ∧ Ok X.K F2 μ2 H2 ∧ RelS X.K F2 ρ2 σ2 ∧ N ρ2 μ2, fun σ2 H2 ⟨F2, ρ2, μ2, s2, ok2, rs2, n2⟩ => ?_, ?_⟩
    · obtain ⟨m', hm, w2⟩ := hN ρ2 μ2 n2
      exact ⟨m', hm, F2, ρ2, μ2, s2, ok2, rs2, w2⟩
    · have c := cl.mono sF
      exact ⟨F1, ρ', μ1, _, sB.trans sF, ok1, rs'.mono s1.s, q1, ⟨fun F4 ρ4 μ4 σ4 H4 s4 ok4 rs4 q4 => ⟨F4, ρ4, μ4, sF.trans s4, ok4, rs4, q4⟩, c.rt, c.nx, fun F4 ρ4 μ4 σ4 H4 s4 ok4 rs4 q4 => ⟨F4, ρ4, μ4, sF.trans s4, ok4, rs4, q4⟩⟩⟩
  | false =>
    refine iteF ?_
    exact cl.nx F1 ρ' μ1 σ' H1 sF ok1 (rs'.mono s1.s) q1
end
end Li

set_option Elab.async false
set_option linter.all false
set_option maxRecDepth 100000
set_option maxHeartbeats 1000000
/-! Comprehensions, calls of the program's own defs, errors, over data. -/
namespace Li
open PySem PySem.Spec PyProof.Rows L2
variable [Tbl]

/-! ### comprehensions -/
def dwipe (ρ : DSt) : List Nat → DSt
  | [] => ρ
  | v :: vs => (dwipe ρ vs).set v none
theorem RelS.wipe {K : PySem.W.Frag} {F : Hp} {ρ : DSt} {σ : L2.St} (r : RelS K F ρ σ) : ∀ vs : List Nat, RelS K F (dwipe ρ vs) (L2.wipe σ vs)
  | [] => r
  | v :: vs => by
    have ih := RelS.wipe r vs
    refine ⟨by simp only [dwipe, L2.wipe, List.length_set, ih.len], fun j d h => ?_⟩
    simp only [dwipe, L2.wipe] at h ⊢
    by_cases hj : v = j
    · subst hj
      by_cases hl : v < (dwipe ρ vs).length
      · rw [List.getElem?_set_self hl] at h; cases h
      · rw [List.getElem?_eq_none (by rw [List.length_set]; omega)] at h; cases h
    · rw [List.getElem?_set_ne hj] at h ⊢
      exact ih.at_ j d h
theorem set_comm_none {σ : L2.St} {i j : Nat} {x : Option V} (h : i ≠ j) : (σ.set i x).set j none = (σ.set j none).set i x := List.set_comm _ _ h
theorem wipe_set {σ : L2.St} {i : Nat} {x : V} : ∀ {vs : List Nat}, i ∈ vs → wipe (σ.set i (some x)) vs = wipe σ vs
  | [], h => by cases h
  | v :: vs, h => by
    by_cases hv : i = v
    · subst hv
      have : ∀ ws : List Nat, (wipe (σ.set i (some x)) ws).set i none = (wipe σ ws).set i none := by
        intro ws
        induction ws with
        | nil => simp [wipe]
        | cons w ws ih =>
          simp only [wipe]
          by_cases hw : w = i
          · subst hw; simp [ih]
          · rw [List.set_comm _ _ hw, ih, List.set_comm _ _ (Ne.symm hw)]
      simp only [wipe]
      exact this vs
    · have : i ∈ vs := by
        rcases List.mem_cons.mp h with e | e
        · exact absurd e hv
        · exact e
      simp only [wipe, wipe_set this]
theorem set_wipe {i : Nat} : ∀ {vs : List Nat} {σ : L2.St}, (wipe (σ.set i none) vs) = (wipe σ vs).set i none
  | [], σ => rfl
  | v :: vs, σ => by
    simp only [wipe]
    rw [set_wipe]
    by_cases hv : v = i
    · subst hv; rfl
    · rw [List.set_comm _ _ hv]
theorem wipe_idem {σ : L2.St} : ∀ {vs : List Nat}, wipe (wipe σ vs) vs = wipe σ vs
  | [] => rfl
  | v :: vs => by
    simp only [wipe]
    rw [set_wipe, wipe_idem, List.set_set]
def gNms : List Nat → TGs
  | [] => gNil
  | i :: is => gCons (gName i) (gNms is)
def dNms : List Nat → DTGs
  | [] => dGNil
  | i :: is => dGCons (dName i) (dNms is)
theorem gNms_stays {vs : List Nat} : ∀ {is : List Nat} {xs : List V} {σ : L2.St} {H : Hp} {Q : L2.St → Hp → Prop}, (∀ i ∈ is, i ∈ vs) → gNms is xs σ H Q → gNms is xs σ H fun σ2 H2 => wipe σ2 vs = wipe σ vs ∧ Q σ2 H2
  | [], xs, σ, H, Q, _, ⟨e, q⟩ => ⟨e, rfl, q⟩
  | i :: is, xs, σ, H, Q, h, ⟨v, r, e, q⟩ => by
    refine ⟨v, r, e, ?_⟩
    have q' := gNms_stays (fun j hj => h j (List.mem_cons_of_mem _ hj)) q
    rw [wipe_set (h i List.mem_cons_self)] at q'
    exact q'
theorem gNms_of {K : PySem.W.Frag} {B : Ent} : ∀ {is : List Nat} {xs : List V} {σ : L2.St} {H : Hp} {Q : L2.St → Hp → Prop}, LGs K B (dNms is) xs σ H Q → gNms is xs σ H Q
  | [], xs, σ, H, Q, ⟨F, ds, ρ, μ, Qd, sB, ok, rs, rd, t, cl⟩ => by
    cases ds with
    | nil => exact ⟨reps_nil.mp rd, cl F _ μ _ H (Stp.refl) ok rs t⟩
    | cons d r => exact t.elim
  | i :: is, xs, σ, H, Q, ⟨F, ds, ρ, μ, Qd, sB, ok, rs, rd, t, cl⟩ => by
    cases ds with
    | nil => exact t.elim
    | cons d r =>
      obtain ⟨v, w, rfl, r1, r2⟩ := reps_cons.mp rd
      exact ⟨v, w, rfl, gNms_of ⟨F, r, _, μ, Qd, sB, ok, rs.set r1 i, r2, t, cl⟩⟩
/-- a comprehension's target -/
structure CTg (X : Cx) (B : Ent) (scope : Scope) (vs : List Nat) (tg : Expr) (td : DTG) : Prop where
  ex : ∃ tv : TG, (∀ (s : Shared) (H : Hp) (C : Addr) (cl : List (Str × Addr)) (fp : List Addr), PG (X.blk s H scope (compEnvC scope cl C X.env) fp) tg tv) ∧
    (∀ v σ H Q, tv v σ H Q → tv v σ H fun σ2 H2 => wipe σ2 vs = wipe σ vs ∧ Q σ2 H2) ∧ ∀ v σ H Q, LG X.K B td v σ H Q → tv v σ H Q
theorem ctg_name {X : Cx} {B : Ent} {scope : Scope} {vs : List Nat} {tg : Expr} (i : Nat) (h : ∀ (s : Shared) (H : Hp) (C : Addr) (cl : List (Str × Addr)) (fp : List Addr), PG (X.blk s H scope (compEnvC scope cl C X.env) fp) tg (gName i)) (hi : i ∈ vs := by decide) : CTg X B scope vs tg (dName i) :=
  ⟨gName i, h, fun v σ H Q q => ⟨wipe_set hi, q⟩, fun v σ H Q ⟨F, d, ρ, μ, Qd, sB, ok, rs, rd, t, cl⟩ => cl F _ μ _ H (Stp.refl) ok (rs.set rd i) t⟩
theorem ctg_tup {X : Cx} {B : Ent} {scope : Scope} {vs : List Nat} {tg : Expr} {n : Nat} (is : List Nat) (h : ∀ (s : Shared) (H : Hp) (C : Addr) (cl : List (Str × Addr)) (fp : List Addr), PG (X.blk s H scope (compEnvC scope cl C X.env) fp) tg (gTup X.K n (gNms is))) (hi : ∀ i ∈ is, i ∈ vs := by decide) :
    CTg X B scope vs tg (dGTup n (dNms is)) :=
  ⟨gTup X.K n (gNms is), h, fun v σ H Q ⟨a, xs, e, h1, h2, q⟩ => ⟨a, xs, e, h1, h2, gNms_stays hi q⟩, fun v σ H Q ⟨F, d, ρ, μ, Qd, sB, ok, rs, rd, t, cl⟩ => by
    unfold dGTup at t
    split at t
    · rename_i ds
      obtain ⟨a, ws, rfl, h1, h2⟩ := rep_tup.mp rd
      cases e : (ds.length == n) with
      | false => rw [e] at t; exact t.elim
      | true =>
        rw [e] at t
        exact ⟨a, ws, rfl, ok.sqT h1, by rw [← h2.length]; exact eq_of_beq e, gNms_of ⟨F, ds, ρ, μ, Qd, sB, ok, rs, h2, t, cl⟩⟩
    · exact t.elim⟩
def lcL (g : DTG) (tt : DTT) (te : DTE) (ρ : DSt) : List D → MS → (List D → MS → Prop) → Prop
  | [], μ, Q => Q [] μ
  | d :: ds, μ, Q => g d ρ μ fun ρ2 μ2 => tt ρ2 μ2 fun b μ3 => bcase b (te ρ2 μ3 fun y μ4 => lcL g tt te ρ ds μ4 fun r μ5 => Q (y :: r) μ5) (lcL g tt te ρ ds μ3 Q)
def dYes : DTT := fun _ μ Q => Q true μ
/-- [e for target in iter if test], the new list by value, or in the store -/
def dLc (ti : DTI) (g : DTG) (tt : DTT) (te : DTE) (vs : List Nat) : DTE := fun ρ μ Q => ti ρ μ fun ds μ1 => lcL g tt te (dwipe ρ vs) ds μ1 fun r μ2 => Q (.lst r) μ2
def dLcM (ti : DTI) (g : DTG) (tt : DTT) (te : DTE) (vs : List Nat) : DTE := fun ρ μ Q => ti ρ μ fun ds μ1 => lcL g tt te (dwipe ρ vs) ds μ1 fun r μ2 => ∀ a, μ2 a = none → Q (.ref a) (mset μ2 a (some (.lst r)))
theorem Ok.skip {K : PySem.W.Frag} {F : Hp} {μ : MS} {H : Hp} {p : Addr} {o : HO} (ok : Ok K F μ H) (hF : F p = none) (hm : μ p = none) (hx : ∀ u, H p = some u → ∃ xs, u = .lst xs) : Ok K F μ (upd H p o) := by
  have ne : ∀ {a m}, μ a = some m → a ≠ p := fun {a m} e z => by subst z; rw [hm] at e; cases e
  refine ⟨fun b u q => by rw [upd_ne (ne_of_none q hF)]; exact ok.sub b u q, fun a ds e => ?_, fun a C fs e => ?_, tabs_put ok.tab hx, ok.ntb⟩
  · obtain ⟨h1, vs, h2, h3⟩ := ok.lst a ds e
    exact ⟨h1, vs, by rw [upd_ne (ne e)]; exact h2, h3⟩
  · obtain ⟨h1, dx, vfs, h2, h3⟩ := ok.ins a C fs e
    exact ⟨h1, dx, vfs, by rw [upd_ne (ne e)]; exact h2, h3⟩
section
variable {X : Cx} {B : Ent}
abbrev DTs (X : Cx) (B : Ent) (ifs : List Expr) (t : DTT) : Prop := PTs X ifs (LT X.K B t)
theorem dts_nil : DTs X B [] dYes := ⟨fun pins s σ H Q I ⟨F, ρ, μ, Qd, sB, ok, rs, t, cl⟩ => pts_nil.run pins s σ H Q I (cl F true μ H Stp.refl ok t)⟩
theorem dts_one {c : Expr} {t : DTT} (h : DT X B c t) : DTs X B [c] t := pts_one h
def tLcP (P : Hp → Prop) (wi : TI) (g : TG) (tt : TT) (te : TE) (vs : List Nat) : TE := fun σ H Q => wi σ H fun J H1 => ∀ D, H1 D = none → ∃ W : Nat → Nat → Hp → Prop, (∃ m, W 0 m (upd H1 D (.lst []))) ∧ (∀ i m H, W i m H → P H) ∧ ∀ i m H, W i m H →
  (J.stop i H ∧ Q (.ref D) H) ∨ (J.go i H ∧ ∃ Nx : Hp → Prop, (∀ H', Nx H' → ∃ m', m' < m ∧ W (i + 1) m' H') ∧ ∀ x H', J.yld i H x H' → g x (wipe σ vs) H' fun σ2 H2 => wipe σ2 vs = wipe σ vs ∧ tt σ2 H2 fun b H3 =>
    if b = true then te σ2 H3 fun y H4 => ∃ acc, H4 D = some (.lst acc) ∧ acc.length < sizeLine ∧ Nx (upd H4 D (.lst (acc ++ [y]))) else Nx H3)
theorem tLcP.lc {P : Hp → Prop} {K : PySem.W.Frag} {ti : DTI} {g : TG} {tt : TT} {te : TE} {vs : List Nat} {σ : L2.St} {H : Hp} {Q : VK} (h : tLcP P (LI K B ti) g tt te vs σ H Q) : tLc (LI K B ti) g tt te vs σ H Q := by
  obtain ⟨F, ρ, μ, Qd, sB, ok, rs, t, cl⟩ := h
  refine ⟨F, ρ, μ, Qd, sB, ok, rs, t, fun F1 ds μ1 H1 J s1 ok1 hz gv q D hD => ?_⟩
  obtain ⟨W, m0, _, turn⟩ := cl F1 ds μ1 H1 J s1 ok1 hz gv q D hD
  exact ⟨W, m0, turn⟩
theorem le_lcP {P : Hp → Prop} (hP : ∀ F μ H, B.to F μ H → Ok X.K F μ H → P H) {ti : DTI} {g : DTG} {tt : DTT} {te : DTE} {vs : List Nat} {tv : TG} {Qo : DK → List D → MS → Prop}
    (hst : ∀ v σ H Q, tv v σ H Q → tv v σ H fun σ2 H2 => wipe σ2 vs = wipe σ vs ∧ Q σ2 H2) (hof : ∀ v σ H Q, LG X.K B g v σ H Q → tv v σ H Q)
    (hQ : ∀ {F μ H Fz μz Hz Qd r ws D} {Q : VK}, Cl X.K F μ H Qd Q → H D = none → Stp F μ H Fz μz Hz → Ok X.K Fz μz Hz → Reps X.K Fz r ws → Hz D = some (.lst ws) → Fz D = none → μz D = none → Qo Qd r μz → Q (.ref D) Hz)
    {σ : L2.St} {H : Hp} {Q : VK} (h : LE X.K B (fun ρ μ Q => ti ρ μ fun ds μ1 => lcL g tt te (dwipe ρ vs) ds μ1 (Qo Q)) σ H Q) : tLcP P (LI X.K B ti) tv (LT X.K B tt) (LE X.K B te) vs σ H Q := by
  obtain ⟨F, ρ, μ, Qd, sB, ok, rs, t, cl⟩ := h
  refine ⟨F, ρ, μ, _, sB, ok, rs, t, fun F1 ds μ1 H1 J s1 ok1 hz gv q D hD => ?_⟩
  have cl1 := cl.mono s1
  refine ⟨fun i m H' => m = ds.length - i ∧ i ≤ ds.length ∧ ∃ F' μ' acc ws, Stp F1 μ1 H1 F' μ' H' ∧ Ok X.K F' μ' H' ∧ H' D = some (.lst ws) ∧ F' D = none ∧ μ' D = none ∧ Reps X.K F' acc ws ∧ acc.length ≤ i ∧
      lcL g tt te (dwipe ρ vs) (ds.drop i) μ' (fun r μ5 => Qo Qd (acc ++ r) μ5),
    ⟨ds.length, by simp, Nat.zero_le _, F1, μ1, [], [], Stp.refl.skip hD, ok1.skip (ok1.freeF hD) (ok1.freeM hD) (fun u e => by rw [hD] at e; cases e), upd_same, ok1.freeF hD, ok1.freeM hD, reps_nil.mpr rfl, Nat.le_refl _, by simpa using q⟩, fun i m H' ⟨_, _, F', μ', acc, ws, s', ok', _⟩ => hP F' μ' H' ((sB.trans s1).trans s') ok', ?_⟩
  rintro i m H' ⟨rfl, hi, F', μ', acc, ws, s', ok', hD', hF', hm', ra, hl, q'⟩
  have gi := gv i F' μ' H' s'.s ok'
  by_cases hlt : i < ds.length
  · obtain ⟨go, step⟩ := gi.1 ds[i] (List.getElem?_eq_getElem hlt)
    rw [List.drop_eq_getElem_cons hlt] at q'
    refine .inr ⟨go, fun H2 => i + 1 ≤ ds.length ∧ ∃ F' μ' acc ws, Stp F1 μ1 H1 F' μ' H2 ∧ Ok X.K F' μ' H2 ∧ H2 D = some (.lst ws) ∧ F' D = none ∧ μ' D = none ∧ Reps X.K F' acc ws ∧ acc.length ≤ i + 1 ∧
      lcL g tt te (dwipe ρ vs) (ds.drop (i + 1)) μ' (fun r μ5 => Qo Qd (acc ++ r) μ5), fun H2 h2 => ⟨ds.length - (i + 1), by omega, rfl, h2.1, h2.2⟩, fun x H2 y => ?_⟩
    obtain ⟨F2, s2, ok2, rx⟩ := step x H2 y
    have fin := fun Q' (q : tv x (wipe σ vs) H2 Q') => hst _ _ _ _ q
    rw [wipe_idem] at fin
    refine fin _ (hof _ _ _ _ ⟨F2, ds[i], dwipe ρ vs, μ', _, (sB.trans s1).trans (s'.trans s2), ok2, (rs.mono (s1.trans (s'.trans s2)).s).wipe vs, rx, q', fun F3 ρ3 μ3 σ3 H3 s3 ok3 rs3 q3 => ?_⟩)
    have s03 := (s'.trans s2).trans s3
    refine ⟨F3, ρ3, μ3, _, (sB.trans s1).trans s03, ok3, rs3, q3, fun F4 b μ4 H4 s4 ok4 q4 => ?_⟩
    have sd := (s2.trans s3).trans s4
    obtain ⟨hD4, hm4, hF4⟩ := sd.fr D _ hD' (fun ps z => by cases z) hm'
    cases b with
    | false =>
      refine iteF ⟨hlt, F4, μ4, acc, ws, s03.trans s4, ok4, hD4, hF4 hF', hm4, ra.mono sd.s, by omega, q4⟩
    | true =>
      refine iteT ⟨F4, ρ3, μ4, _, (sB.trans s1).trans (s03.trans s4), ok4, rs3.mono s4.s, q4, fun F5 y5 μ5 w H5 s5 ok5 r5 q5 => ?_⟩
      have se := sd.trans s5
      obtain ⟨hD5, hm5, hF5⟩ := se.fr D _ hD' (fun ps z => by cases z) hm'
      refine ⟨ws, hD5, by rw [← ra.length]; omega, hlt, F5, μ5, acc ++ [y5], ws ++ [w], ((s03.trans s4).trans s5).skip hD, ok5.skip (hF5 hF') hm5 (fun u e => by rw [hD5] at e; cases e; exact ⟨_, rfl⟩), upd_same, hF5 hF', hm5, (ra.mono se.s).append (.cons r5 (reps_nil.mpr rfl)), by simp; omega, ?_⟩
      simpa using q5
  · have e : i = ds.length := by omega
    subst e
    rw [List.drop_length] at q'
    exact .inl ⟨gi.2 (Nat.le_refl _), hQ cl1 hD s' ok' ra hD' hF' hm' (by simpa [lcL] using q')⟩
theorem le_lc {ti : DTI} {g : DTG} {tt : DTT} {te : DTE} {vs : List Nat} {tv : TG} {Qo : DK → List D → MS → Prop}
    (hst : ∀ v σ H Q, tv v σ H Q → tv v σ H fun σ2 H2 => wipe σ2 vs = wipe σ vs ∧ Q σ2 H2) (hof : ∀ v σ H Q, LG X.K B g v σ H Q → tv v σ H Q)
    (hQ : ∀ {F μ H Fz μz Hz Qd r ws D} {Q : VK}, Cl X.K F μ H Qd Q → H D = none → Stp F μ H Fz μz Hz → Ok X.K Fz μz Hz → Reps X.K Fz r ws → Hz D = some (.lst ws) → Fz D = none → μz D = none → Qo Qd r μz → Q (.ref D) Hz)
    {σ : L2.St} {H : Hp} {Q : VK} (h : LE X.K B (fun ρ μ Q => ti ρ μ fun ds μ1 => lcL g tt te (dwipe ρ vs) ds μ1 (Qo Q)) σ H Q) : tLc (LI X.K B ti) tv (LT X.K B tt) (LE X.K B te) vs σ H Q :=
  tLcP.lc (le_lcP (P := fun _ => True) (fun _ _ _ _ _ => trivial) hst hof hQ h)
theorem lc_froz {K : PySem.W.Frag} {F : Hp} {μ : MS} {H Fz : Hp} {μz : MS} {Hz : Hp} {Qd : DK} {r : List D} {ws : List V} {D : Addr} {Q : VK} (cl : Cl K F μ H Qd Q) (hD : H D = none) (s : Stp F μ H Fz μz Hz) (ok : Ok K Fz μz Hz) (ra : Reps K Fz r ws) (h : Hz D = some (.lst ws)) (hF : Fz D = none) (hm : μz D = none)
    (q : Qd (.lst r) μz) : Q (.ref D) Hz := by
  have ne : ∀ {a m}, μz a = some m → a ≠ D := fun {a m} e z => by subst z; rw [hm] at e; cases e
  have sm : Same Fz (upd Fz D (.lst ws)) := same_upd hF
  refine cl (upd Fz D (.lst ws)) _ μz _ _ (s.skipF hD hF) ⟨fun b u z => ?_, fun a ds e => ?_, fun a C fs e => ?_, ok.tab, ntb_upd ok.ntb (fun ps z => by cases z)⟩ (rep_lst.mpr ⟨D, ws, rfl, upd_same, ra.mono sm⟩) q
  · by_cases hb : b = D
    · subst hb; rw [upd_same] at z; cases z; exact h
    · rw [upd_ne hb] at z; exact ok.sub b u z
  · obtain ⟨h1, vs, h2, h3⟩ := ok.lst a ds e
    exact ⟨by rw [upd_ne (ne e)]; exact h1, vs, h2, h3.mono sm⟩
  · obtain ⟨h1, dx, vfs, h2, h3⟩ := ok.ins a C fs e
    exact ⟨by rw [upd_ne (ne e)]; exact h1, dx, vfs, h2, h3.mono sm⟩
theorem lc_mut {K : PySem.W.Frag} {F : Hp} {μ : MS} {H Fz : Hp} {μz : MS} {Hz : Hp} {Qd : DK} {r : List D} {ws : List V} {D : Addr} {Q : VK} (cl : Cl K F μ H Qd Q) (hD : H D = none) (s : Stp F μ H Fz μz Hz) (ok : Ok K Fz μz Hz) (ra : Reps K Fz r ws) (h : Hz D = some (.lst ws)) (hF : Fz D = none) (hm : μz D = none)
    (q : ∀ a, μz a = none → Qd (.ref a) (mset μz a (some (.lst r)))) : Q (.ref D) Hz := by
  refine cl Fz _ _ _ _ (s.skipM hD) ⟨ok.sub, fun a ds e => ?_, fun a C fs e => ?_, ok.tab, ok.ntb⟩ (rep_ref.mpr rfl) (q D hm)
  · by_cases ha : a = D
    · subst ha; rw [mset_same] at e; cases e; exact ⟨hF, ws, h, ra⟩
    · rw [mset_ne ha] at e; exact ok.lst a ds e
  · by_cases ha : a = D
    · subst ha; rw [mset_same] at e; cases e
    · rw [mset_ne ha] at e; exact ok.ins a C fs e
variable {elt tg iter : Expr} {ifs : List Expr} {scope : Scope} {own : List (Str × Nat)} {vs : List Nat} {pos : Pos} {ti : DTI} {g : DTG} {tt : DTT} {te : DTE}
abbrev InBlk (X : Cx) (scope : Scope) (P : Cx → Prop) : Prop := ∀ (s : Shared) (H : Hp) (C : Addr) (cl : List (Str × Addr)) (fp : List Addr), P (X.blk s H scope (compEnvC scope cl C X.env) fp)
theorem de_lc (hc : X.calm = true) (hN : X.N.Nodup) (hi : DI X B tg iter ti) (ok : BlkOk X.N X.env.scope scope own) (hg : CTg X B scope vs tg g) (ht : InBlk X scope fun Y => DTs Y B ifs tt) (he : InBlk X scope fun Y => DE Y B elt te) (hs : ∀ x, foldedSetIterable iter X.env x = pure x := by intro _; rfl) (hv : own.map (·.2) = vs := by rfl) :
    DE X B (.ListComp elt [⟨tg, iter, ifs, 0⟩] scope pos) (dLc ti g tt te vs) := by
  subst hv
  obtain ⟨tv, h1, h2, h3⟩ := hg.ex
  exact PE.by (pe_lc hc hN hi ok h1 ht he hs) fun _ _ _ => le_lc (Qo := fun Q r μ2 => Q (.lst r) μ2) h2 h3 lc_froz
theorem de_lcM (hc : X.calm = true) (hN : X.N.Nodup) (hi : DI X B tg iter ti) (ok : BlkOk X.N X.env.scope scope own) (hg : CTg X B scope vs tg g) (ht : InBlk X scope fun Y => DTs Y B ifs tt) (he : InBlk X scope fun Y => DE Y B elt te) (hs : ∀ x, foldedSetIterable iter X.env x = pure x := by intro _; rfl) (hv : own.map (·.2) = vs := by rfl) :
    DE X B (.ListComp elt [⟨tg, iter, ifs, 0⟩] scope pos) (dLcM ti g tt te vs) := by
  subst hv
  obtain ⟨tv, h1, h2, h3⟩ := hg.ex
  exact PE.by (pe_lc hc hN hi ok h1 ht he hs) fun _ _ _ => le_lc (Qo := fun Q r μ2 => ∀ a, μ2 a = none → Q (.ref a) (mset μ2 a (some (.lst r)))) h2 h3 lc_mut
theorem ds_setLc {i : Nat} {y : Str} {py spos : Pos} (hc : X.calm = true) (hN : X.N.Nodup) (hy : X.N[i]? = some y) (hyl : X.env.scope.names.lookup y = some .local)
    (hsw : swapsWith (.ListComp elt [⟨tg, iter, ifs, 0⟩] scope pos) (some (.Name y py)) spos.line X.env = pure true) (hi : DI X B tg iter ti) (ok : BlkOk X.N X.env.scope scope own) (hg : CTg X B scope vs tg g)
    (ht : InBlk X scope fun Y => DTs Y B ifs tt) (he : InBlk X scope fun Y => DE Y B elt te) (hs : ∀ x, foldedSetIterable iter X.env x = pure x := by intro _; rfl) (hv : own.map (·.2) = vs := by rfl) :
    DS X B (.Assign [.Name y py] (.ListComp elt [⟨tg, iter, ifs, 0⟩] scope pos) spos) (dAsg (dLc ti g tt te vs) (dName i)) := by
  subst hv
  obtain ⟨tv, h1, h2, h3⟩ := hg.ex
  refine PS.by (ps_setLc (tt := LT X.K B tt) (te := LE X.K B te) hc hN hy hyl hsw hi ok h1 ht he hs) fun D σ H ⟨F, ρ, μ, DD, sB, ok, rs, t, cl⟩ => ?_
  refine le_lc (Qo := fun Q r μ2 => Q (.lst r) μ2) h2 h3 lc_froz ⟨F, ρ, μ, (fun d μ1 => dName i d ρ μ1 DD.nx), sB, ok, rs, t, fun F1 d μ1 v H1 s1 ok1 rd t1 => ?_⟩
  exact cl.nx F1 _ μ1 _ H1 s1 ok1 ((rs.mono s1.s).set rd i) t1
theorem ds_setLcM {i : Nat} {y : Str} {py spos : Pos} (hc : X.calm = true) (hN : X.N.Nodup) (hy : X.N[i]? = some y) (hyl : X.env.scope.names.lookup y = some .local)
    (hsw : swapsWith (.ListComp elt [⟨tg, iter, ifs, 0⟩] scope pos) (some (.Name y py)) spos.line X.env = pure true) (hi : DI X B tg iter ti) (ok : BlkOk X.N X.env.scope scope own) (hg : CTg X B scope vs tg g)
    (ht : InBlk X scope fun Y => DTs Y B ifs tt) (he : InBlk X scope fun Y => DE Y B elt te) (hs : ∀ x, foldedSetIterable iter X.env x = pure x := by intro _; rfl) (hv : own.map (·.2) = vs := by rfl) :
    DS X B (.Assign [.Name y py] (.ListComp elt [⟨tg, iter, ifs, 0⟩] scope pos) spos) (dAsg (dLcM ti g tt te vs) (dName i)) := by
  subst hv
  obtain ⟨tv, h1, h2, h3⟩ := hg.ex
  refine PS.by (ps_setLc (tt := LT X.K B tt) (te := LE X.K B te) hc hN hy hyl hsw hi ok h1 ht he hs) fun D σ H ⟨F, ρ, μ, DD, sB, ok, rs, t, cl⟩ => ?_
  refine le_lc (Qo := fun Q r μ2 => ∀ a, μ2 a = none → Q (.ref a) (mset μ2 a (some (.lst r)))) h2 h3 lc_mut ⟨F, ρ, μ, (fun d μ1 => dName i d ρ μ1 DD.nx), sB, ok, rs, t, fun F1 d μ1 v H1 s1 ok1 rd t1 => ?_⟩
  exact cl.nx F1 _ μ1 _ H1 s1 ok1 ((rs.mono s1.s).set rd i) t1
end
end Li

set_option Elab.async false
set_option linter.all false
set_option maxRecDepth 100000
set_option maxHeartbeats 1000000
/-! The program's own defs: promises over data, calls, errors. -/
namespace Li
open PySem PySem.Spec PyProof.Rows L2
variable [Tbl]

/-- what is wanted of an error: its class, its own attributes -/
abbrev DXK := Value → Option (List (Str × D)) → MS → Prop
abbrev noX : DXK := fun _ _ _ => False
/-- a def's promise over data -/
abbrev DSp := List D → MS → DK → DXK → Prop
def XRep (K : PySem.W.Frag) (F : Hp) : Option (List (Str × D)) → Option Addr → Prop
  | none, none => True
  | some fs, some d => ∃ vfs, F d = some (.xd vfs) ∧ FReps K F fs vfs
  | _, _ => False
def ClE (K : PySem.W.Frag) (F : Hp) (μ : MS) (H : Hp) (Ed : DXK) (E : XK) : Prop := ∀ F' c x μ' od H', Stp F μ H F' μ' H' → Ok K F' μ' H' → XRep K F' x od → Ed c x μ' → E c od H'
theorem ClE.mono {K : PySem.W.Frag} {F F' : Hp} {μ μ' : MS} {H H' : Hp} {Ed : DXK} {E : XK} (c : ClE K F μ H Ed E) (e : Stp F μ H F' μ' H') : ClE K F' μ' H' Ed E := fun F1 d x μ1 v H1 s => c F1 d x μ1 v H1 (e.trans s)
theorem ClE.no {K : PySem.W.Frag} {F : Hp} {μ : MS} {H : Hp} {E : XK} : ClE K F μ H noX E := fun _ _ _ _ _ _ _ _ _ h => h.elim
def LSp (K : PySem.W.Frag) (sp : DSp) : Sp := fun vs H Q E => ∃ F μ ds Qd Ed, Ok K F μ H ∧ Reps K F ds vs ∧ sp ds μ Qd Ed ∧ Cl K F μ H Qd Q ∧ ClE K F μ H Ed E
abbrev DFn (P : Program) (w : World) (K : PySem.W.Frag) (mg : Str → Option Value) (base : Heap) (k : Nat) (f : Addr) (fd : FuncData) (ps : List Str) (sp : DSp) : Prop := FnOk P w K mg base (L2N.CX P w) k f fd ps (LSp K sp)
theorem DFn.imp {P : Program} {w : World} {K : PySem.W.Frag} {mg : Str → Option Value} {base : Heap} {k : Nat} {f : Addr} {fd : FuncData} {ps : List Str} {sp sp' : DSp} (F : DFn P w K mg base k f fd ps sp) (h : ∀ ds μ Q E, sp' ds μ Q E → sp ds μ Q E) : DFn P w K mg base k f fd ps sp' :=
  FnOk.imp F fun _ _ _ _ ⟨F, μ, ds, Qd, Ed, ok, r, q, c, e⟩ => ⟨F, μ, ds, Qd, Ed, ok, r, h _ _ _ _ q, c, e⟩

theorem passN {X : Cx} : Passes (L2N.CX X.prog X.w) X E0 := fun _ _ _ _ _ _ _ h => by
  obtain ⟨_, _, _, _, _, _, _, _, _, _, _, _, h⟩ := h
  exact h.elim
/-! ### calls -/
def dCallX (sp : DSp) (Ed : DXK) (t : DTA) : DTE := fun ρ μ Q => t ρ μ fun ds μ1 => sp ds μ1 Q Ed
def dCall (sp : DSp) (t : DTA) : DTE := fun ρ μ Q => t ρ μ fun ds μ1 => sp ds μ1 Q noX
section
variable {X : Cx} {B : Ent} {k n : Nat} {f : Addr} {fd : FuncData} {ps : List Str} {sp : DSp} {E : XK} {Ed : DXK} {x : Str} {p pos : Pos} {e : Expr} {es : List Expr} {t : DTA}
theorem de_callX (F : DFn X.prog X.w X.K X.mg X.base k f fd ps sp) (hr : Room k X.A) (hg : Gl X x) (hm : X.mg x = some (.ref f)) (hk : PySem.W.keepIn X.K (.ref f) = true) (hb : Binds X.K fd ps []) (hx : Passes (L2N.CX X.prog X.w) X E) (hE : ClE X.K B.F B.μ B.H Ed E)
    (ha : DAn X B (e :: es) n t) (hdb : (x == ("__debug__" : Str)) = false := by decide) (he : starEach (e :: es) X.env = (false, eval e X.env) :: starEach es X.env := by rfl) (hpl : (backTo pos (starEach es X.env)).any (·.1) = false := by rfl) :
    DE X B (.Call (.Name x p) (e :: es) [] pos) (dCallX sp Ed t) := PE.by (pe_call F hr hg hm hk hb .nil hx ha hdb he hpl) fun σ H Q ⟨F, ρ, μ, Qd, sB, ok, rs, t, cl⟩ => by
  refine ⟨F, ρ, μ, _, sB, ok, rs, t, fun F1 ds μ1 vs H1 s1 ok1 r1 l1 t1 => ?_⟩
  show LSp X.K sp (vs ++ []) H1 Q E
  rw [List.append_nil]
  exact ⟨F1, μ1, ds, Qd, Ed, ok1, r1, t1, cl.mono s1, hE.mono (Ent.to.trans sB s1)⟩
theorem de_call (F : DFn X.prog X.w X.K X.mg X.base k f fd ps sp) (hr : Room k X.A) (hg : Gl X x) (hm : X.mg x = some (.ref f)) (hk : PySem.W.keepIn X.K (.ref f) = true) (hb : Binds X.K fd ps [])
    (ha : DAn X B (e :: es) n t) (hdb : (x == ("__debug__" : Str)) = false := by decide) (he : starEach (e :: es) X.env = (false, eval e X.env) :: starEach es X.env := by rfl) (hpl : (backTo pos (starEach es X.env)).any (·.1) = false := by rfl) :
    DE X B (.Call (.Name x p) (e :: es) [] pos) (dCall sp t) := de_callX (E := E0) F hr hg hm hk hb passN ClE.no ha hdb he hpl
theorem de_call0 (F : DFn X.prog X.w X.K X.mg X.base k f fd ps sp) (hr : Room k X.A) (hg : Gl X x) (hm : X.mg x = some (.ref f)) (hk : PySem.W.keepIn X.K (.ref f) = true) (hb : Binds X.K fd ps [])
    (hdb : (x == ("__debug__" : Str)) = false := by decide) : DE X B (.Call (.Name x p) [] [] pos) (dCall sp dNil) := PE.by (pe_call0 (E := E0) F hr hg hm hk hb .nil passN hdb) fun σ H Q ⟨F, ρ, μ, Qd, sB, ok, rs, t, cl⟩ => by
  exact ⟨F, μ, [], Qd, noX, ok, reps_nil.mpr rfl, t, cl, ClE.no⟩
/-! ### raise -/
/-- what the written part tells of an error's class -/
structure XCls (K : PySem.W.Frag) (mg : Str → Option Value) (x : Str) (C : Addr) : Prop where
  g : mg x = some (.ref C)
  x : PySem.W.excIn K C [.type "ValueError", .type "Exception", .type "BaseException", .type "object"] "ValueError.__new__" = true
  k : PySem.W.keepIn K (.ref C) = true
  b : PySem.W.subIn K (.ref C) (.type "BaseException") = some true
  t : PySem.W.typeIn K (.ref C) = some (.type "type")
def dRaise (C : Addr) (Ed : DXK) : DTS := fun _ _ μ => Ed (.ref C) none μ
theorem ds_raise {m : Str} {j : Nat} {C : Addr} {p p2 pos2 : Pos} (hc : X.calm = true) (tk : L2N.Takes X (fun cls d _ H => E cls d H)) (hE : ClE X.K B.F B.μ B.H Ed E) (c : XCls X.K X.mg x C) (hg : Gl X x) (hdb : (x == ("__debug__" : Str)) = false := by decide) :
    DS X B (.Raise (some (.Call (.Name x p) [.Constant (.str m) j p2] [] pos)) none pos2) (dRaise C Ed) :=
  PS.by (L2N.ps_raise hc tk (L2N.pmk_own PySem.F.excBase_ValueError c.x c.g c.k (raises_own c.b c.t) hg hdb)) fun D σ H ⟨F, ρ, μ, DD, sB, ok, rs, t, cl⟩ => hE F _ none μ none H sB ok trivial t
end

/-! ### a def keeps its promise -/
def dstart (N : List Str) (ds : List D) : DSt := ds.map some ++ List.replicate (N.length - ds.length) none
/-- what the text holds: the def x -/
structure FnT (K : PySem.W.Frag) (mg : Str → Option Value) (x : Str) (st : Stmt) (ps : List Str) : Prop where
  ex : ∃ f fd, mg x = some (.ref f) ∧ Fun K x x st f fd ∧ Binds K fd ps []
/-- the def x keeps the promise sp -/
structure FnX (P : Program) (w : World) (K : PySem.W.Frag) (mg : Str → Option Value) (base : Heap) (x : Str) (k : Nat) (ps : List Str) (sp : DSp) : Prop where
  ex : ∃ f fd, mg x = some (.ref f) ∧ PySem.W.keepIn K (.ref f) = true ∧ Binds K fd ps [] ∧ DFn P w K mg base k f fd ps sp
section
variable {P : Program} {w : World} {K : PySem.W.Frag} {mg : Str → Option Value} {base : Heap}
theorem FnX.imp {x : Str} {k : Nat} {ps : List Str} {sp sp' : DSp} (F : FnX P w K mg base x k ps sp) (h : ∀ ds μ Q E, sp' ds μ Q E → sp ds μ Q E) : FnX P w K mg base x k ps sp' := by
  obtain ⟨f, fd, h1, h2, h3, h4⟩ := F.ex
  exact ⟨f, fd, h1, h2, h3, h4.imp h⟩
theorem dfn_of' {x qual : Str} {st : Stmt} {f : Addr} {dV kV doc pm cdv ct oc : Value} {an od : Option Addr} {osl : Array (Option Value)} {N ps : List Str} {k : Nat} {dsp : DSp} {t : DXK → DTS} (lk : K.lookup f = some ⟨oc, od, .func (PySem.W.fnOf x qual (defArgs st) (defBody st) (defScope st) dV kV doc pm an cdv ct), osl⟩) (hcd : PySem.W.codeIn K cdv qual = true) (S : FnScope N ps (defScope st)) (len : ∀ ds μ Q E, dsp ds μ Q E → ds.length = ps.length)
    (hbody : ∀ (A : Around) (outer : List Env) (s : Shared) (H : Hp) (E : XK) (B : Ent) (Ed : DXK), Room k (A.deeper (envOfC qual (defScope st) s.heap.objs.size f cdv)) → ClE K B.F B.μ B.H Ed E →
      L2N.Takes (cxOf (L2N.CX P w) P w K mg base N qual (defScope st) f cdv A outer s H E) (fun cls d _ H => E cls d H) →
      Passes (L2N.CX P w) (cxOf (L2N.CX P w) P w K mg base N qual (defScope st) f cdv A outer s H E) E →
      PassesOwn (model P w) (A.deeper (envOfC qual (defScope st) s.heap.objs.size f cdv)) (envOfC qual (defScope st) s.heap.objs.size f cdv) (cxOf (L2N.CX P w) P w K mg base N qual (defScope st) f cdv A outer s H E).xe →
      (A.deeper (envOfC qual (defScope st) s.heap.objs.size f cdv)).units + 65 < cLine →
      DSs (cxOf (L2N.CX P w) P w K mg base N qual (defScope st) f cdv A outer s H E) B (defBody st) (t Ed))
    (hpure : ∀ ds μ Q Ed, dsp ds μ Q Ed → t Ed { nx := fun _ μ => Q .non μ, rt := Q } (dstart N ds) μ) : DFn P w K mg base (k + 1) f (PySem.W.fnOf x qual (defArgs st) (defBody st) (defScope st) dV kV doc pm an cdv ct) ps dsp := by
  refine fn_of lk hcd S (fun vs H Q E ⟨F, μ, ds, Qd, Ed, ok, r, q, c, e⟩ => by rw [← r.length]; exact len _ _ _ _ q) fun A outer s H vs Q E hr ⟨F, μ, ds, Qd, Ed, ok, r, q, c, e⟩ => ?_
  have tk : L2N.Takes (cxOf (L2N.CX P w) P w K mg base N qual (defScope st) f cdv A outer s H E) (fun cls d _ H => E cls d H) := L2N.takes_of rfl rfl rfl rfl
  refine ⟨_, hbody A outer s H E ⟨F, μ, H⟩ Ed hr e tk (L2N.passes_call tk fun _ _ _ _ h => h) (passes_of (X := cxOf (L2N.CX P w) P w K mg base N qual (defScope st) f cdv A outer s H E) rfl) (by have := hr.un; omega), F, _, μ, _, Stp.refl, ok, ?_, hpure ds μ Qd Ed q, ?_⟩
  · have := RelS.start (N := N) r
    rw [show dstart N ds = ds.map some ++ List.replicate (N.length - ds.length) none from rfl]
    exact this
  · refine ⟨fun F1 ρ1 μ1 σ1 H1 s1 ok1 rs1 t1 => c F1 _ μ1 _ H1 s1 ok1 (rep_non.mpr rfl) t1, c, fun _ _ _ _ _ _ _ _ h => h.elim, fun _ _ _ _ _ _ _ _ h => h.elim⟩
theorem dfn_of {x qual : Str} {st : Stmt} {f : Addr} {fd : FuncData} {N ps : List Str} {k : Nat} {dsp : DSp} {t : DXK → DTS} (F : Fun K x qual st f fd) (S : FnScope N ps (defScope st)) (len : ∀ ds μ Q E, dsp ds μ Q E → ds.length = ps.length)
    (hbody : ∀ (cdv : Value) (A : Around) (outer : List Env) (s : Shared) (H : Hp) (E : XK) (B : Ent) (Ed : DXK), Room k (A.deeper (envOfC qual (defScope st) s.heap.objs.size f cdv)) → ClE K B.F B.μ B.H Ed E →
      L2N.Takes (cxOf (L2N.CX P w) P w K mg base N qual (defScope st) f cdv A outer s H E) (fun cls d _ H => E cls d H) →
      Passes (L2N.CX P w) (cxOf (L2N.CX P w) P w K mg base N qual (defScope st) f cdv A outer s H E) E →
      PassesOwn (model P w) (A.deeper (envOfC qual (defScope st) s.heap.objs.size f cdv)) (envOfC qual (defScope st) s.heap.objs.size f cdv) (cxOf (L2N.CX P w) P w K mg base N qual (defScope st) f cdv A outer s H E).xe →
      (A.deeper (envOfC qual (defScope st) s.heap.objs.size f cdv)).units + 65 < cLine →
      DSs (cxOf (L2N.CX P w) P w K mg base N qual (defScope st) f cdv A outer s H E) B (defBody st) (t Ed))
    (hpure : ∀ ds μ Q Ed, dsp ds μ Q Ed → t Ed { nx := fun _ μ => Q .non μ, rt := Q } (dstart N ds) μ) : DFn P w K mg base (k + 1) f fd ps dsp := by
  obtain ⟨oc, od, kV, doc, pm, an, cdv, ct, osl, rfl, lk, hcd⟩ := F.ex
  exact dfn_of' lk hcd S len (hbody cdv) hpure
theorem fnx_of {x : Str} {st : Stmt} {N ps : List Str} {k : Nat} {dsp : DSp} {t : DXK → DTS} (F : FnT K mg x st ps) (S : FnScope N ps (defScope st)) (len : ∀ ds μ Q E, dsp ds μ Q E → ds.length = ps.length)
    (hbody : ∀ (f : Addr) (cdv : Value) (A : Around) (outer : List Env) (s : Shared) (H : Hp) (E : XK) (B : Ent) (Ed : DXK), Room k (A.deeper (envOfC x (defScope st) s.heap.objs.size f cdv)) → ClE K B.F B.μ B.H Ed E →
      L2N.Takes (cxOf (L2N.CX P w) P w K mg base N x (defScope st) f cdv A outer s H E) (fun cls d _ H => E cls d H) →
      Passes (L2N.CX P w) (cxOf (L2N.CX P w) P w K mg base N x (defScope st) f cdv A outer s H E) E →
      PassesOwn (model P w) (A.deeper (envOfC x (defScope st) s.heap.objs.size f cdv)) (envOfC x (defScope st) s.heap.objs.size f cdv) (cxOf (L2N.CX P w) P w K mg base N x (defScope st) f cdv A outer s H E).xe →
      (A.deeper (envOfC x (defScope st) s.heap.objs.size f cdv)).units + 65 < cLine →
      DSs (cxOf (L2N.CX P w) P w K mg base N x (defScope st) f cdv A outer s H E) B (defBody st) (t Ed))
    (hpure : ∀ ds μ Q Ed, dsp ds μ Q Ed → t Ed { nx := fun _ μ => Q .non μ, rt := Q } (dstart N ds) μ) : FnX P w K mg base x (k + 1) ps dsp := by
  obtain ⟨f, fd, h1, h2, h3⟩ := F.ex
  exact ⟨f, fd, h1, h2.kp, h3, dfn_of h2 S len (hbody f) hpure⟩
end
section
variable {X : Cx} {B : Ent} {k n : Nat} {ps : List Str} {sp : DSp} {E : XK} {Ed : DXK} {x : Str} {p pos : Pos} {e : Expr} {es : List Expr} {t : DTA}
theorem de_fnX (F : FnX X.prog X.w X.K X.mg X.base x k ps sp) (hr : Room k X.A) (hg : Gl X x) (hx : Passes (L2N.CX X.prog X.w) X E) (hE : ClE X.K B.F B.μ B.H Ed E)
    (ha : DAn X B (e :: es) n t) (hdb : (x == ("__debug__" : Str)) = false := by decide) (he : starEach (e :: es) X.env = (false, eval e X.env) :: starEach es X.env := by rfl) (hpl : (backTo pos (starEach es X.env)).any (·.1) = false := by rfl) :
    DE X B (.Call (.Name x p) (e :: es) [] pos) (dCallX sp Ed t) := by
  obtain ⟨f, fd, h1, h2, h3, h4⟩ := F.ex
  exact de_callX h4 hr hg h1 h2 h3 hx hE ha hdb he hpl
theorem de_fn (F : FnX X.prog X.w X.K X.mg X.base x k ps sp) (hr : Room k X.A) (hg : Gl X x)
    (ha : DAn X B (e :: es) n t) (hdb : (x == ("__debug__" : Str)) = false := by decide) (he : starEach (e :: es) X.env = (false, eval e X.env) :: starEach es X.env := by rfl) (hpl : (backTo pos (starEach es X.env)).any (·.1) = false := by rfl) :
    DE X B (.Call (.Name x p) (e :: es) [] pos) (dCall sp t) := by
  obtain ⟨f, fd, h1, h2, h3, h4⟩ := F.ex
  exact de_call h4 hr hg h1 h2 h3 ha hdb he hpl
theorem de_fn0 (F : FnX X.prog X.w X.K X.mg X.base x k ps sp) (hr : Room k X.A) (hg : Gl X x) (hdb : (x == ("__debug__" : Str)) = false := by decide) : DE X B (.Call (.Name x p) [] [] pos) (dCall sp dNil) := by
  obtain ⟨f, fd, h1, h2, h3, h4⟩ := F.ex
  exact de_call0 h4 hr hg h1 h2 h3 hdb
/-- a list of the store stays from here on as it is -/
def dFrz (i : Nat) (t : DTS) : DTS := fun DD ρ μ => match ρ[i]? with
  | some (some (.ref a)) => refL (μ a) fun ds => t DD (ρ.set i (some (.lst ds))) (mset μ a none)
  | _ => False
theorem RelS.reset {K : PySem.W.Frag} {F : Hp} {ρ : DSt} {σ : L2.St} (r : RelS K F ρ σ) {i : Nat} {v : V} {d : D} (h : σ[i]? = some (some v)) (q : Rep K F d v) : RelS K F (ρ.set i (some d)) σ := by
  have := r.set q i
  have e : σ.set i (some v) = σ := by
    apply List.ext_getElem?
    intro j
    by_cases hj : i = j
    · subst hj
      rw [List.getElem?_set_self (List.getElem?_eq_some_iff.mp h).1, h]
    · rw [List.getElem?_set_ne hj]
  rw [e] at this
  exact this
theorem dss_frz {sts : List Stmt} {t : DTS} (i : Nat) (h : DSs X B sts t) : DSs X B sts (dFrz i t) := PSs.by h fun D σ H ⟨F, ρ, μ, DD, sB, ok, rs, t, cl⟩ => by
  unfold dFrz at t
  split at t
  · rename_i a e
    obtain ⟨ds, em, t⟩ := refL_elim t
    obtain ⟨F', s, ok', r⟩ := ok.freeze em
    obtain ⟨v, hv, rv⟩ := rs.at_ i _ e
    obtain rfl := rep_ref.mp rv
    exact ⟨F', _, _, DD, Ent.to.trans sB s, ok', (rs.mono s.s).reset hv r, t, cl.mono s⟩
  · exact t.elim
end
end Li

set_option Elab.async false
set_option linter.all false
set_option maxRecDepth 100000
set_option maxHeartbeats 1000000
/-! Loops and comprehensions by what a turn does. -/
namespace Li
open PySem PySem.Spec PyProof.Rows L2
variable [Tbl]
theorem forL_inv {g : DTG} {tb : DTS} {DD : DEnds} (I : Nat → DSt → MS → Prop) : ∀ (ds : List D) (k : Nat) (ρ : DSt) (μ : MS), I k ρ μ →
    (∀ i d ρ μ (N : DPS), ds[i]? = some d → I (k + i) ρ μ → (∀ ρ' μ', I (k + i + 1) ρ' μ' → N ρ' μ') → g d ρ μ fun ρ1 μ1 => tb { DD with nx := N, ct := N, bk := DD.nx } ρ1 μ1) →
    (∀ ρ μ, I (k + ds.length) ρ μ → DD.nx ρ μ) → forL g tb DD ds ρ μ
  | [], k, ρ, μ, h, _, hd => hd ρ μ h
  | d :: ds, k, ρ, μ, h, hs, hd => by
    refine hs 0 d ρ μ (forL g tb DD ds) rfl h fun ρ' μ' h' => ?_
    refine forL_inv I ds (k + 1) ρ' μ' (by simpa using h') (fun i e ρ2 μ2 N he hi hN => ?_) fun ρ2 μ2 h2 => hd ρ2 μ2 (by rw [List.length_cons]; rw [show k + (ds.length + 1) = k + 1 + ds.length by omega]; exact h2)
    exact hs (i + 1) e ρ2 μ2 N (by simpa using he) (by rw [show k + (i + 1) = k + 1 + i by omega]; exact hi) fun ρ3 μ3 h3 => hN ρ3 μ3 (by rw [show k + 1 + i + 1 = k + (i + 1) + 1 by omega]; exact h3)
/-- a loop, turn by turn, over what is left -/
theorem forL_ind {g : DTG} {tb : DTS} {DD : DEnds} (I : List D → DSt → MS → Prop) (hs : ∀ d r ρ μ (N : DPS), I (d :: r) ρ μ → (∀ ρ' μ', I r ρ' μ' → N ρ' μ') → g d ρ μ fun ρ1 μ1 => tb { DD with nx := N, ct := N, bk := DD.nx } ρ1 μ1)
    (hd : ∀ ρ μ, I [] ρ μ → DD.nx ρ μ) : ∀ (ds : List D) (ρ : DSt) (μ : MS), I ds ρ μ → forL g tb DD ds ρ μ
  | [], ρ, μ, h => hd ρ μ h
  | d :: ds, ρ, μ, h => hs d ds ρ μ (forL g tb DD ds) h fun ρ' μ' h' => forL_ind I hs hd ds ρ' μ' h'
/-- a comprehension that changes nothing -/
theorem lcL_pure {g : DTG} {tt : DTT} {te : DTE} {ρ : DSt} {μ : MS} (f : D → Option D) : ∀ (ds : List D) (Q : List D → MS → Prop),
    (∀ d, d ∈ ds → ∀ (A : D → MS → Prop) (Z : MS → Prop), (match f d with | some y => A y μ | none => Z μ) → g d ρ μ fun ρ2 μ2 => tt ρ2 μ2 fun b μ3 => bcase b (te ρ2 μ3 A) (Z μ3)) →
    Q (ds.filterMap f) μ → lcL g tt te ρ ds μ Q
  | [], Q, _, q => q
  | d :: ds, Q, hs, q => by
    refine hs d List.mem_cons_self _ _ ?_
    have ih := fun Q' q' => lcL_pure f ds Q' (fun e he => hs e (List.mem_cons_of_mem _ he)) q'
    cases e : f d with
    | none => rw [List.filterMap_cons_none e] at q; exact ih _ q
    | some y => rw [List.filterMap_cons_some e] at q; exact ih _ q
/-- a comprehension that may draw: its items by what they keep -/
theorem lcL_all {g : DTG} {tt : DTT} {te : DTE} {ρ : DSt} (M : MS → Prop) (P : D → Prop) : ∀ (ds : List D) (μ : MS) (Q : List D → MS → Prop), M μ →
    (∀ d, d ∈ ds → ∀ μ, M μ → ∀ (A : D → MS → Prop) (Z : MS → Prop), (∀ y μ', M μ' → P y → A y μ') → (∀ μ', M μ' → Z μ') → g d ρ μ fun ρ2 μ2 => tt ρ2 μ2 fun b μ3 => bcase b (te ρ2 μ3 A) (Z μ3)) →
    (∀ r μ', M μ' → r.length ≤ ds.length → (∀ y ∈ r, P y) → Q r μ') → lcL g tt te ρ ds μ Q
  | [], μ, Q, h, _, q => q [] μ h (Nat.le_refl _) fun y hy => by cases hy
  | d :: ds, μ, Q, h, hs, q => by
    refine hs d List.mem_cons_self μ h _ _ (fun y μ' h' hy => ?_) fun μ' h' => ?_
    · refine lcL_all M P ds μ' _ h' (fun e he => hs e (List.mem_cons_of_mem _ he)) fun r μ2 h2 hl hr => q (y :: r) μ2 h2 (by simp only [List.length_cons]; omega) fun z hz => ?_
      rcases List.mem_cons.mp hz with rfl | hz
      · exact hy
      · exact hr z hz
    · exact lcL_all M P ds μ' _ h' (fun e he => hs e (List.mem_cons_of_mem _ he)) fun r μ2 h2 hl hr => q r μ2 h2 (by simp only [List.length_cons]; omega) hr
end Li

set_option Elab.async false
set_option linter.all false
set_option maxRecDepth 100000
set_option maxHeartbeats 2000000
/-! While an error is handled: the ends of iterators, a comprehension over zip. -/
namespace Li
open PySem PySem.Spec PyProof.Rows L2 HotX
section
variable {prog : Program} {w : World} {A : Around} {E : Value → Shared → Prop} {s : Shared}
/-- the handled error's object, with no context -/
structure Hnd (A : Around) (x1 : Addr) (o1 : Obj) : Prop where
  hd : A.handled = some (.ref x1)
  dat : ∃ vs : Array Value, o1.data = .fields vs ∧ vs[2]? = some .none
theorem Hnd.at {x1 : Addr} {o1 : Obj} (h : Hnd A x1 o1) {hp : Heap} (g : hp.get? x1 = some o1) : HotAt A x1 hp := by
  obtain ⟨vs, d, c⟩ := h.dat
  exact ⟨h.hd, o1, vs, g, d, c⟩
/-- StopIteration is made and raised while x1 is handled -/
theorem stopHot {α : Type} {x1 : Addr} {o1 : Obj} {Q : α → Shared → Prop} (hh : Hnd A x1 o1) (g : s.heap.get? x1 = some o1)
    (hE : ∀ h' e, (∀ b o, s.heap.get? b = some o → h'.get? b = some o) → (∃ o, h'.get? e = some o ∧ o.cls = .type "StopIteration") → E (.ref e) { s with heap := h' }) :
    wpAny (model prog w) A (newExc (.type "StopIteration") [] >>= fun e => (raiseNew e : Sem α)) Q E s := by
  refine wpAny_bind ?_
  simp only [newExc, newTuple]
  refine wpAny_bind (wpAny_newObj_type ?_ (by size_fits))
  refine wpAny_bind (m := firstArgMember _ _) (wpAny_of_eq (a := Value.none) (by first | rfl | (simp only [firstArgMember]; rfl)) ?_)
  refine wpAny_newObj_type ?_ (by size_fits)
  refine raiseNew_hot (hh.at (Heap.get?_push_of_some _ (Heap.get?_push_of_some _ g))) (Nat.ne_of_lt (Heap.lt_size (Heap.get?_push_of_some _ g))) (Heap.get?_push_size _ rfl) rfl (by first | (simp; done) | (simp; omega) | (simp only [Array.size_append]; simp; omega)) ?_
  refine hE _ _ (fun b o e => ?_) ⟨_, Heap.get?_update_self _ (Heap.get?_push_size _ rfl) rfl, rfl⟩
  rw [Heap.get?_update_other _ _ (Nat.ne_of_gt (Heap.lt_size (Heap.get?_push_of_some _ e)))]
  exact Heap.get?_push_of_some _ (Heap.get?_push_of_some _ e)
theorem nextOf_list_endH {it l x1 : Addr} {o1 : Obj} {i : Nat} {items} {Q : Value → Shared → Prop} (hh : Hnd A x1 o1) (g : s.heap.get? x1 = some o1) (hne : x1 ≠ it)
    (hit : s.heap.IsListIter it l i) (hl : s.heap.IsList l items) (hx : items[i]? = none)
    (hE : ∀ h' e, Heap.ExtBut it s.heap h' → (∃ o, h'.get? e = some o ∧ o.cls = .type "StopIteration") → E (.ref e) { s with heap := h' }) :
    wpAny (model prog w) A (Builtin.SmallTypes.nextOf (.ref it)) Q E s := by
  obtain ⟨o, ho, hc, hd⟩ := id hit
  obtain ⟨ol, hol, _, nl, hdl⟩ := hl
  unfold Builtin.SmallTypes.nextOf
  refine wpAny_bind (wpAny_callSpecial?_slot (name := Str.ofString "__next__") hit.typeIs slot_listiter_next
    (wpAny_call_entry slot_listiter_next hit.typeIs entry_listiter_next ?_ (args_listiter_next _)))
  show wpAny _ _ (field (.ref it) 0 >>= _) _ _ s
  refine wpAny_bind (wpAny_field ho hd (x := .ref l) rfl ?_)
  show wpAny _ _ (if (Value.ref l == Value.none) = true then _ else _) _ _ s
  rw [if_neg (show ¬ ((Value.ref l == Value.none) = true) from Bool.false_ne_true)]
  show wpAny _ _ (field (.ref it) 1 >>= _) _ _ s
  refine wpAny_bind (wpAny_field ho hd (x := .int i 0) rfl ?_)
  show wpAny _ _ (seqItems? (.ref l) >>= _) _ _ s
  refine wpAny_bind (wpAny_seqItems hol hdl ?_)
  simp only [Int.toNat_natCast, hx]
  refine wpAny_bind (wpAny_rule (wpAny_bind (wpAny_setField ho hd (by simp) ?_)))
  refine stopHot (x1 := x1) (o1 := o1) ⟨hh.hd, hh.dat⟩ ((Heap.get?_update_other _ _ (Ne.symm hne)).trans g) fun h' e k he => ?_
  exact hE h' e (fun b o hb q => k b o (Heap.SameBut.extBut (Heap.SameBut.update ..) b o hb q)) he
theorem next_tuple_endH {it t x1 : Addr} {o1 : Obj} {i : Nat} {items} {Q : Option Value → Shared → Prop} (hh : Hnd A x1 o1) (g : s.heap.get? x1 = some o1) (hne : x1 ≠ it)
    (hit : IsTupIter s.heap it t i) (ht : IsTup s.heap t items) (hx : items[i]? = none)
    (hQ : ∀ h', Heap.ExtBut it s.heap h' → Q none { s with heap := h' }) : wpAny (model prog w) A (pyNext (.ref it)) Q E s := by
  obtain ⟨o, ho, hc, hd⟩ := id hit
  obtain ⟨ol, hol, _, nl, hdl⟩ := ht
  unfold pyNext
  refine wpAny_bind (wpAny_attempt (wpAny_callSpecial?_slot (name := Str.ofString "__next__") hit.typeIs slot_tupleiter_next
    (wpAny_call_entry slot_tupleiter_next hit.typeIs entry_tupleiter_next ?_ (args_tupleiter_next _))))
  show wpAny _ _ (field (.ref it) 0 >>= _) _ _ s
  refine wpAny_bind (wpAny_field ho hd (x := .ref t) rfl ?_)
  show wpAny _ _ (if (Value.ref t == Value.none) = true then _ else _) _ _ s
  rw [if_neg (show ¬ ((Value.ref t == Value.none) = true) from Bool.false_ne_true)]
  show wpAny _ _ (field (.ref it) 1 >>= _) _ _ s
  refine wpAny_bind (wpAny_field ho hd (x := .int i 0) rfl ?_)
  show wpAny _ _ (seqItems? (.ref t) >>= _) _ _ s
  refine wpAny_bind (wpAny_seqItems hol hdl ?_)
  simp only [Int.toNat_natCast, hx]
  refine wpAny_bind (wpAny_rule (wpAny_bind (wpAny_setField ho hd (by simp) ?_)))
  refine stopHot (x1 := x1) (o1 := o1) ⟨hh.hd, hh.dat⟩ ((Heap.get?_update_other _ _ (Ne.symm hne)).trans g) fun h' e k he => ?_
  obtain ⟨oe, hoe, hce⟩ := he
  refine wpAny_bind (wpAny_isInstance (T := "StopIteration") (b := true) ⟨oe, hoe, hce⟩ isSubtype_stop ?_)
  exact wpAny_pure (hQ _ fun b o hb q => k b o (Heap.SameBut.extBut (Heap.SameBut.update ..) b o hb q))
theorem unpackItems_tupleH {t x1 : Addr} {o1 : Obj} {items : Array Value} {Q : List Value → Shared → Prop} (hh : Hnd A x1 o1) (g : s.heap.get? x1 = some o1) (ht : IsTup s.heap t items)
    (hQ : ∀ h', Heap.ExtBut s.heap.objs.size s.heap h' → Q items.toList { s with heap := h' }) : wpAny (model prog w) A (unpackItems (.ref t) items.size none) Q E s := by
  have hlt : t ≠ s.heap.objs.size := by obtain ⟨o, ho, _⟩ := ht; exact Nat.ne_of_lt (Heap.lt_size ho)
  have hx1 : x1 ≠ s.heap.objs.size := Nat.ne_of_lt (Heap.lt_size g)
  unfold unpackItems
  refine wpAny_bind ?_
  · unfold notIterableAtAll
    refine wpAny_bind (wpAny_specialOf ht.typeIs slot_tuple_iter.lookup ?_)
    refine wpAny_pure ?_
    simp only [Bool.false_eq_true, if_false]
    refine wpAny_bind (wpAny_holding (iter_tuple ht ?_))
    refine wpAny_bind (wpAny_holding (draw_tuple hlt items.size 0 _ _ ⟨_, Heap.get?_push_size _ rfl, rfl, rfl⟩ (ht.push _) (by omega) fun h₁ hit₁ hs₁ => ?_))
    have hall : List.take items.size (List.drop 0 items.toList) = items.toList := by
      rw [List.drop_zero]; exact List.take_of_length_le (by simp)
    rw [hall]
    rw [if_neg (by simp)]
    have ht₁ : IsTup h₁ t items := (ht.push _).extBut hs₁.extBut hlt
    refine wpAny_bind (wpAny_holding (next_tuple_endH hh (hs₁.extBut _ _ hx1 (Heap.get?_push_of_some _ g)) hx1 hit₁ ht₁ (by simp) fun h₂ he₂ => ?_))
    simp only [Option.isSome_none, Bool.false_eq_true, if_false]
    refine wpAny_pure (hQ h₂ fun b o hb e => he₂ b o hb (hs₁.extBut b o hb (Heap.get?_push_of_some _ e)))
theorem assign_tupleH {env : Env} {elts : List Expr} {k} {pos : Pos} {t x1 : Addr} {o1 : Obj} {items : Array Value} {Q : Unit → Shared → Prop} (hh : Hnd A x1 o1) (g : s.heap.get? x1 = some o1) (ht : IsTup s.heap t items)
    (hn : (assignEach elts env).length = items.size) (hstar : (assignEach elts env).findIdx? (·.1) = none)
    (h : ∀ h', Heap.ExtBut s.heap.objs.size s.heap h' → wpAny (model prog w) A (assignInOrder ((assignEach elts env).map (·.2)) items.toList) Q E { s with heap := h' }) :
    wpAny (model prog w) A (assign (.Tuple elts k pos) env (.ref t)) Q E s := by
  rw [assign_Tuple]
  refine wpAny_bind (wpAny_standAt ?_)
  unfold unpack
  rw [hn, hstar]
  exact wpAny_bind (wpAny_holding (unpackItems_tupleH hh g ht h))
theorem pyNext_zip_endH {z TI TO i1 i2 l1 l2 x1 : Addr} {o1 : Obj} {k1 k2 : Nat} {xs ys : Array Value} {a b : Value} {Q : Option Value → Shared → Prop} (hh : Hnd A x1 o1) (g : s.heap.get? x1 = some o1) (n1 : x1 ≠ z) (n2 : x1 ≠ TO) (n3 : x1 ≠ i1) (n4 : x1 ≠ i2) (D : ZipApart z TI TO i1 i2 l1 l2)
    (hz : IsZip s.heap z TI TO .none) (hTI : IsPair s.heap TI (.ref i1) (.ref i2)) (hTO : IsPair s.heap TO a b)
    (h1 : s.heap.IsListIter i1 l1 k1) (h2 : s.heap.IsListIter i2 l2 k2) (hl1 : s.heap.IsList l1 xs) (hl2 : s.heap.IsList l2 ys) (hend : xs[k1]? = none ∨ ys[k2]? = none)
    (hQ : ∀ h', (∀ c o, c ≠ z → c ≠ TO → c ≠ i1 → c ≠ i2 → s.heap.get? c = some o → h'.get? c = some o) → Q none { s with heap := h' }) : wpAny (model prog w) A (pyNext (.ref z)) Q E s := by
  have hT : s.TypeIs (.ref z) "zip" := ⟨_, hz, rfl⟩
  unfold pyNext
  refine wpAny_bind (wpAny_attempt (wpAny_callSpecial?_slot (name := Str.ofString "__next__") hT F.slot_zip_next
    (wpAny_call_entry F.slot_zip_next hT F.entry_zip_next ?_ (F.args_zip_next_1 _))))
  have fin : ∀ h' e, (∀ c o, c ≠ z → c ≠ TO → c ≠ i1 → c ≠ i2 → s.heap.get? c = some o → h'.get? c = some o) → (∃ o, h'.get? e = some o ∧ o.cls = .type "StopIteration") →
      wpAny (model prog w) A (do
        let stop ← isInstance (.ref e) (.type "StopIteration")
        if stop then pure none else throw (.ref e)) Q E { s with heap := h' } := fun h' e hk he => by
    obtain ⟨o, ho, hc⟩ := he
    refine wpAny_bind (wpAny_isInstance (T := "StopIteration") (b := true) ⟨o, ho, hc⟩ isSubtype_stop ?_)
    exact wpAny_pure (hQ _ hk)
  have hin : Hnd A.in1 x1 o1 := ⟨hh.hd, hh.dat⟩
  show wpAny _ _ (field (.ref z) 2 >>= _) _ _ _
  refine wpAny_bind (wpAny_field hz rfl (x := .bool false) rfl ?_)
  show wpAny _ _ (field (.ref z) 3 >>= _) _ _ _
  refine wpAny_bind (wpAny_field hz rfl (x := .ref TI) rfl ?_)
  refine wpAny_bind (wpAny_seqItems hTI rfl ?_)
  show wpAny _ _ (Builtin.SmallTypes.ownedTupleIsFree (.ref z) >>= _) _ _ _
  refine wpAny_bind ?_
  unfold Builtin.SmallTypes.ownedTupleIsFree
  refine wpAny_bind (wpAny_field hz rfl (x := .none) rfl (wpAny_pure ?_))
  simp only [if_true]
  refine wpAny_bind (wpAny_rule ?_)
  refine wpAny_bind (wpAny_field hz rfl (x := .ref TO) rfl ?_)
  refine wpAny_bind (wpAny_setField_rec hz (by simp) fun h₁ hz₁ hs₁ => ?_)
  replace hz₁ : IsZip h₁ z TI TO .ellipsis := hz₁
  have g₁ : h₁.get? x1 = some o1 := hs₁.extBut _ _ n1 g
  refine wpAny_bind ?_
  simp only [List.zipIdx_cons, List.zipIdx_nil, List.forIn_cons, List.forIn_nil]
  refine wpAny_bind (wpAny_bind (wpAny_onRaise ?_))
  show wpAny _ _ (Builtin.SmallTypes.nextOf (.ref i1) >>= _) _ _ _
  cases hx : xs[k1]? with
  | none =>
    refine wpAny_bind (nextOf_list_endH hin g₁ n3 (h1.extBut hs₁.extBut D.i1z) (hl1.extBut hs₁.extBut D.l1z) hx fun h₂ e hs₂ he => ?_)
    obtain ⟨oe, hoe, hce⟩ := he
    have hz₂ : IsZip h₂ z TI TO .ellipsis := hs₂ _ _ D.i1z.symm hz₁
    have hez : e ≠ z := fun x => by subst x; rw [hz₂] at hoe; cases hoe; simp at hce
    refine wpAny_setField_rec hz₂ (by simp) fun h₃ _ hs₃ => fin h₃ e (fun c o c1 _ c3 _ x => hs₃.extBut _ _ c1 (hs₂ _ _ c3 (hs₁.extBut _ _ c1 x))) ⟨oe, hs₃.extBut _ _ hez hoe, hce⟩
  | some x =>
    have hy : ys[k2]? = none := by rcases hend with h | h; rw [hx] at h; cases h; exact h
    refine wpAny_bind (wpAny_nextOf_list_item (h1.extBut hs₁.extBut D.i1z) (hl1.extBut hs₁.extBut D.l1z) hx fun h₂ h1₂ hs₂ => wpAny_pure ?_)
    have hTO₂ : IsPair h₂ TO a b := hs₂.extBut _ _ D.TOi1 (hs₁.extBut _ _ D.TOz hTO)
    refine wpAny_bind (wpAny_seqItems hTO₂ rfl ?_)
    refine wpAny_bind (wpAny_updateSeq_pair hTO₂ fun h₃ hTO₃ hs₃ => ?_)
    refine wpAny_bind (wpAny_letGo (wpAny_pure ?_))
    refine wpAny_bind (wpAny_bind (wpAny_onRaise ?_))
    show wpAny _ _ (Builtin.SmallTypes.nextOf (.ref i2) >>= _) _ _ _
    refine wpAny_bind (nextOf_list_endH hin (hs₃.extBut _ _ n2 (hs₂.extBut _ _ n3 g₁)) n4 (((h2.extBut hs₁.extBut D.i2z).extBut hs₂.extBut D.i12.symm).extBut hs₃.extBut D.TOi2.symm)
      (((hl2.extBut hs₁.extBut D.l2z).extBut hs₂.extBut D.l2i1).extBut hs₃.extBut D.l2TO) hy fun h₄ e hs₄ he => ?_)
    obtain ⟨oe, hoe, hce⟩ := he
    have hz₄ : IsZip h₄ z TI TO .ellipsis := hs₄ _ _ D.i2z.symm (hs₃.extBut _ _ D.TOz.symm (hs₂.extBut _ _ D.i1z.symm hz₁))
    have hez : e ≠ z := fun x => by subst x; rw [hz₄] at hoe; cases hoe; simp at hce
    refine wpAny_setField_rec hz₄ (by simp) fun h₅ _ hs₅ => fin h₅ e (fun c o c1 c2 c3 c4 x => hs₅.extBut _ _ c1 (hs₄ _ _ c4 (hs₃.extBut _ _ c2 (hs₂.extBut _ _ c3 (hs₁.extBut _ _ c1 x))))) ⟨oe, hs₅.extBut _ _ hez hoe, hce⟩
end
end Li

set_option Elab.async false
set_option linter.all false
set_option maxRecDepth 100000
set_option maxHeartbeats 4000000
/-! A comprehension over zip, a def called, while an error is handled. -/
namespace Li
open PySem PySem.Spec PyProof.Rows L2 HotX
/-- the object at a stays as it is -/
def HotO (a : Addr) (o : Obj) : HO := .ext fun h => h.get? a = some o
structure TurnE (a1 : Addr) (o1 : Obj) (P : Program) (w : World) (K : PySem.W.Frag) (tg : Expr) (J : It) (fp : List Addr) (it : Addr) (tn : Nat → Heap → Prop) : Prop where
  mem : it ∈ fp
  obj : ∀ i h, tn i h → ∀ b ∈ fp, ∃ o, h.get? b = some o ∧ ∀ v, o.data ≠ .cell v
  keep : ∀ i h h', tn i h → (∀ b ∈ fp, ∀ o, h.get? b = some o → h'.get? b = some o) → tn i h'
  item : ∀ (X : Cx), X.prog = P → X.w = w → X.K = K → ∀ (i : Nat) (pins : List (Addr × Obj)) (s : Shared) (σ : L2.St) (H : Hp) (E : Value → Shared → Prop), Inv X pins σ H s → (∀ b ∈ fp, FpOk X pins H b) → tn i s.heap → J.go i H →
    wpAny (model P w) X.A (pyNext (.ref it)) (fun r s1 => ∃ u, r = some u ∧
      wpAny (model P w) X.A (letOwnedTupleGo tg (.ref it) u) (fun _ s2 => ∃ x H', Inv X pins σ H' s2 ∧ RelV x u ∧ J.yld i H x H' ∧ tn (i + 1) s2.heap ∧ ∀ b ∈ fp, H' b = none) E s1) E s
  done : ∀ (X : Cx), X.prog = P → X.w = w → X.K = K → Hnd X.A a1 o1 → ∀ (i : Nat) (pins : List (Addr × Obj)) (s : Shared) (σ : L2.St) (H : Hp) (E : Value → Shared → Prop), Inv X pins σ H s → H a1 = some (HotO a1 o1) → (∀ b ∈ fp, FpOk X pins H b) → tn i s.heap → J.stop i H →
    wpAny (model P w) X.A (pyNext (.ref it)) (fun r s1 => r = none ∧ Inv X pins σ H s1) E s
  self : ∀ (A : Around) (i : Nat) (s : Shared) (Q : Value → Shared → Prop) (E : Value → Shared → Prop), tn i s.heap → Q (.ref it) s → wpAny (model P w) A (pyIter (.ref it)) Q E s
def PIEh (X : Cx) (a1 : Addr) (o1 : Obj) (pins : List (Addr × Obj)) (σ : L2.St) (tg : Expr) (R : It → Hp → Prop) (itv : Value) (s2 : Shared) : Prop :=
  ∃ (it : Addr) (fp : List Addr) (tn : Nat → Heap → Prop) (J : It) (H' : Hp), itv = .ref it ∧ Inv X pins σ H' s2 ∧ TurnE a1 o1 X.prog X.w X.K tg J fp it tn ∧ tn 0 s2.heap ∧ (∀ b ∈ fp, FpOk X pins H' b) ∧ R J H'
structure PIh (X : Cx) (a1 : Addr) (o1 : Obj) (tg iter : Expr) (wi : TI) : Prop where
  run : ∀ (pins : List (Addr × Obj)) (s : Shared) (σ : L2.St) (H : Hp) (R : It → Hp → Prop), Inv X pins σ H s → wi σ H R →
    wpAny (model X.prog X.w) X.A (eval iter X.env) (fun v s1 => wpAny (model X.prog X.w) X.A (pyIter v) (PIEh X a1 o1 pins σ tg R) X.xe s1) X.xe s
abbrev tLcE (a1 : Addr) (o1 : Obj) : TI → TG → TT → TE → List Nat → TE := tLcP fun H => H a1 = some (HotO a1 o1)
section
variable {X : Cx} {a1 : Addr} {o1 : Obj}
theorem turn_zipE {P : Program} {w : World} {K : PySem.W.Frag} {elts : List Expr} {kk : Nat} {tpos : Pos} {a b z TI TO i1 i2 : Addr} {a1 : Addr} {o1 : Obj} (D : ZipApart z TI TO i1 i2 a b) :
    TurnE a1 o1 P w K (.Tuple elts kk tpos) (Itz K a b) [z, TI, TO, i1, i2] z (fun i h => IsZip h z TI TO .none ∧ IsPair h TI (.ref i1) (.ref i2) ∧ (∃ x y, IsPair h TO x y) ∧ h.IsListIter i1 a i ∧ h.IsListIter i2 b i) where
  mem := by simp
  obj := fun i h st c hc => by
    obtain ⟨hz, hTI, ⟨x, y, hTO⟩, ⟨o1, e1, _, d1⟩, ⟨o2, e2, _, d2⟩⟩ := st
    have e' : c = z ∨ c = TI ∨ c = TO ∨ c = i1 ∨ c = i2 := by simpa using hc
    rcases e' with q | q | q | q | q
    · rw [q]; exact ⟨_, hz, fun v q => nomatch q⟩
    · rw [q]; exact ⟨_, hTI, fun v q => nomatch q⟩
    · rw [q]; exact ⟨_, hTO, fun v q => nomatch q⟩
    · rw [q]; exact ⟨o1, e1, fun v q => by rw [d1] at q; cases q⟩
    · rw [q]; exact ⟨o2, e2, fun v q => by rw [d2] at q; cases q⟩
  keep := fun i h h' st k => by
    obtain ⟨hz, hTI, ⟨x, y, hTO⟩, h1, h2⟩ := st
    exact ⟨k z (by simp) _ hz, k TI (by simp) _ hTI, ⟨x, y, k TO (by simp) _ hTO⟩, h1.at fun o q => k i1 (by simp) o q, h2.at fun o q => k i2 (by simp) o q⟩
  item := by
    intro X hP hw hK i pins s σ H E I hf st hg
    subst hP hw hK
    obtain ⟨hz, hTI, ⟨x0, y0, hTO⟩, h1, h2⟩ := st
    obtain ⟨xs, ys, x, y, hqx, hqy, hx, hy⟩ := hg
    obtain ⟨its, rv, p, _⟩ := I.list hqx
    obtain ⟨its2, rv2, p2, _⟩ := I.list hqy
    obtain ⟨u, hu, ru⟩ := rv.get hx
    obtain ⟨u2, hu2, ru2⟩ := rv2.get hy
    have hzl : z < s.heap.objs.size := Heap.lt_size hz
    refine wpAny_pyNext_zip_item D hz hTI hTO h1 h2 p.isList p2.isList (x := u) (y := u2) (by simpa using hu) (by simpa using hu2) fun h' z' TO' h1' h2' hT hsz hk => ?_
    refine ⟨_, rfl, wpAny_letOwnedTupleGo_zip (s := { s with heap := h' }) z' fun h'' z'' sb => ?_⟩
    have hT2 : h''.get? s.heap.objs.size = some { cls := .type "tuple", data := .seq #[u, u2] } := (sb.2 _ (Nat.ne_of_gt hzl)).trans hT
    have new : ObjOk X.prog X.w (upd H s.heap.objs.size (.tup [x, y])) h'' s.heap.objs.size (.tup [x, y]) :=
      ⟨by show 2 ≤ sizeLine; decide, [u, u2], .cons ru (.cons ru2 .nil), ⟨_, hT2, rfl, _, rfl⟩⟩
    have I1 : Inv X pins σ (upd H s.heap.objs.size (.tup [x, y])) { s with heap := h'' } :=
      I.turnedNew (t' := s.toks) (ch := [z, TI, TO, i1, i2]) (fun c o hb q => (sb.2 c (fun q' => hb (by simp [q']))).trans (hk c o (fun q' => hb (by simp [q'])) (fun q' => hb (by simp [q'])) (fun q' => hb (by simp [q'])) (fun q' => hb (by simp [q'])) q)) hf (Nat.le_refl _) new
    refine ⟨.ref s.heap.objs.size, _, I1, rfl, ⟨_, x, y, rfl, I.hok.fresh (Nat.le_refl _), rfl, fun l hl => by rw [I.list_inj hl hqx]; exact hx, fun l hl => by rw [I.list_inj hl hqy]; exact hy⟩, ⟨z'', ?_, ⟨u, u2, ?_⟩, ?_, ?_⟩, fun c hcm => ?_⟩
    · exact (sb.2 _ D.TIz).trans (hk _ _ D.TIz D.TITO D.TIi1 D.TIi2 hTI)
    · exact (sb.2 _ D.TOz).trans TO'
    · exact h1'.at fun o q => (sb.2 _ D.i1z).trans q
    · exact h2'.at fun o q => (sb.2 _ D.i2z).trans q
    · have hlt : c < s.heap.objs.size := by
        have e' : c = z ∨ c = TI ∨ c = TO ∨ c = i1 ∨ c = i2 := by simpa using hcm
        rcases e' with q | q | q | q | q
        · rw [q]; exact hzl
        · rw [q]; exact Heap.lt_size hTI
        · rw [q]; exact Heap.lt_size hTO
        · rw [q]; obtain ⟨_, e1, _⟩ := h1; exact Heap.lt_size e1
        · rw [q]; obtain ⟨_, e2, _⟩ := h2; exact Heap.lt_size e2
      rw [upd_ne (Nat.ne_of_lt hlt)]
      exact (hf c hcm).1
  done := by
    intro X hP hw hK hh i pins s σ H E I ha hf st hg
    subst hP hw hK
    obtain ⟨hz, hTI, ⟨x0, y0, hTO⟩, h1, h2⟩ := st
    obtain ⟨xs, ys, hqx, hqy, hend⟩ := hg
    obtain ⟨its, rv, p, _⟩ := I.list hqx
    obtain ⟨its2, rv2, p2, _⟩ := I.list hqy
    have l1 := rv.length
    have l2 := rv2.length
    have he : its.toArray[i]? = none ∨ its2.toArray[i]? = none := by
      rcases hend with q | q
      · exact .inl (by simp; omega)
      · exact .inr (by simp; omega)
    have ne : ∀ c, c ∈ [z, TI, TO, i1, i2] → a1 ≠ c := fun c hc q => by
      have n := (hf c hc).1
      rw [← q, ha] at n
      cases n
    exact pyNext_zip_endH hh (I.hok a1 _ ha).1 (ne _ (by simp)) (ne _ (by simp)) (ne _ (by simp)) (ne _ (by simp)) D hz hTI hTO h1 h2 p.isList p2.isList he fun h' hk => ⟨rfl, I.turnedL (t' := s.toks) (ch := [z, TI, TO, i1, i2]) (fun c o hb q =>
      hk c o (fun q' => hb (by simp [q'])) (fun q' => hb (by simp [q'])) (fun q' => hb (by simp [q'])) (fun q' => hb (by simp [q'])) q) hf⟩
  self := fun A i s Q E st h => wpAny_pyIter_zip st.1 h
theorem pi_zipE {X : Cx} {e e2 : Expr} {ta : TA} {p pos tpos : Pos} {elts : List Expr} {kk : Nat} {a1 : Addr} {o1 : Obj} (hg : Gl X "zip") (hm : X.mg "zip" = none) (ha : PA X [e, e2] ta)
    (hs : starEach [e, e2] X.env = (false, eval e X.env) :: starEach [e2] X.env := by rfl) (hpl : (backTo pos (starEach [e2] X.env)).any (·.1) = false := by rfl) :
    PIh X a1 o1 (.Tuple elts kk tpos) (.Call (.Name "zip" p) [e, e2] [] pos) (iZip X.K ta) := by
  refine ⟨fun pins s σ H R I h => ?_⟩
  refine Call_ (ld_blt I hg hm PyProof.Rows.boot_zip (PyProof.Rows.callWith_type1 (thn (ha.run pos pins s σ H _ I h) fun us s1 ⟨vs, H1, I1, r1, q1⟩ => ?_) hs hpl))
  obtain ⟨a, b, xs, ys, ex, hqx, hqy, q⟩ := q1
  subst ex
  cases r1 with
  | cons r rr =>
    cases rr with
    | cons r' rr =>
      cases rr
      cases r
      cases r'
      obtain ⟨its, rv, p1, _⟩ := I1.list hqx
      obtain ⟨its2, rv2, p2, _⟩ := I1.list hqy
      have la : a < s1.heap.objs.size := p1.lt
      have lb : b < s1.heap.objs.size := p2.lt
      refine call_zip_2 p1.isList p2.isList fun h' hz hTI hTO h1 h2 hsz hk => wpAny_pyIter_zip hz ?_
      have I2 : Inv X pins σ H1 { s1 with heap := h' } := I1.kept (t' := s1.toks) hk
      refine ⟨s1.heap.objs.size + 4, [s1.heap.objs.size + 4, s1.heap.objs.size + 2, s1.heap.objs.size + 3, s1.heap.objs.size, s1.heap.objs.size + 1], _, _, H1, rfl, I2, turn_zipE (PySem.W.ktu_apart s1.heap.objs.size a b la lb), ⟨hz, hTI, ⟨_, _, hTO⟩, h1, h2⟩, fun c hcm => ?_, q⟩
      have e' : c = s1.heap.objs.size + 4 ∨ c = s1.heap.objs.size + 2 ∨ c = s1.heap.objs.size + 3 ∨ c = s1.heap.objs.size ∨ c = s1.heap.objs.size + 1 := by simpa using hcm
      have hle : s1.heap.objs.size ≤ c := by
        rcases e' with z | z | z | z | z
        · rw [z]; exact Nat.le_add_right _ _
        · rw [z]; exact Nat.le_add_right _ _
        · rw [z]; exact Nat.le_add_right _ _
        · rw [z]; exact Nat.le_refl _
        · rw [z]; exact Nat.le_add_right _ _
      exact I1.fpOk hle (I1.hok.fresh hle)
theorem lc_coreE {pins : List (Addr × Obj)} {s : Shared} {σ : L2.St} {H : Hp} {Q : VK} {elt tg iter : Expr} {ifs : List Expr} {scope : Scope} {own : List (Str × Nat)} {pos pos' : Pos} {wi : TI} {g : TG} {tt : TT} {te : TE} {use : Option (Value → Sem Unit)} {Qf : Value → Shared → Prop}
    (hh : Hnd X.A a1 o1) (hN : X.N.Nodup) (I : Inv X pins σ H s) (hi : PIh X a1 o1 tg iter wi) (ok : BlkOk X.N X.env.scope scope own)
    (hg : ∀ (s : Shared) (H : Hp) (C : Addr) (cl : List (Str × Addr)) (fp : List Addr), PG (X.blk s H scope (compEnvC scope cl C X.env) fp) tg g) (ht : ∀ (s : Shared) (H : Hp) (C : Addr) (cl : List (Str × Addr)) (fp : List Addr), PTs (X.blk s H scope (compEnvC scope cl C X.env) fp) ifs tt)
    (he : ∀ (s : Shared) (H : Hp) (C : Addr) (cl : List (Str × Addr)) (fp : List Addr), PE (X.blk s H scope (compEnvC scope cl C X.env) fp) elt te) (hs : ∀ x, foldedSetIterable iter X.env x = pure x)
    (h : tLcE a1 o1 wi g tt te (own.map (·.2)) σ H Q)
    (hRR : ∀ D C s' m H', Inv X pins σ H' s' → Q (.ref D) H' → s'.heap.Ns C m → FpOk X pins H' C → compPost (model X.prog X.w) X.A X.xe use Qf (.ref D) C (.ok .next) s') :
    wpAny (model X.prog X.w) X.A (comprehension (.ListComp elt [⟨tg, iter, ifs, 0⟩] scope pos) scope X.env pos' (newList []) false (eval iter X.env) use) Qf X.xe s := by
  have hfree : ∀ y ∈ scope.names, y.2 = .free → ∃ c, X.env.cells.lookup y.1 = some c := fun y hy e => by
    rcases ok.free y hy e with k | k
    · exact I.ok.has _ (.inl k)
    · exact I.ok.has _ (.inr k)
  refine wpAny_comprehension_free (use := use) rfl hs (closure_ok hfree) ok.kind (fun y hy e => by rw [ok.uniq y hy, e])
    (thn (hi.run pins s σ H _ I h) fun xv s1 hx => thn hx fun itv s2 h2 => ?_)
  obtain ⟨it, fp, tn, J, H2, e, I2, T, st2, f2, q⟩ := h2
  subst e
  refine wpAny_newObj_type (newEnv_comp ?_) (by show 0 ≤ sizeLine; decide)
  generalize hD : s2.heap.objs.size = D
  have hDn : H2 D = none := I2.hok.fresh (Nat.le_of_eq hD)
  obtain ⟨W, ⟨m0, w0⟩, hW, turn⟩ := q D hDn
  -- the new list
  generalize hs3 : ({ s2 with heap := s2.heap.push { cls := .type "list", data := .seq ([] : List Value).toArray } } : Shared) = s3
  have I3 : Inv X pins σ (upd H2 D (.lst [])) s3 := by
    rw [← hs3]
    refine I2.laid (t' := s2.toks) (fun b o e => Heap.get?_push_of_some _ e) (Nat.le_of_eq hD) ⟨Nat.zero_le _, [], 0, .nil, ?_⟩
    rw [← hD]
    exact Heap.get?_push_size _ rfl
  have h3 : s3.heap = s2.heap.push { cls := .type "list", data := .seq ([] : List Value).toArray } := by rw [← hs3]
  have sz : ∀ b ∈ fp, b < s2.heap.objs.size := fun b hb => by
    obtain ⟨o, e, _⟩ := T.obj _ _ st2 b hb
    exact Heap.lt_size e
  have f3 : ∀ b ∈ fp, FpOk X pins (upd H2 D (.lst [])) b ∧ b < s3.heap.objs.size := fun b hb => by
    have hlt := sz b hb
    refine ⟨⟨?_, (f2 b hb).2⟩, by rw [h3, Heap.size_push]; exact Nat.lt_succ_of_lt hlt⟩
    rw [upd_ne (by rw [← hD]; exact Nat.ne_of_lt hlt)]
    exact (f2 b hb).1
  have st3 : tn 0 s3.heap := T.keep _ _ _ st2 fun b _ o e => by rw [h3]; exact Heap.get?_push_of_some _ e
  have I4 := block_start I3 ok hN f3
  have pg := hg s3 (upd H2 D (.lst [])) s3.heap.objs.size (cellsFrom (s3.heap.objs.size + 1) scope.names (cloFrom X.env.cells scope.names [])) fp
  have pt := ht s3 (upd H2 D (.lst [])) s3.heap.objs.size (cellsFrom (s3.heap.objs.size + 1) scope.names (cloFrom X.env.cells scope.names [])) fp
  have pe := he s3 (upd H2 D (.lst [])) s3.heap.objs.size (cellsFrom (s3.heap.objs.size + 1) scope.names (cloFrom X.env.cells scope.names [])) fp
  show codeAny _ _ (.compStart (.ListComp elt [⟨tg, iter, ifs, 0⟩] scope pos) 0 (.ref it) (.ref D) (compEnvC scope (cellsFrom (s3.heap.objs.size + 1) scope.names (cloFrom X.env.cells scope.names [])) s3.heap.objs.size X.env)) (compPost (model X.prog X.w) X.A X.xe use Qf (.ref D) s3.heap.objs.size) { s3 with heap := pushCells (s3.heap.push { cls := .type "dict", data := .dict #[] }) scope.names }
  have nfp : ∀ b ∈ fp, (upd H2 D (.lst [])) b = none := fun b hb => (f3 b hb).1.1
  generalize hce : compEnvC scope (cellsFrom (s3.heap.objs.size + 1) scope.names (cloFrom X.env.cells scope.names [])) s3.heap.objs.size X.env = ce at I4 pg pt pe ⊢
  have cL : ce.locals = s3.heap.objs.size := by subst hce; rfl
  generalize hH3 : upd H2 D (.lst []) = H3 at I3 I4 pg pt pe w0 nfp f3
  generalize hs4 : ({ s3 with heap := pushCells (s3.heap.push { cls := .type "dict", data := .dict #[] }) scope.names } : Shared) = s4 at I4 ⊢
  have st4 : tn 0 s4.heap := T.keep _ _ _ st3 fun b _ o e => by rw [← hs4]; exact pushCells_keeps _ _ _ _ (Heap.get?_push_of_some _ e)
  have stat : ∀ {σ' : L2.St} {H' : Hp} {s' : Shared}, Inv (X.blk s3 H3 scope ce fp) [] σ' H' s' → (∀ b ∈ fp, H' b = none) → ∀ b ∈ fp, FpOk (X.blk s3 H3 scope ce fp) [] H' b := fun {σ' H' s'} I' hn b hb =>
    ⟨hn b hb, (I'.ok.exf b hb).1, I'.ok.exfs b hb, .inl hb, fun x c e => (I'.ok.exf b hb).2 x c e, fun p hp => absurd (show p ∈ ([] : List (Addr × Obj)) ++ [] from hp) (by simp)⟩
  have loop : codeAny (model X.prog X.w) X.A (.compLoop (.ListComp elt [⟨tg, iter, ifs, 0⟩] scope pos) 0 (.ref it) (.ref D) ce) (compPost (model X.prog X.w) X.A X.xe use Qf (.ref D) s3.heap.objs.size) s4 := by
    refine compLoop_any (fun n s' => ∃ i H', Inv (X.blk s3 H3 scope ce fp) [] (wipe σ (own.map (·.2))) H' s' ∧ tn i s'.heap ∧ (∀ b ∈ fp, H' b = none) ∧ W i n H') ?_ m0 ⟨0, H3, I4, st4, nfp, w0⟩
    rintro n s5 ⟨i, H5, I5, st5, n5, w5⟩
    rcases turn i n H5 w5 with ⟨stop, qq⟩ | ⟨go, Nx, hNx, step⟩
    · have td := T.done (X.blk s3 H3 scope ce fp) rfl rfl rfl hh i [] s5 _ H5 (fun _ _ => False) I5 (hW i n H5 w5) (stat I5 n5) st5 stop
      refine thnF td fun r s6 ⟨hr, I6⟩ => ?_
      subst hr
      -- back in the def's context
      have I7 : Inv X pins σ H5 s6 := I3.call' (ch := fp) I6.os I6.base I6.hok I6.bare fun b hb => ⟨(f3 b hb).1.2.2.2.1, (f3 b hb).1.2.1, (f3 b hb).1.2.2.2.2.1, (f3 b hb).1.2.2.2.2.2⟩
      have nC : H5 s3.heap.objs.size = none := by
        have z : H5 ce.locals = none := I6.free
        rw [cL] at z
        exact z
      obtain ⟨m, hn, _⟩ := I6.loc
      have hn : s6.heap.Ns ce.locals m := hn
      rw [cL] at hn
      exact hRR D s3.heap.objs.size s6 m H5 I7 qq hn (I3.fpOk (Nat.le_refl _) nC)
    · have ti := T.item (X.blk s3 H3 scope ce fp) rfl rfl rfl i [] s5 _ H5 (fun _ _ => False) I5 (stat I5 n5) st5 go
      refine thnF ti fun r s6 ⟨u, hr, h6⟩ => ?_
      subst hr
      refine thnF h6 fun _ s7 ⟨x, H7, I7, r7, y7, st7, n7⟩ => ?_
      have I7' := I7.pinned (stat I7 n7) (T.obj _ _ st7)
      refine thnF (pg.run _ s7 _ H7 x u _ I7' r7 (step x H7 y7)) fun _ s8 ⟨σ8, H8, I8, hw8, q8⟩ => ?_
      refine thnF (pt.run _ s8 σ8 H8 _ I8 q8) fun b s9 ⟨H9, I9, q9⟩ => ?_
      -- the turn's end
      have fin : ∀ {s' : Shared} {H' : Hp}, Inv (X.blk s3 H3 scope ce fp) ([] ++ pinsAt fp s7.heap) σ8 H' s' → Nx H' → ∃ m, m < n ∧ ∃ i H', Inv (X.blk s3 H3 scope ce fp) [] (wipe σ (own.map (·.2))) H' s' ∧ tn i s'.heap ∧ (∀ b ∈ fp, H' b = none) ∧ W i m H' := fun {s' H'} I' nx => by
        obtain ⟨m', hm, w'⟩ := hNx H' nx
        have pin' : ∀ b ∈ fp, ∀ o, s7.heap.get? b = some o → s'.heap.get? b = some o ∧ H' b = none := fun b hb o e =>
          let z := I'.pin (b, o) (List.mem_append_right _ (List.mem_append_right _ (mem_pinsAt hb e)))
          ⟨z.1, z.2.1⟩
        have hl : (wipe σ (own.map (·.2))).length = σ8.length := by rw [← hw8, wipe_length]
        refine ⟨m', hm, i + 1, H', (I'.unpinned (pins := [])).weak hl (fun j v e => ?_), T.keep _ _ _ st7 fun b hb o e => (pin' b hb o e).1, fun b hb => ?_, w'⟩
        · rw [← hw8] at e
          exact (wipe_some e).1
        · obtain ⟨o, e, _⟩ := T.obj _ _ st7 b hb
          exact (pin' b hb o e).2
      cases b with
      | false =>
        simp only [Bool.false_eq_true, if_false] at q9 ⊢
        exact fin I9 q9
      | true =>
        simp only [if_true] at q9 ⊢
        refine thnF (pe.run _ s9 σ8 H9 _ I9 q9) fun z s10 ⟨yv, H10, I10, r10, acc, hD10, hz10, nx⟩ => ?_
        exact app_ok (X := X.blk s3 H3 scope ce fp) I10 hD10 hz10 r10 fun s11 I11 => fin I11 nx
  exact codeAny_compStart_list loop (T.self X.A 0 _ _ _ st4 loop)
/-- as a value -/
theorem pe_lcE {elt tg iter : Expr} {ifs : List Expr} {scope : Scope} {own : List (Str × Nat)} {pos : Pos} {wi : TI} {g : TG} {tt : TT} {te : TE} (hh : Hnd X.A a1 o1) (hN : X.N.Nodup) (hi : PIh X a1 o1 tg iter wi) (ok : BlkOk X.N X.env.scope scope own)
    (hg : ∀ (s : Shared) (H : Hp) (C : Addr) (cl : List (Str × Addr)) (fp : List Addr), PG (X.blk s H scope (compEnvC scope cl C X.env) fp) tg g) (ht : ∀ (s : Shared) (H : Hp) (C : Addr) (cl : List (Str × Addr)) (fp : List Addr), PTs (X.blk s H scope (compEnvC scope cl C X.env) fp) ifs tt)
    (he : ∀ (s : Shared) (H : Hp) (C : Addr) (cl : List (Str × Addr)) (fp : List Addr), PE (X.blk s H scope (compEnvC scope cl C X.env) fp) elt te) (hs : ∀ x, foldedSetIterable iter X.env x = pure x := by intro _; rfl) :
    PE X (.ListComp elt [⟨tg, iter, ifs, 0⟩] scope pos) (tLcE a1 o1 wi g tt te (own.map (·.2))) := by
  refine ⟨fun pins s σ H Q I h => ?_⟩
  rw [eval_ListComp]
  refine lc_coreE hh hN I hi ok hg ht he hs h fun D C s' m H' I' q hn f => ⟨m, hn, fun h'' sb => ?_⟩
  obtain ⟨f0, f1, f2, f3, f4, f5⟩ := f
  exact ⟨.ref D, H', I'.turned (t' := s'.toks) (fun b o hb e => (sb.2 b hb).trans e) f0 f1 f3 f4 f5, rfl, q⟩
/-- (a, b, ..) = a tuple of that length -/
theorem pg_tupE {es : List Expr} {k : Nat} {t : TGs} {n : Nat} {pos : Pos} (hh : Hnd X.A a1 o1) (hH : ∀ v σ H Q, t v σ H Q → H a1 = some (HotO a1 o1)) (h : PGs X es t)
    (hn : (assignEach es X.env).length = n := by rfl) (hst : (assignEach es X.env).findIdx? (·.1) = none := by rfl) : PG X (.Tuple es k pos) (gTup X.K n t) := by
  refine ⟨fun pins s σ H v u Q I r hw => ?_⟩
  obtain ⟨a, xs, e1, hq, hl, hw⟩ := hw
  subst e1
  cases r
  obtain ⟨its, rv, ht, hz⟩ := I.tuple hq
  refine assign_tupleH hh (I.hok a1 _ (hH _ _ _ _ hw)).1 ht (by simp [hn, ← hl, rv.length]) hst fun h' hx => ?_
  have I1 : Inv X pins σ H { s with heap := h' } := I.kept (t' := s.toks) fun b o e => hx b o (Nat.ne_of_lt (Heap.lt_size e)) e
  exact h.run pins _ σ H xs _ Q I1 (by simpa using rv) hw
end
end Li

set_option Elab.async false
set_option linter.all false
set_option maxRecDepth 100000
set_option maxHeartbeats 2000000
/-! While an error is handled: rules over data, a def called there. -/
namespace Li
open PySem PySem.Spec PyProof.Rows L2 HotX
variable [Tbl]
/-- the error at a1 stands in what stays -/
theorem hot_of {K : PySem.W.Frag} {B : Ent} {a1 : Addr} {o1 : Obj} (hB : B.F a1 = some (HotO a1 o1)) {F : Hp} {μ : MS} {H : Hp} (s : B.to F μ H) (ok : Ok K F μ H) : H a1 = some (HotO a1 o1) := ok.sub _ _ (s.s _ _ hB)
section
variable {X : Cx} {B : Ent} {a1 : Addr} {o1 : Obj} {pos : Pos}
def DIh (X : Cx) (B : Ent) (a1 : Addr) (o1 : Obj) (tg e : Expr) (t : DTI) : Prop := PIh X a1 o1 tg e (LI X.K B t)
def dZipL (ta : DTA) : DTI := fun ρ μ R => ta ρ μ fun ds μ1 => match ds with
  | [.lst ds, .lst es] => (zipD ds es).length ≤ 1000 ∧ R (zipD ds es) μ1
  | _ => False
theorem di_zipE {e e2 : Expr} {ta : DTA} {n : Nat} {p tpos : Pos} {elts : List Expr} {kk : Nat} (hg : Gl X "zip") (hm : X.mg "zip" = none) (ha : DAn X B [e, e2] n ta)
    (hs : starEach [e, e2] X.env = (false, eval e X.env) :: starEach [e2] X.env := by rfl) (hpl : (backTo pos (starEach [e2] X.env)).any (·.1) = false := by rfl) :
    DIh X B a1 o1 (.Tuple elts kk tpos) (.Call (.Name "zip" p) [e, e2] [] pos) (dZipL ta) := by
  refine ⟨fun pins s σ H R I h => (pi_zipE (a1 := a1) (o1 := o1) hg hm ha hs hpl).run pins s σ H R I ?_⟩
  obtain ⟨F, ρ, μ, Qd, sB, ok, rs, t, cl⟩ := h
  refine ⟨F, ρ, μ, _, sB, ok, rs, t, fun F1 ds μ1 vs H1 s1 ok1 r1 hn1 t1 => ?_⟩
  split at t1
  · rename_i ds es
    obtain ⟨v, w, rfl, r, r'⟩ := reps2 r1
    obtain ⟨a, ws, rfl, h1, h2⟩ := rep_lst.mp r
    obtain ⟨b, us, rfl, h3, h4⟩ := rep_lst.mp r'
    refine ⟨a, b, ws, us, rfl, SqL.of (ok1.sub _ _ h1), SqL.of (ok1.sub _ _ h3), ?_⟩
    · refine cl F1 _ μ1 H1 _ s1 ok1 (Nat.le_trans t1.1 (line_of (Nat.le_refl _))) (fun i F2 μ2 H2 s ok => ?_) t1.2
      have hq : SqL X.K H2 a ws := SqL.of (ok.sub _ _ (s _ _ h1))
      have hq2 : SqL X.K H2 b us := SqL.of (ok.sub _ _ (s _ _ h3))
      refine ⟨fun d e => ?_, fun hl => ⟨ws, us, hq, hq2, ?_⟩⟩
      · obtain ⟨x, y, ex, ey, rfl⟩ := zipD_get e
        obtain ⟨w1, ew1, rw1⟩ := h2.get ex
        obtain ⟨w2, ew2, rw2⟩ := h4.get ey
        refine ⟨⟨ws, us, w1, w2, hq, hq2, ew1, ew2⟩, fun x H3 ⟨T, y1, y2, e3, hT, e4, e5, e6⟩ => ?_⟩
        have q1 := e5 ws hq
        have q2 := e6 us hq2
        rw [ew1] at q1; cases q1
        rw [ew2] at q2; cases q2
        subst e3 e4
        have sF := same_upd (o := HO.tup [w1, w2]) (ok.freeF hT)
        exact ⟨_, ok.stpFrozen hT, ok.frozen hT, rep_tup.mpr ⟨T, _, rfl, SqT.of upd_same, .cons ((rw1.mono s).mono sF) (.cons ((rw2.mono s).mono sF) (reps_nil.mpr rfl))⟩⟩
      · unfold zipD at hl
        rw [List.length_zipWith, h2.length, h4.length] at hl
        omega
  · exact t1.elim
section
variable {elt tg iter : Expr} {ifs : List Expr} {scope : Scope} {own : List (Str × Nat)} {vs : List Nat} {ti : DTI} {g : DTG} {tt : DTT} {te : DTE}
theorem de_lcE (hh : Hnd X.A a1 o1) (hB : B.F a1 = some (HotO a1 o1)) (hN : X.N.Nodup) (hi : DIh X B a1 o1 tg iter ti) (ok : BlkOk X.N X.env.scope scope own) (hg : CTg X B scope vs tg g) (ht : InBlk X scope fun Y => DTs Y B ifs tt) (he : InBlk X scope fun Y => DE Y B elt te) (hs : ∀ x, foldedSetIterable iter X.env x = pure x := by intro _; rfl) (hv : own.map (·.2) = vs := by rfl) :
    DE X B (.ListComp elt [⟨tg, iter, ifs, 0⟩] scope pos) (dLc ti g tt te vs) := by
  subst hv
  obtain ⟨tv, h1, h2, h3⟩ := hg.ex
  exact PE.by (pe_lcE hh hN hi ok h1 ht he hs) fun _ _ _ => le_lcP (Qo := fun Q r μ2 => Q (.lst r) μ2) (fun F μ H s o => hot_of hB s o) h2 h3 lc_froz
theorem ctg_tupE {tg : Expr} {scope : Scope} {vs : List Nat} {n : Nat} (hB : B.F a1 = some (HotO a1 o1)) (is : List Nat)
    (h : ∀ (s : Shared) (H : Hp) (C : Addr) (cl : List (Str × Addr)) (fp : List Addr), PG (X.blk s H scope (compEnvC scope cl C X.env) fp) tg (gTup X.K n fun xs σ H Q => H a1 = some (HotO a1 o1) ∧ gNms is xs σ H Q)) (hi : ∀ i ∈ is, i ∈ vs := by decide) :
    CTg X B scope vs tg (dGTup n (dNms is)) :=
  ⟨gTup X.K n fun xs σ H Q => H a1 = some (HotO a1 o1) ∧ gNms is xs σ H Q, h, fun v σ H Q ⟨a, xs, e, h1, h2, h0, q⟩ => ⟨a, xs, e, h1, h2, h0, gNms_stays hi q⟩, fun v σ H Q ⟨F, d, ρ, μ, Qd, sB, ok, rs, rd, t, cl⟩ => by
    unfold dGTup at t
    split at t
    · rename_i ds
      obtain ⟨a, ws, rfl, h1, h2⟩ := rep_tup.mp rd
      cases e : (ds.length == n) with
      | false => rw [e] at t; exact t.elim
      | true =>
        rw [e] at t
        exact ⟨a, ws, rfl, ok.sqT h1, by rw [← h2.length]; exact eq_of_beq e, hot_of hB sB ok, gNms_of ⟨F, ds, ρ, μ, Qd, sB, ok, rs, h2, t, cl⟩⟩
    · exact t.elim⟩
end
/-- isinstance(e, C) of the handled error -/
theorem call_isEH {Dc : Addr} (C : ExcC X.K Dc) (hz : Zc (.ref Dc) none o1) (hf : ∃ vs, o1.data = .fields vs) : CallR X (.builtin "isinstance") fun xs H Q => ∃ (c : V) (cv : Value) (b : Bool), xs = [.ref a1, c] ∧ (∀ u, RelV c u → u = cv) ∧ PySem.W.kitOne X.K (.ref Dc) cv = some b ∧ H a1 = some (HotO a1 o1) ∧ Q (.bl b) H := by
  intro pins s σ H xs us Q I r h
  obtain ⟨c, cv, b, rfl, hcv, e, hH, q⟩ := h
  cases r with
  | cons rx rr =>
    cases rr with
    | cons rt rr =>
      cases rr
      cases rx
      have ec := hcv _ rt
      subst ec
      have hget : s.heap.get? a1 = some o1 := (I.hok a1 _ hH).1
      obtain ⟨vs, hv⟩ := hf
      have J : PySem.W.InstAt s.heap a1 o1 Dc none := by
        obtain ⟨oc, od, oda, osl⟩ := o1
        obtain ⟨h1, h2⟩ := hz
        dsimp only at h1 h2 hv
        subst h1 h2 hv
        exact ⟨hget, rfl, rfl, trivial⟩
      exact PySem.W.kia_one (PySem.W.handS_kitx_exc C.hg C.hk C.hs C.hd C.ha C.hn C.ht C.hm) I.kIn J e (fun z => nomatch z) fun tk => ⟨.bl b, H, I.kept (t' := tk) fun _ _ z => z, rfl, q⟩
/-- isinstance of a, the error; b is the answer -/
def dIsB (te tc : DTE) (c : D) (b : Bool) (a1 : Addr) : DTE := fun ρ μ Q => dCons te (dCons tc dNil) ρ μ fun ds μ2 => ds = [.ref a1, c] ∧ Q (.bl b) μ2
theorem de_isE {Dc : Addr} {e ec : Expr} {te tc : DTE} {c : D} {cv : V} {cu : Value} {b : Bool} {p : Pos} (C : ExcC X.K Dc) (hz : Zc (.ref Dc) none o1) (hf : ∃ vs, o1.data = .fields vs) (hB : B.F a1 = some (HotO a1 o1)) (hg : Gl X "isinstance") (hm : X.mg "isinstance" = none)
    (h1 : DE X B e te) (h2 : DE X B ec tc) (rc : ∀ F v, Rep X.K F c v → v = cv) (hc : ∀ u, RelV cv u → u = cu) (hk : PySem.W.kitOne X.K (.ref Dc) cu = some b)
    (he : starEach [e, ec] X.env = (false, eval e X.env) :: starEach [ec] X.env := by rfl) (hpl : (backTo pos (starEach [ec] X.env)).any (·.1) = false := by rfl) (hs : starEach [ec] X.env = (false, eval ec X.env) :: starEach [] X.env := by rfl) : DE X B (.Call (.Name "isinstance" p) [e, ec] [] pos) (dIsB te tc c b a1) :=
  PE.by (pe_callB (call_isEH C hz hf) hg hm (by decide +kernel) (da_cons h1 (da_cons h2 da_nil hs) he) (by decide) (by decide) he hpl) fun σ H Q ⟨F, ρ, μ, Qd, sB, ok, rs, t, cl⟩ => by
    refine ⟨F, ρ, μ, fun ds μ2 => ds = [.ref a1, c] ∧ Qd (.bl b) μ2, sB, ok, rs, t, fun F1 ds μ1 vs H1 s1 ok1 r1 l1 t1 => ?_⟩
    · obtain ⟨rfl, q⟩ := t1
      obtain ⟨v, w, rfl, r, r'⟩ := reps2 r1
      obtain rfl := rep_ref.mp r
      obtain rfl := rc _ _ r'
      exact ⟨_, _, b, rfl, hc, hk, hot_of hB (sB.trans s1) ok1, cl _ _ _ _ _ s1 ok1 (rep_bl.mpr rfl) q⟩
end
end Li

set_option Elab.async false
set_option linter.all false
set_option maxRecDepth 100000
set_option maxHeartbeats 2000000
/-! A def called while an error is handled, the error among its arguments. -/
namespace Li
open PySem PySem.Spec PyProof.Rows L2 HotX L2H
variable [Tbl]
/-! ### what stays is looked at without the error -/
theorem heap_of (n : Nat) : ∃ h : Heap, h.objs.size = n := by
  induction n with
  | zero => exact ⟨{ objs := #[] }, rfl⟩
  | succ n ih =>
    obtain ⟨h, e⟩ := ih
    exact ⟨h.push { cls := .none, data := .fields #[] }, by rw [Heap.size_push, e]⟩
theorem code_ne_hot {a : Addr} {q : Str} {o : Obj} : LamX.CodeO a q ≠ HotO a o := fun z => by
  obtain ⟨h, e⟩ := heap_of a
  have key : ∀ t : Tok, o = { cls := .none, data := .fields #[.none, .str q t] } := fun t => by
    have g : (h.push { cls := .none, data := .fields #[.none, .str q t] }).get? a = some { cls := .none, data := .fields #[.none, .str q t] } := by rw [← e]; exact Heap.get?_push_size _ rfl
    unfold LamX.CodeO HotO at z
    have z' := congrFun (HO.ext.inj z) (h.push { cls := .none, data := .fields #[.none, .str q t] })
    have c : (h.push { cls := .none, data := .fields #[.none, .str q t] }).get? a = some o := by rw [← z']; exact ⟨_, _, t, g, rfl, rfl⟩
    rw [g] at c
    exact (Option.some.inj c).symm
  have c := (key 0).symm.trans (key 1)
  injection c with _ _ c _
  injection c with c
  have c := congrArg (fun v : Array Value => v[1]?) c
  injection Option.some.inj c with _ c
  exact absurd c (by decide)
def SameX (F F' : Hp) : Prop := ∀ b u, F b = some u → (∀ φ, u ≠ .ext φ) → F' b = some u
section
variable {K : PySem.W.Frag} {F F' : Hp}
theorem sameX_sqT {a : Addr} {xs : List V} (e : SameX F F') (h : SqT K F a xs) : SqT K F' a xs := by
  rcases h with (h | ⟨o, h⟩) | h
  · exact .inl (.inl (e _ _ h fun φ z => by cases z))
  · exact .inl (.inr ⟨o, e _ _ h fun φ z => by cases z⟩)
  · exact .inr h
theorem sameX_sqL {a : Addr} {xs : List V} (e : SameX F F') (h : SqL K F a xs) : SqL K F' a xs := by
  rcases h with (h | ⟨o, h⟩) | h
  · exact .inl (.inl (e _ _ h fun φ z => by cases z))
  · exact .inl (.inr ⟨o, e _ _ h fun φ z => by cases z⟩)
  · exact .inr h
mutual
theorem Rep.monoX (e : SameX F F') : ∀ {d : D} {v : V}, Rep K F d v → Rep K F' d v
  | .non, _, h => h
  | .bl _, _, h => h
  | .int _, _, h => h
  | .str _, _, h => h
  | .ref _, _, h => h
  | .ty _, _, h => h
  | .tup ds, v, h => by
    obtain ⟨a, vs, h1, h2, h3⟩ := rep_tup.mp h
    exact rep_tup.mpr ⟨a, vs, h1, sameX_sqT e h2, Reps.monoX e h3⟩
  | .lst ds, v, h => by
    obtain ⟨a, vs, h1, h2, h3⟩ := rep_lst.mp h
    exact rep_lst.mpr ⟨a, vs, h1, e _ _ h2 (fun φ z => by cases z), Reps.monoX e h3⟩
  | .scr ns, v, h => by
    obtain ⟨a, h1, h2⟩ := rep_scr.mp h
    exact rep_scr.mpr ⟨a, h1, sameX_sqL e h2⟩
theorem Reps.monoX (e : SameX F F') : ∀ {ds : List D} {vs : List V}, Reps K F ds vs → Reps K F' ds vs
  | [], _, h => by rw [reps_nil.mp h]; exact reps_nil.mpr rfl
  | d :: ds, vs, h => by
    obtain ⟨v, r, h1, h2, h3⟩ := reps_cons.mp h
    exact reps_cons.mpr ⟨v, r, h1, Rep.monoX e h2, Reps.monoX e h3⟩
end
theorem FReps.monoX (e : SameX F F') : ∀ {ds : List (Str × D)} {vs : List (Str × V)}, FReps K F ds vs → FReps K F' ds vs
  | [], _, h => h
  | (k, d) :: ds, vs, ⟨v, r, h1, h2, h3⟩ => ⟨v, r, h1, h2.monoX e, FReps.monoX e h3⟩
theorem sameX_del {a1 : Addr} {o1 : Obj} (h : F a1 = some (HotO a1 o1)) : SameX F (delH F a1) := fun b u q n => by
  have hb : b ≠ a1 := fun z => by subst z; rw [h] at q; cases q; unfold HotO at n; exact n _ rfl
  rw [delH_ne hb]
  exact q
theorem Ok.del {μ : MS} {H : Hp} {a1 : Addr} {o1 : Obj} (ok : Ok K F μ H) (h : F a1 = some (HotO a1 o1)) : Ok K (delH F a1) μ (delH H a1) := by
  have hH := ok.sub _ _ h
  refine ⟨fun b u q => ?_, fun a ds e => ?_, fun a C fs e => ?_, fun p hp => ?_, fun b ps z => ?_⟩
  · by_cases hb : b = a1
    · subst hb; rw [delH_same] at q; cases q
    · rw [delH_ne hb] at q ⊢; exact ok.sub b u q
  · obtain ⟨h1, vs, h2, h3⟩ := ok.lst a ds e
    have ha : a ≠ a1 := fun z => by subst z; rw [h] at h1; cases h1
    exact ⟨by rw [delH_ne ha]; exact h1, vs, by rw [delH_ne ha]; exact h2, h3.monoX (sameX_del h)⟩
  · obtain ⟨h1, dx, vfs, h2, h3⟩ := ok.ins a C fs e
    have ha : a ≠ a1 := fun z => by subst z; rw [h] at h1; cases h1
    exact ⟨by rw [delH_ne ha]; exact h1, dx, vfs, by rw [delH_ne ha]; exact h2, h3.monoX (sameX_del h)⟩
  · obtain ⟨ps, h1, h2, h3⟩ := ok.tab p hp
    have n1 : p.1 ≠ a1 := fun z => by rw [z, hH] at h1; unfold HotO at h1; cases h1
    refine ⟨ps, by rw [delH_ne n1]; exact h1, h2, fun pos cv hc => ?_⟩
    obtain ⟨c, e1, e2⟩ := h3 pos cv hc
    have n2 : c ≠ a1 := fun z => by subst z; rw [hH] at e2; exact code_ne_hot (Option.some.inj e2).symm
    exact ⟨c, e1, by rw [delH_ne n2]; exact e2⟩
  · by_cases hb : b = a1
    · rw [hb, delH_same] at z; cases z
    · rw [delH_ne hb] at z; exact ok.ntb _ _ z
theorem Stp.del {μ μ2 : MS} {H F2 H2 : Hp} {a1 : Addr} {o1 : Obj} (hF : F a1 = none) (hH : H a1 = none) (s : Stp (upd F a1 (HotO a1 o1)) μ (upd H a1 (HotO a1 o1)) F2 μ2 H2) : Stp F μ H (delH F2 a1) μ2 (delH H2 a1) := by
  refine ⟨fun b u q => ?_, fun b o q n m => ?_⟩
  · have hb := ne_of_none q hF
    rw [delH_ne hb]
    exact s.s b u (by rw [upd_ne hb]; exact q)
  · have hb := ne_of_none q hH
    obtain ⟨h1, m1, f1⟩ := s.fr b o (by rw [upd_ne hb]; exact q) n m
    exact ⟨by rw [delH_ne hb]; exact h1, m1, fun z => by rw [delH_ne hb]; exact f1 (by rw [upd_ne hb]; exact z)⟩
end
/-! ### the run -/
def cxE (CX : CXT) (P : Program) (w : World) (K : PySem.W.Frag) (mg : Str → Option Value) (base : Heap) (N : List Str) (qual : Str) (scope : Scope) (f : Addr) (cd : Value) (A : Around) (outer : List Env) (s : Shared) (H : Hp) (E : XK) : Cx :=
  { cxOf CX P w K mg base N qual scope f cd A outer s H E with calm := false }
theorem inv_startE {CX : CXT} {P : Program} {w : World} {K : PySem.W.Frag} {mg : Str → Option Value} {base : Heap} {N ps : List Str} {qual : Str} {scope : Scope} {f : Addr} {cd : Value} {A : Around} {outer : List Env} {s s1 : Shared} {H : Hp} {E : XK} {us : List Value} {vs : List V}
    (S : FnScope N ps scope) (e0 : Env0 P w K mg base A outer s H) (hl : vs.length = ps.length) (r : Vals vs us)
    (x : InCallC s s.heap.objs.size (bindL (envOfC qual scope s.heap.objs.size f cd).kindOf (ps.zip us) fun _ => none) (cellsFrom (s.heap.objs.size + 1) scope.names []) (bindC (envOfC qual scope s.heap.objs.size f cd).kindOf (ps.zip us) fun _ => none) s1) :
    Inv (cxE CX P w K mg base N qual scope f cd A outer s H E) [] (L2.start N vs) H s1 := by
  have hpl : ps.length ≤ N.length := by have := congrArg List.length S.pre; rw [List.length_take] at this; omega
  obtain ⟨h1, tk, rfl, hk⟩ := x.done
  have noA : ∀ b : Addr, b ∉ (cxE CX P w K mg base N qual scope f cd A outer s H E).ex := fun b z => absurd (show b ∈ ([] : List Addr) from z) (by simp)
  refine ⟨⟨e0.mod, S.kind, rfl, rfl, Nat.le_refl _, fun y z c h1 h2 => ?_, fun y hy => ?_, fun y c _ h => ?_, (fun z => Bool.noConfusion (show false = true from z)), Around.frames_deeper e0.frames, .inr ⟨rfl, rfl⟩, fun b z => absurd z (noA b), e0.bs, e0.bsz, fun b _ _ => noA b, fun b z => absurd z (noA b), e0.funs, e0.frf⟩,
    rfl, e0.bare, Un.kept hk, ⟨_, x.toInCall.ns, fun i y v h1 h2 h3 => ?_⟩, fun y c h => ⟨_, x.cell y c h⟩, e0.hok.fresh (Nat.le_refl _), fun y c h => ?_, fun q hq => ?_, e0.hok.kept hk, ?_⟩
  · exact name_of_addr x.apart (PySem.mem_of_lookup h1) (PySem.mem_of_lookup h2)
  · have hy : scope.names.lookup y = some .cell ∨ scope.names.lookup y = some .free := hy
    rcases hy with hy | hy
    · exact cell_has hy
    · exact absurd rfl (S.nofree _ (PySem.mem_of_lookup hy))
  · exact Nat.le_of_lt (x.above y c (PySem.mem_of_lookup h))
  · have hi : i < vs.length := by
      unfold L2.start at h2
      by_cases hi : i < vs.length
      · exact hi
      · rw [List.getElem?_append_right (by simpa using hi)] at h2
        rw [List.getElem?_replicate] at h2
        split at h2 <;> cases h2
    have ha : vs[i]? = some v := by
      unfold L2.start at h2
      rw [List.getElem?_append_left (by simpa using hi), List.getElem?_map] at h2
      cases e : vs[i]? with
      | none => rw [e] at h2; cases h2
      | some a => rw [e] at h2; cases h2; rfl
    obtain ⟨u, hu, rv⟩ := r.get ha
    have hp : ps[i]? = some y := by
      rw [← S.pre, List.getElem?_take_of_lt (by omega)]; exact h1
    have ndP : ps.Nodup := by rw [← S.pre]; exact S.nd.sublist (List.take_sublist _ _)
    refine ⟨u, rv, ?_⟩
    rcases S.par y (List.mem_of_getElem? hp) with k | k
    · exact .inl ⟨k, bindL_get ndP hp hu k⟩
    · obtain ⟨c, e⟩ := cell_has (n := s.heap.objs.size + 1) k
      refine .inr ⟨.inl k, c, e, ?_⟩
      have q := x.cell y c e
      rw [bindC_get ndP hp hu (by show scope.names.lookup y ≠ _; rw [k]; decide)] at q
      exact q
  · exact e0.hok.fresh (Nat.le_of_lt (x.above y c (PySem.mem_of_lookup h)))
  · exact absurd (show q ∈ ([] : List (Addr × Obj)) ++ [] from hq) (by simp)
  · unfold L2.start
    show _ = N.length
    rw [List.length_append, List.length_map, List.length_replicate]
    omega
theorem runE {CX : CXT} {P : Program} {w : World} {K : PySem.W.Frag} {mg : Str → Option Value} {base : Heap} {k : Nat} {f : Addr} {name qual : Str} {params : Arguments} {body : List Stmt} {scope : Scope} {dV kV doc pm cdv ct oc : Value} {an od : Option Addr}
    {osl : Array (Option Value)} {N ps : List Str} (lk : K.lookup f = some ⟨oc, od, .func (PySem.W.fnOf name qual params body scope dV kV doc pm an cdv ct), osl⟩) (hcd : PySem.W.codeIn K cdv qual = true) (S : FnScope N ps scope)
    {A : Around} {outer : List Env} {s : Shared} {H : Hp} {args : Args} {us : List Value} {vs : List V} {Q : VK} {E : XK} (hr : RoomH (k + 1) A) (e0 : Env0 P w K mg base A outer s H) (hb : BindsTo s (PySem.W.fnOf name qual params body scope dV kV doc pm an cdv ct) args (ps.zip us)) (r : Vals vs us) (hl : vs.length = ps.length)
    (hbody : RoomH k (A.deeper (envOfC qual scope s.heap.objs.size f cdv)) → ∃ t, PSs (cxE CX P w K mg base N qual scope f cdv A outer s H E) body t ∧ t { nx := fun _ H' => Q .non H', rt := Q } (L2.start N vs) H) :
    codeAny (model P w) A (.call (.ref f) args) (CR CX outer P w H s Q E) s := by
  have KX : K.In s.heap := e0.mod.kin.keeps fun b o e => (e0.bs b o e).1
  have lim : s.heap.NoLimit := e0.mod.nolimit.keeps fun b o e => (e0.bs b o e).1
  have hkind : ∀ y ∈ ps.zip us, scope.names.lookup y.1 = some .local ∨ (scope.names.lookup y.1 = some .cell ∧ ((cellsFrom (s.heap.objs.size + 1) scope.names []).lookup y.1).isSome = true) := fun ⟨n, v⟩ hy => by
    rcases S.par n (List.of_mem_zip hy).1 with q | q
    · exact .inl q
    · exact .inr ⟨q, PySem.W.cellsFrom_some _ _ _ (.inl q)⟩
  refine codeAny_call_function hr.depth (KX _ _ lk) rfl S.co S.gen rfl (PySem.W.codeRec_of KX hcd) (hb _ _ _ _ ?_)
  refine wpAny_newFunctionEnv_cells S.kind hkind fun env he s1 x => ?_
  subst he
  refine ⟨lim.keeps x.toInCall.keep, codeAny_func ?_⟩
  obtain ⟨t, ht, hq⟩ := hbody (hr.deeper _)
  have I : Inv (cxE CX P w K mg base N qual scope f cdv A outer s H E) [] (L2.start N vs) H s1 := inv_startE S e0 hl r x
  refine wpAny_mono (ht.run [] s1 (L2.start N vs) H _ I hq) (fun fl s' hs => ?_) fun e s' hs => hs
  have fin : ∀ {σ' : L2.St} {H' : Hp} {v : V} {u : Value}, Inv (cxE CX P w K mg base N qual scope f cdv A outer s H E) [] σ' H' s' → L2.RelV v u → Q v H' → CE outer P w H s Q u s' :=
    fun {σ' H' v u} J rv q => ⟨v, H', J.os, J.bare, J.base, J.hok, rv, q⟩
  cases fl with
  | ret u =>
    obtain ⟨v, σ', H', J, rv, q⟩ := hs
    exact fin J rv q
  | next =>
    obtain ⟨σ', H', J, q⟩ := hs
    exact fin (v := V.non) (u := Value.none) J rfl q
  | brk =>
    obtain ⟨_, _, _, q⟩ := hs
    exact False.elim q
  | cont =>
    obtain ⟨_, _, _, q⟩ := hs
    exact False.elim q

section
variable {X : Cx} {pins : List (Addr × Obj)} {σ : L2.St} {H : Hp} {s s' : Shared} {a1 : Addr} {o1 : Obj}
/-- the pinned error is tracked -/
theorem env_hot {P : Program} {w : World} {K : PySem.W.Frag} {mg : Str → Option Value} {base : Heap} {A : Around} {outer : List Env} (e : Env0 P w K mg base A outer s H) (g : s.heap.get? a1 = some o1) (n : H a1 = none) (hb : base.get? a1 = none) (hf : a1 ∉ frs outer) : Env0 P w K mg base A outer s (upd H a1 (HotO a1 o1)) where
  frames := e.frames
  mod := e.mod
  bs := fun b o q => ⟨(e.bs b o q).1, by rw [upd_ne (fun z => by rw [z, hb] at q; cases q)]; exact (e.bs b o q).2⟩
  bsz := e.bsz
  funs := e.funs
  frf := fun b hm => by rw [upd_ne (fun z => hf (by rw [← z]; exact hm))]; exact e.frf b hm
  hok := e.hok.laidN (fun _ _ q => q) n ⟨g, ⟨o1, g⟩, fun h1 h2 a b => b o1 a⟩
  bare := e.bare
/-- .. and not tracked any more -/
theorem ce_del {P : Program} {w : World} {outer : List Env} {Q : VK} {u : Value} (g : s.heap.get? a1 = some o1) (n : H a1 = none) (hf : a1 ∉ frs outer) (c : CE outer P w (upd H a1 (HotO a1 o1)) s (fun v H2 => H2 a1 = some (HotO a1 o1) ∧ Q v (delH H2 a1)) u s') : CE outer P w H s Q u s' := by
  obtain ⟨v, H2, os, ag, un, hok, rv, hH, q⟩ := c
  have g2 : s'.heap.get? a1 = some o1 := (hok a1 _ hH).1
  have at_ : ∀ b, b ≠ a1 → (upd H a1 (HotO a1 o1)) b = H b := fun b hb => upd_ne hb
  refine ⟨v, delH H2 a1, os, ag, ⟨fun b o q nb hm hx => ?_, fun b o q nb hm hx => ?_, fun b o q nb hx => ?_, un.there, fun b xs q => ?_, fun b o u q => ?_, fun b ps q => ?_⟩, fun b u q => ?_, rv, q⟩
  · by_cases hb : b = a1
    · rw [hb] at q ⊢
      rw [g] at q
      rw [g2]
      exact q
    · exact un.keep b o q (by rw [at_ b hb]; exact nb) hm hx
  · have hb : b ≠ a1 := fun z => hf (by rw [← z]; exact hm)
    exact un.slot b o q (by rw [at_ b hb]; exact nb) hm hx
  · by_cases hb : b = a1
    · rw [hb, delH_same]
    · rw [delH_ne hb]; exact un.free b o q (by rw [at_ b hb]; exact nb) hx
  · have hb := ne_of_none q n
    rw [delH_ne hb]
    exact un.tups b xs (by rw [at_ b hb]; exact q)
  · have hb := ne_of_none q n
    rw [delH_ne hb]
    exact un.frzs b o u (by rw [at_ b hb]; exact q)
  · have hb := ne_of_none q n
    obtain ⟨more, z⟩ := un.tbls b ps (by rw [at_ b hb]; exact q)
    exact ⟨more, by rw [delH_ne hb]; exact z⟩
  · have hb : b ≠ a1 := fun z => by rw [z, delH_same] at q; cases q
    rw [delH_ne hb] at q
    refine (hok b u q).stay (fun c w _ z => z) (fun c z => ?_) fun c xs z => ?_
    · have hc : c ≠ a1 := fun y => by rw [y, hH] at z; unfold HotO at z; cases z
      rw [delH_ne hc]; exact z
    · have hc : c ≠ a1 := fun y => by rw [y, hH] at z; unfold HotO at z; cases z
      rw [delH_ne hc]; exact z
/-- x(e), the handled error handed on -/
theorem pe_hot {CX : CXT} {k : Nat} {f : Addr} {name qual x p0 : Str} {params : Arguments} {body : List Stmt} {scope : Scope} {dV kV doc pm cdv ct oc : Value} {an od : Option Addr} {osl : Array (Option Value)} {N : List Str} {e : Expr} {te : TE} {q pos : Pos} {TT : Hp → VK → Prop}
    (hh : Hnd X.A a1 o1) (hp : (a1, o1) ∈ X.pn) (hX : ∀ (H : Hp) (s : Shared) (e : Value) (s' : Shared), ¬ CX X.stack H s E0 e s') (nb : X.base.get? a1 = none) (hg : Gl X x) (hm : X.mg x = some (.ref f)) (hk : PySem.W.keepIn X.K (.ref f) = true) (lk : X.K.lookup f = some ⟨oc, od, .func (PySem.W.fnOf name qual params body scope dV kV doc pm an cdv ct), osl⟩) (hcd : PySem.W.codeIn X.K cdv qual = true) (S : FnScope N [p0] scope)
    (hb : Binds X.K (PySem.W.fnOf name qual params body scope dV kV doc pm an cdv ct) [p0] []) (hr : RoomH (k + 1) X.A)
    (hbody : ∀ (A : Around) (outer : List Env) (s : Shared) (H : Hp) (Q : VK), Hnd A a1 o1 → RoomH k (A.deeper (envOfC qual scope s.heap.objs.size f cdv)) → H a1 = some (HotO a1 o1) → TT H Q →
      ∃ t, PSs (cxE CX X.prog X.w X.K X.mg X.base N qual scope f cdv A outer s H E0) body t ∧ t { nx := fun _ H' => Q .non H', rt := Q } (L2.start N [.ref a1]) H)
    (ha : PE X e te) (he : starEach [e] X.env = (false, eval e X.env) :: starEach [] X.env := by rfl) (hpl : (backTo pos (starEach [] X.env)).any (·.1) = false := by rfl) (hdb : (x == ("__debug__" : Str)) = false := by decide) :
    PE X (.Call (.Name x q) [e] [] pos) (fun σ H Q => te σ H fun v H1 => v = .ref a1 ∧ TT (upd H1 a1 (HotO a1 o1)) fun w H2 => H2 a1 = some (HotO a1 o1) ∧ Q w (delH H2 a1)) := by
  refine ⟨fun pins s σ H Q I h => ?_⟩
  refine wpAny_Call_Name_kw (ld_glob I hg hm ?_ hdb)
  refine PySem.W.callWith_K (h₀ := X.base) I.ok.mod.kin hk ?_ he hpl
  rw [he]
  show wpAny _ _ (spliced ((false, eval e X.env) :: backTo pos (starEach [] X.env))) _ _ s
  refine Calls.spliced_cons (thn (ha.run pins s σ H _ I h) fun u s1 ⟨v, H1, I1, r1, e1, q⟩ => ?_)
  refine Calls.spliced_nil ⟨I1.kIn, ?_⟩
  subst e1
  have P1 := I1.pin (a1, o1) (List.mem_append_left _ hp)
  have nf : a1 ∉ frs X.stack := fun hm => (List.mem_cons.mp (I1.stkSub a1 hm)).elim P1.2.2.1 P1.2.2.2.1
  have b := hb s1 [u] I1.kIn rfl
  rw [List.append_nil] at b
  refine wpAny_call (codeAny_mono (runE (CX := CX) (E := E0) (vs := [.ref a1]) (us := [u]) (ps := [p0]) lk hcd S hr (env_hot I1.env0 P1.1 P1.2.1 nb nf) b (.cons r1 .nil) rfl fun hr' => hbody _ _ _ _ _ hh hr' upd_same q) fun r s' hq => ?_)
  cases r with
  | error e => exact (hX _ _ _ _ hq).elim
  | ok fl =>
    cases fl with
    | ret u => exact I1.after (ce_del P1.1 P1.2.1 nf hq)
    | next => exact False.elim hq
    | brk => exact False.elim hq
    | cont => exact False.elim hq
end
section
variable {X : Cx} {x n : Str} {c : Value} {i : Nat} {body suite : List Stmt} {b₀ : Stmt} {np pos pos' : Pos} {tb : WX → TS} {ts : Addr → Value → Option Addr → TS} {Wout : WX}
theorem ps_try_asB (hs : X.stack = X.env :: X.outer) (hf : X.env.frame = some X.env.locals) (hN : X.N.Nodup) (hi : X.N[i]? = some n) (hln : X.env.kindOf n = some .local) (hc : Names X x c) (tk : L2N.Takes X Wout)
    (hb : ∀ (W : WX) (pn : List (Addr × Obj)) (xe : Value → Shared → Prop), L2N.Takes (X.tr pn xe) W → PassesOwn (model X.prog X.w) X.A X.env xe → PSs (X.tr pn xe) body (tb W))
    (hsu : ∀ (a : Addr) (oe : Obj) (cls : Value) (d : Option Addr) (pn : List (Addr × Obj)), L2N.Zn cls d oe → (∃ vs, oe.data = .fields vs) → X.base.get? a = none → PSs (X.suite a ((a, oe) :: pn)) (b₀ :: suite) (ts a cls d)) :
    PS X (.Try body [.ExceptHandler (some (.Name x np)) (some n) (b₀ :: suite) pos'] [] [] pos) (fun D σ H => tb (wAs X.K c i ts Wout D) D σ H) := by
  refine ⟨fun pins s σ H D I h => ?_⟩
  have ok := I.ok
  have hfr : X.A.frames = some (X.env :: X.outer) := by rw [ok.frames, hs]
  have hloc : Loc X.env.scope n := .inl hln
  refine wpAny_Try_except ?_
  refine wpAny_mono ((hb (wAs X.K c i ts Wout D) (X.pn ++ pins) (fun e s₁ => wpAny (model X.prog X.w) X.A (noteFrame e X.env) (fun _ s₂ => wpAny (model X.prog X.w) X.A (setFlight e none) (fun _ s₃ =>
    wpAny (model X.prog X.w) X.A (handleBy e X.env [.ExceptHandler (some (.Name x np)) (some n) (b₀ :: suite) pos']) (SP X pins D) X.xe s₃) X.xe s₂) X.xe s₁) (fun u s' xx => ?_) PassesOwn.looking).run [] s σ H D (I.toTry _) h) (fun f s1 hsp => ?_) (fun e s1 he => he)
  · -- the catch
    obtain ⟨a, B, sI, pins', σ', H', cls, d, rfl, J', nb, up, sky, na, os, ag, b, hb1, hyes, hno⟩ := xx
    have J : Inv X pins σ' H' sI := J'.ofTry ok
    have sky' : Sky B (X.env :: X.outer) a (L2N.Zn cls d) X.env.locals s'.heap := by rw [← hs]; exact sky
    show wpAny (model X.prog X.w) X.A (noteFrame (.ref a) X.env) _ _ _
    refine L2N.Sky.land L2N.Zn.steady hfr hf sky' fun h3 fl3 up3 => ?_
    have J3 : Inv X pins σ' H' { s' with heap := h3 } := J.landed nb fl3.1 (up.trans up3) os ag
    obtain ⟨oe3, vs3, he3, hz3, hd3⟩ := fl3.there
    have notFr : ∀ {h : Heap} {o : Obj} {vs : Array Value}, h.FunFrames B (X.env :: X.outer) → h.get? a = some o → o.data = .fields vs → a ∉ frs (X.env :: X.outer) := fun {h o vs} ff e dd hm => by
      obtain ⟨_, o', e', hnf⟩ := ff.mem hm
      rw [e] at e'; cases e'
      exact hnf _ dd
    have nfr := notFr fl3.2.2.1 he3 hd3
    have hbn : X.base.get? a = none := by
      cases e : X.base.get? a with
      | none => rfl
      | some o =>
        have q := nb a o (J.env0.bs a o e).1 (by rw [hs]; exact nfr)
        rw [fl3.2.1] at q
        cases q
    have nL : a ≠ X.env.locals := fun z => nfr (List.mem_filterMap.mpr ⟨X.env, List.mem_cons_self, by rw [hf, z]⟩)
    have nF : a ∉ X.fs := fun hm => by
      obtain ⟨e, he, q⟩ := List.mem_filterMap.mp hm
      exact nfr (List.mem_filterMap.mpr ⟨e, List.mem_cons_of_mem _ he, q⟩)
    have S3 := J3.suite he3 hd3 na nL nF
    refine wpAny_handleBy_cons (codeAny_handlers_test ?_) (by intro q; cases q)
    have LT : PySem.W.Looks (model X.prog X.w) h3 (typeOf (.ref a)) cls := fun A Q E s k q => wpAny_typeOf_ref (k _ _ he3) (by rw [hz3.1]; exact q)
    have LM := PySem.W.exm_one (M := model X.prog X.w) (J3.kIn) LT hb1
    have test : ∀ {Q : Value → Shared → Prop} {E : Value → Shared → Prop}, Q c { s' with heap := h3 } → wpAny (model X.prog X.w) (X.A.mark (some (.ref a))) (eval (.Name x np) X.env) Q E { s' with heap := h3 } := fun {Q E} q => by
      obtain ⟨hg, hdbg, hm | ⟨hm, hv, hnn⟩⟩ := hc
      · exact ld_glob (X := X.suite a ((a, oe3) :: (X.pn ++ pins))) S3 hg hm q hdbg
      · exact ld_blt (X := X.suite a ((a, oe3) :: (X.pn ++ pins))) S3 hg hm hv q hnn hdbg
    refine test (LM.here ?_)
    cases b with
    | true =>
      refine codeAny_handlers_suite_as ?_
      refine HandSPX.lands_againZ fl3 fun h4 fl4 up4 => ?_
      have J4 : Inv X pins σ' H' { s' with heap := h4 } := J.landed nb fl4.1 ((up.trans up3).trans up4) os ag
      obtain ⟨oe4, vs4, he4, hz4, hd4⟩ := fl4.there
      have S4 := J4.suite he4 hd4 na nL nF
      refine store_ok (X := X.suite a ((a, oe4) :: (X.pn ++ pins))) (v := .ref a) S4 hN hi hloc rfl (fun s5 S5 => ?_) (.inr hln)
      refine wpAny_mono ((hsu a oe4 cls d (X.pn ++ pins) hz4 ⟨_, hd4⟩ hbn).run [] s5 _ H' _ S5 (hyes rfl a na)) (fun f s6 hsp => ?_) (fun _ _ z => False.elim z)
      have end_ : ∀ {σ6 : L2.St} {H6 : Hp} {Q : Shared → Prop}, Inv (X.suite a ((a, oe4) :: (X.pn ++ pins))) [] σ6 H6 s6 → (∀ s7, Inv X pins (σ6.set i none) H6 s7 → Q s7) →
          wpAny (model X.prog X.w) X.A (do bindName X.env n .none; unbindBehindTheSuite X.env n pos') (fun _ s7 => Q s7) X.xe s6 := fun {σ6 H6 Q} S6 hq => gone_ok (S6.unsuite ok) hN hi hln hq
      cases f with
      | next =>
        obtain ⟨σ6, H6, S6, q6⟩ := hsp
        exact end_ S6 fun s7 J7 => ⟨_, _, J7, q6⟩
      | brk =>
        obtain ⟨σ6, H6, S6, q6⟩ := hsp
        exact end_ S6 fun s7 J7 => ⟨_, _, J7, q6⟩
      | cont =>
        obtain ⟨σ6, H6, S6, q6⟩ := hsp
        exact end_ S6 fun s7 J7 => ⟨_, _, J7, q6⟩
      | ret u =>
        obtain ⟨v6, σ6, H6, S6, r6, q6⟩ := hsp
        exact end_ S6 fun s7 J7 => ⟨_, _, _, J7, r6, q6⟩
    | false =>
      show wpAny _ X.A (handleBy (.ref a) X.env []) _ _ _
      refine wpAny_handleBy_nil ?_
      obtain ⟨k1, k2, k3, oe, vs, T, oT, ts', he, hz, hd, h1, hr⟩ := id fl3
      unfold PySem.passOn
      refine wpAny_bind (wpAny_field he hd h1 ?_)
      rw [if_neg (show ¬ ((Value.ref T == Value.none) = true) from by simp)]
      have fin : wpAny (model X.prog X.w) X.A (setFlight (.ref a) X.env.frame) (fun _ s4 => wpAny (model X.prog X.w) X.A (throw (.ref a) : Sem Flow) (SP X pins D) X.xe s4) X.xe { s' with heap := h3 } := by
        rw [hf]
        refine HandSPX.setFlight_upZ fl3 fun h4 hh4 up4 => wpAny_throw (tk _ _ ?_)
        exact ⟨a, B, sI, pins, σ', H', cls, d, rfl, J, nb, (up.trans up3).trans up4, .inr (.inr (by rw [hs]; exact hh4)), na, os, ag, hno rfl⟩
      first
        | exact wpAny_bind (wpAny_pure (wpAny_bind fin))
        | exact wpAny_bind fin
  · cases f with
    | next =>
      obtain ⟨σ', H', J', q⟩ := hsp
      exact wpAny_execs_nil ⟨σ', H', J'.ofTry ok, q⟩
    | brk =>
      obtain ⟨σ', H', J', q⟩ := hsp
      exact ⟨σ', H', J'.ofTry ok, q⟩
    | cont =>
      obtain ⟨σ', H', J', q⟩ := hsp
      exact ⟨σ', H', J'.ofTry ok, q⟩
    | ret u =>
      obtain ⟨v, σ', H', J', r, q⟩ := hsp
      exact ⟨v, σ', H', J'.ofTry ok, r, q⟩
end
end Li

set_option Elab.async false
set_option linter.all false
set_option maxRecDepth 100000
set_option maxHeartbeats 2000000
/-! A lambda handed to a def, errors with contexts. -/
namespace Li
open PySem PySem.Spec PyProof.Rows L2 HotX L2H
def lamCxN (X : Cx) (A : Around) (outer : List Env) (s : Shared) (H : Hp) (E : XK) (scope : Scope) (f c' : Addr) : Cx :=
  (LamX.lamCx X A outer s H E scope f c').tr [] fun e s' => wpAny (model X.prog X.w) (A.deeper (LamX.lamEnv X scope s.heap.objs.size f c')) (leaving (LamX.lamEnv X scope s.heap.objs.size f c') e) (fun _ s'' => L2N.CX X.prog X.w outer H s E e s'') (fun e' s'' => L2N.CX X.prog X.w outer H s E e' s'') s'
section
variable {X : Cx} {pins : List (Addr × Obj)} {σ : L2.St} {H HZ : Hp} {s s1 : Shared}
theorem pe_actN {CXg : CXT} {Eg : XK} {Ng : List Str} {qg : Str} {sg : Scope} {g f c' : Addr} {cdg pm ctv : Value} {params : Arguments} {body : Expr} {scope : Scope} {k i : Nat} {a : Str} {pn : List (Addr × Obj)} {xe : Value → Shared → Prop} {W : WX} {E : XK} {tb : TE} {p1 p2 : Pos}
    (I : Inv X pins σ H s) (L : LamX.LamS X.env.scope scope) (hf : s.heap.get? f = some (PySem.W.kla_obj "<lambda>" (X.env.qual ++ "<lambda>") params body scope (cloFrom X.env.cells scope.names []) pm c' ctv)) (hfn : H f = none) (hfr : f ∉ frs X.stack)
    (hbind : bindArgs (PySem.W.kla_fn "<lambda>" (X.env.qual ++ "<lambda>") params body scope (cloFrom X.env.cells scope.names []) pm (.ref c') ctv) ⟨[], []⟩ = pure [])
    (tk : L2N.Takes ((cxOf CXg X.prog X.w X.K X.mg X.base Ng qg sg g cdg X.A X.stack s H Eg).tr pn xe) W) (hW : ∀ cls d σ' H', E cls d H' → W cls d σ' H') (hr : Room (k + 1) (X.A.deeper (envOfC qg sg s.heap.objs.size g cdg)))
    (hbody : ∀ (A : Around) (outer : List Env) (s : Shared) (H : Hp), Room k (A.deeper (LamX.lamEnv X scope s.heap.objs.size f c')) → PE (lamCxN X A outer s H E scope f c') body tb)
    (hN : Ng[i]? = some a) (hv : Vis sg a) (hd : (a == ("__debug__" : Str)) = false := by decide) (hcd : (a == ("__classdict__" : Str)) = false := by decide) :
    PE ((cxOf CXg X.prog X.w X.K X.mg X.base Ng qg sg g cdg X.A X.stack s H Eg).tr pn xe) (.Call (.Name a p1) [] [] p2)
      (fun σZ HZ Q => σZ[i]? = some (some (.ref f)) ∧ HZ c' = some (LamX.CodeO c' (X.env.qual ++ "<lambda>")) ∧ tb σ HZ Q) := by
  refine ⟨fun pinsZ sZ σZ HZ Q IZ h => ?_⟩
  obtain ⟨hs, hc, ht⟩ := h
  refine wpAny_Call_Name_kw (thn ((pe_var (pos := p1) (i := i) hN hv hd hcd).run pinsZ sZ σZ HZ (fun v H1 => v = .ref f ∧ H1 = HZ) IZ ⟨.ref f, hs, rfl, rfl⟩) fun u s1 ⟨v, H1, I1, r1, q1⟩ => ?_)
  obtain ⟨ev, eH⟩ := q1
  subst ev
  rw [eH] at I1
  obtain rfl : u = Value.ref f := r1
  have of1 : s1.heap.get? f = some (PySem.W.kla_obj "<lambda>" (X.env.qual ++ "<lambda>") params body scope (cloFrom X.env.cells scope.names []) pm c' ctv) := I1.base.keep f _ hf hfn hfr (fun z => nomatch (show f ∈ ([] : List Addr) from z))
  refine PySem.W.callWith_F0 ⟨_, _, _, _, of1⟩ ?_
  have un : Un (frs X.stack) [] H HZ s.heap s1.heap := I1.base
  obtain ⟨⟨oc, vs, t, hoc, hdc, hvc⟩, _, _⟩ := I1.hok c' _ hc
  have rc : codeAny (model X.prog X.w) (X.A.deeper (envOfC qg sg s.heap.objs.size g cdg)) (.call (.ref f) ⟨[], []⟩) (CR (L2N.CX X.prog X.w) (envOfC qg sg s.heap.objs.size g cdg :: X.stack) X.prog X.w HZ s1 Q E) s1 := by
    refine PySem.W.kla_callFunE hr.depth of1 rfl L.co L.gen rfl ⟨c', oc, vs, t, rfl, hoc, hdc, hvc⟩ ?_
    rw [hbind]
    refine wpAny_pure (wpAny_newFunctionEnv (fun y hy => (L.own y hy).2) (fun y hy => absurd hy (by simp)) (fun h₁ hns hsb => ⟨I1.nolimit.fresh _ hsb, ?_⟩) L.kind)
    show codeAny _ _ (.expr body (LamX.lamEnv X scope s1.heap.objs.size f c')) _ _
    have kp : ∀ b o, s1.heap.get? b = some o → h₁.get? b = some o := fun b o e => hsb.extBut b o (Nat.ne_of_lt (Heap.lt_size e)) (Heap.get?_push_of_some _ e)
    have J : Inv (lamCxN X (X.A.deeper (envOfC qg sg s.heap.objs.size g cdg)) (envOfC qg sg s.heap.objs.size g cdg :: X.stack) s1 HZ E scope f c') [] σ HZ { s1 with heap := h₁, toks := s1.toks + ([] : List (Str × Value)).length } :=
      (LamX.lam_start2 (E := E) I L I1.env0 hr.hd un hns kp).toTry _
    refine PySem.W.kla_codeExpr (wpAny_mono ((hbody _ _ s1 HZ (hr.deeper _)).run [] _ _ HZ Q J ht) (fun v s' hq => ?_) fun e s' hq => hq)
    obtain ⟨w', H', J', rv, q⟩ := hq
    exact ⟨w', H', J'.os, J'.bare, J'.base, J'.hok, rv, q⟩
  have hx : Passes (L2N.CX X.prog X.w) ((cxOf CXg X.prog X.w X.K X.mg X.base Ng qg sg g cdg X.A X.stack s H Eg).tr pn xe) E := L2N.passes_call tk hW
  refine wpAny_call (codeAny_mono rc fun r s' hq => ?_)
  cases r with
  | error e => exact hx pinsZ σZ HZ s1 e s' I1 hq
  | ok fl =>
    cases fl with
    | ret u => exact I1.after hq
    | next => exact False.elim hq
    | brk => exact False.elim hq
    | cont => exact False.elim hq
end
def GivesToN (X : Cx) (Ng : List Str) (x : Str) (sg : Scope) (g : Addr) (cdg : Value) (bg : List Stmt) (a : Str) (q : Str) (TT : (XK → Hp → VK → Prop) → Hp → VK → Prop) : Prop :=
  ∀ (f c' : Addr) (s : Shared) (H : Hp) (Q : VK) (tl : XK → Hp → VK → Prop),
    (∀ (W : WX) (pn : List (Addr × Obj)) (xe : Value → Shared → Prop) (E : XK) (p1 p2 : Pos), L2N.Takes ((cxOf C8.CX0 X.prog X.w X.K X.mg X.base Ng x sg g cdg X.A X.stack s H C8.E0).tr pn xe) W → (∀ cls d σ' H', E cls d H' → W cls d σ' H') →
      PE ((cxOf C8.CX0 X.prog X.w X.K X.mg X.base Ng x sg g cdg X.A X.stack s H C8.E0).tr pn xe) (.Call (.Name a p1) [] [] p2) (fun σZ HZ Q => σZ[0]? = some (some (.ref f)) ∧ HZ c' = some (LamX.CodeO c' q) ∧ tl E HZ Q)) →
    H c' = some (LamX.CodeO c' q) → TT tl H Q →
    ∃ t, PSs (cxOf C8.CX0 X.prog X.w X.K X.mg X.base Ng x sg g cdg X.A X.stack s H C8.E0).nox bg t ∧ t { nx := fun _ H' => Q .non H', rt := Q } (L2.start Ng [.ref f]) H
section
variable {X : Cx}
theorem pe_lamcallN {T : List (Addr × Str)} {TT : (XK → Hp → VK → Prop) → Hp → VK → Prop} {x a : Str} {g c P : Addr} {k : Nat} {pg : Arguments} {bg : List Stmt} {sg : Scope} {dV kV doc pm cdv ct oc : Value} {an od : Option Addr} {osl : Array (Option Value)} {Ng : List Str}
    {params : Arguments} {body : Expr} {scope : Scope} {t : XK → TE} {p lpos pos : Pos} (hg : Gl X x) (hm : X.mg x = some (.ref g)) (hk : PySem.W.keepIn X.K (.ref g) = true)
    (lk : X.K.lookup g = some ⟨oc, od, .func (PySem.W.fnOf x x pg bg sg dV kV doc pm an cdv ct), osl⟩) (hcg : PySem.W.codeIn X.K cdv x = true) (hb : L2.Binds X.K (PySem.W.fnOf x x pg bg sg dV kV doc pm an cdv ct) [a] []) (Sg : FnScope Ng [a] sg) (hNg : Ng[0]? = some a) (hva : Vis sg a)
    (hG : GivesToN X Ng x sg g cdv bg a (X.env.qual ++ "<lambda>") TT)
    (TB : LamX.TabB X.base X.mg c P) (hcode : X.env.code = .ref c) (hmT : (P, X.env.qual ++ "<lambda>") ∈ T) (hu : ∀ p ∈ T, p.1 = P → p.2 = X.env.qual ++ "<lambda>") (hr : Room (k + 2) X.A) (L : LamX.LamS X.env.scope scope) (hdef : defaultsOf params X.env = ([], []))
    (hbind : ∀ (q : Str) (cl : List (Str × Addr)) (pm cv ctv : Value), bindArgs (PySem.W.kla_fn "<lambda>" q params body scope cl pm cv ctv) ⟨[], []⟩ = pure [])
    (hbody : ∀ (A : Around) (outer : List Env) (s : Shared) (H : Hp) (E : XK) (f c' : Addr), Room k (A.deeper (LamX.lamEnv X scope s.heap.objs.size f c')) → PE (lamCxN X A outer s H E scope f c') body (t E))
    (hdb : (x == ("__debug__" : Str)) = false := by decide) (hd : (a == ("__debug__" : Str)) = false := by decide) (hcd : (a == ("__classdict__" : Str)) = false := by decide) :
    PE X (.Call (.Name x p) [.Lambda params body scope lpos] [] pos) (LamX.tLam T TT t) := by
  refine ⟨fun pins s σ H Q I h => ?_⟩
  obtain ⟨hT, h⟩ := h
  refine wpAny_Call_Name_kw (ld_glob I hg hm ?_ hdb)
  refine PySem.W.callWith_K (h₀ := X.base) I.ok.mod.kin hk ?_ (by rfl) (by rfl)
  show wpAny _ _ (spliced ((false, eval (.Lambda params body scope lpos) X.env) :: backTo pos (starEach [] X.env))) _ _ s
  refine Calls.spliced_cons (LamX.lam_make2 I TB hcode hmT hu hT hdef (L.has I.ok) fun f c' pm' ctv H1 s' I1 eN T1 hf hfn hfr hco => ?_)
  refine Calls.spliced_nil ⟨I1.kIn, ?_⟩
  have rc : codeAny (model X.prog X.w) X.A (.call (.ref g) ⟨[.ref f], []⟩) (CR C8.CX0 X.stack X.prog X.w H1 s' Q C8.E0) s' := by
    refine LamX.run_ofS (N := Ng) (ps := [a]) (us := [.ref f]) (vs := [.ref f]) lk hcg Sg hr I1.env0 (hb s' [.ref f] I1.kIn rfl) (.cons rfl .nil) rfl fun hr' => ?_
    obtain ⟨t', ht', hq'⟩ := hG f c' s' H1 Q (fun E H' Q' => t E σ H' Q') (fun W pn xe E p1 p2 tk hW => pe_actN (i := 0) I1 L hf hfn hfr (hbind _ _ _ _ _) tk hW hr' (fun A outer s H hr2 => hbody A outer s H E f c' hr2) hNg hva hd hcd) hco (h H1 eN T1)
    exact ⟨t', ht'.nox, hq'⟩
  refine wpAny_call (codeAny_mono rc fun r s2 hq => ?_)
  cases r with
  | error e => exact (show False from hq).elim
  | ok fl =>
    cases fl with
    | ret u => exact I1.after hq
    | next => exact False.elim hq
    | brk => exact False.elim hq
    | cont => exact False.elim hq
end
end Li

set_option Elab.async false
set_option linter.all false
set_option maxRecDepth 100000
set_option maxHeartbeats 2000000
/-! The name of an error that a call ends in. -/
namespace Li
open PySem PySem.Spec PyProof.Rows L2 HotX L2H
/-- where the classes of errors stand -/
class Cls where
  FuseError : Addr
  InvalidScript : Addr
  InvalidFuses : Addr
  InvalidMinutes : Addr
  InvalidIndex : Addr
  InvalidSide : Addr
  InvalidTimes : Addr
  InvalidFacts : Addr
  InvalidNumber : Addr
  NothingToUndo : Addr
  TooMany : Addr
  InvalidText : Addr
inductive EC where
  | script | fuses | minutes | index | side | times | facts | number | undo | many | text
  deriving DecidableEq
variable [Tbl] [cC : Cls]
def EC.adr : EC → Addr
  | .script => cC.InvalidScript
  | .fuses => cC.InvalidFuses
  | .minutes => cC.InvalidMinutes
  | .index => cC.InvalidIndex
  | .side => cC.InvalidSide
  | .times => cC.InvalidTimes
  | .facts => cC.InvalidFacts
  | .number => cC.InvalidNumber
  | .undo => cC.NothingToUndo
  | .many => cC.TooMany
  | .text => cC.InvalidText
/-- what _law_names tells of it -/
def EC.nm : EC → Str
  | .script => "script value"
  | .fuses => "fuses value"
  | .minutes => "minutes value"
  | .index => "index value"
  | .side => "side value"
  | .times => "times value"
  | .facts => "facts value"
  | .number => "number value"
  | .undo => "undo value"
  | .many => "many value"
  | .text => "text value"
structure Errs (K : PySem.W.Frag) : Prop where
  exc : ∀ i : EC, ExcC K i.adr
  kit : ∀ i j : EC, PySem.W.kitOne K (.ref i.adr) (.ref j.adr) = some (decide (i = j))
  val : ∀ i : EC, PySem.W.kitOne K (.ref i.adr) (.type "ValueError") = some true
  fus : ∀ i : EC, PySem.W.exmOne K (.ref i.adr) (.ref cC.FuseError) = some true
def dIsC (i j : EC) (a1 : Addr) : DTE := dIsB (dVar 0) (dC (.ref j.adr)) (.ref j.adr) (decide (i = j)) a1
def t__law_names (i : EC) (a1 : Addr) : DTS := dSeq (dAsg (dLst (dCons (dIsC i .script a1) (dCons (dIsC i .fuses a1) (dCons (dIsC i .minutes a1) (dCons (dIsC i .index a1) (dCons (dIsC i .side a1) (dCons (dIsC i .times a1) (dCons (dIsC i .facts a1) (dCons (dIsC i .number a1) (dCons (dIsC i .undo a1) (dCons (dIsC i .many a1) (dCons (dIsC i .text a1)
  (dCons (dIsB (dVar 0) (dC (.ty "ValueError")) (.ty "ValueError") true a1) dNil))))))))))))) (dName 1))
  (dSeq (dAsg (dC (.str "script fuses minutes index side times facts number undo many text value")) (dName 2))
  (dRet (dM1 kJoin (dC (.str " ")) (dLc (dZipL (dCons (dM1 kSplit (dVar 2) (dC (.str " "))) (dCons (dVar 1) dNil))) (dGTup 2 (dNms [3, 4])) (dTest (dVar 4)) (dVar 3) [3, 4]))))
theorem split_names : Txt.split "script fuses minutes index side times facts number undo many text value" " " = (["script", "fuses", "minutes", "index", "side", "times", "facts", "number", "undo", "many", "text", "value"] : List Str) := by decide +kernel
theorem pure__law_names (i : EC) (a1 : Addr) (μ : MS) (Q : DK) (h : Q (.str i.nm) μ) : t__law_names i a1 { nx := fun _ μ => Q .non μ, rt := Q } [some (.ref a1), none, none, none, none] μ := by
  have fin : ∀ (ds : List D), ds = (["script", "fuses", "minutes", "index", "side", "times", "facts", "number", "undo", "many", "text", "value"] : List Str).map D.str →
      (dRet (dM1 kJoin (dC (.str " ")) (dLc (fun ρ μ R => (zipD ds [.bl (decide (i = .script)), .bl (decide (i = .fuses)), .bl (decide (i = .minutes)), .bl (decide (i = .index)), .bl (decide (i = .side)), .bl (decide (i = .times)), .bl (decide (i = .facts)), .bl (decide (i = .number)), .bl (decide (i = .undo)), .bl (decide (i = .many)), .bl (decide (i = .text)), .bl true]).length ≤ 1000 ∧ R (zipD ds [.bl (decide (i = .script)), .bl (decide (i = .fuses)), .bl (decide (i = .minutes)), .bl (decide (i = .index)), .bl (decide (i = .side)), .bl (decide (i = .times)), .bl (decide (i = .facts)), .bl (decide (i = .number)), .bl (decide (i = .undo)), .bl (decide (i = .many)), .bl (decide (i = .text)), .bl true]) μ) (dGTup 2 (dNms [3, 4])) (dTest (dVar 4)) (dVar 3) [3, 4])))
        { nx := fun _ μ => Q .non μ, rt := Q } [some (.ref a1), some (.lst [.bl (decide (i = .script)), .bl (decide (i = .fuses)), .bl (decide (i = .minutes)), .bl (decide (i = .index)), .bl (decide (i = .side)), .bl (decide (i = .times)), .bl (decide (i = .facts)), .bl (decide (i = .number)), .bl (decide (i = .undo)), .bl (decide (i = .many)), .bl (decide (i = .text)), .bl true]), some (.str "script fuses minutes index side times facts number undo many text value"), none, none] μ := by
    rintro _ rfl
    cases i with
    | script => exact ⟨by decide, by decide +kernel, h⟩
    | fuses => exact ⟨by decide, by decide +kernel, h⟩
    | minutes => exact ⟨by decide, by decide +kernel, h⟩
    | index => exact ⟨by decide, by decide +kernel, h⟩
    | side => exact ⟨by decide, by decide +kernel, h⟩
    | times => exact ⟨by decide, by decide +kernel, h⟩
    | facts => exact ⟨by decide, by decide +kernel, h⟩
    | number => exact ⟨by decide, by decide +kernel, h⟩
    | undo => exact ⟨by decide, by decide +kernel, h⟩
    | many => exact ⟨by decide, by decide +kernel, h⟩
    | text => exact ⟨by decide, by decide +kernel, h⟩
  refine ⟨rfl, rfl, rfl, rfl, rfl, rfl, rfl, rfl, rfl, rfl, rfl, rfl, ?_⟩
  have e : (Txt.split "script fuses minutes index side times facts number undo many text value" " ").map D.str = (["script", "fuses", "minutes", "index", "side", "times", "facts", "number", "undo", "many", "text", "value"] : List Str).map D.str := by rw [split_names]
  exact ⟨by decide +kernel, by decide +kernel, fin _ e⟩
end Li

set_option Elab.async false
set_option linter.all false
set_option maxRecDepth 100000
set_option maxHeartbeats 2000000
namespace Li
open PySem PySem.Spec PyProof.Rows L2 HotX L2H
variable [Tbl] [cC : Cls]
theorem de_cls {X : Cx} {B : Ent} {x : Str} {C : Addr} {pos : Pos} (hg : Gl X x) (g : X.mg x = some (.ref C)) (hd : (x == ("__debug__" : Str)) = false := by decide) : DE X B (.Name x pos) (dC (.ref C)) := de_glob hg ⟨.ref C, .ref C, g, rfl, fun _ => rep_ref.mpr rfl⟩ hd
/-! ### _law_names, handed the error that is handled -/
def TTn (K : PySem.W.Frag) (i : EC) (a1 : Addr) (o1 : Obj) (H : Hp) (Q : VK) : Prop := ∃ F μ Qd, Ok K F μ H ∧ F a1 = some (HotO a1 o1) ∧ Qd (.str i.nm) μ ∧ Cl K F μ H Qd Q
section
variable {P : Program} {w : World} {K : PySem.W.Frag} {mg : Str → Option Value} {base : Heap}
structure NamesOk (P : Program) (w : World) (K : PySem.W.Frag) (mg : Str → Option Value) (base : Heap) : Prop where
  ex : ∃ (f : Addr) (params : Arguments) (body : List Stmt) (scope : Scope) (dV kV doc pm cdv ct oc : Value) (an od : Option Addr) (osl : Array (Option Value)) (N : List Str),
    mg "_law_names" = some (.ref f) ∧ PySem.W.keepIn K (.ref f) = true ∧ K.lookup f = some ⟨oc, od, .func (PySem.W.fnOf "_law_names" "_law_names" params body scope dV kV doc pm an cdv ct), osl⟩ ∧ PySem.W.codeIn K cdv "_law_names" = true ∧ FnScope N ["e"] scope ∧
    Binds K (PySem.W.fnOf "_law_names" "_law_names" params body scope dV kV doc pm an cdv ct) ["e"] [] ∧
    ∀ (i : EC) (a1 : Addr) (o1 : Obj) (A : Around) (outer : List Env) (s : Shared) (H : Hp) (Q : VK), Hnd A a1 o1 → Zc (.ref i.adr) none o1 → TTn K i a1 o1 H Q →
      ∃ t, PSs (cxE (L2N.CX P w) P w K mg base N "_law_names" scope f cdv A outer s H E0) body t ∧ t { nx := fun _ H' => Q .non H', rt := Q } (L2.start N [.ref a1]) H
theorem names_ok {st : Stmt} {nm : List Str} (F : FnT K mg "_law_names" st ["e"]) (S : FnScope nm ["e"] (defScope st)) (hnm : nm.length = 5)
    (hder : ∀ (f : Addr) (cdv : Value) (A : Around) (outer : List Env) (s : Shared) (H : Hp) (B : Ent) (a1 : Addr) (o1 : Obj) (i : EC), Hnd A a1 o1 → Zc (.ref i.adr) none o1 → (∃ vs, o1.data = .fields vs) → B.F a1 = some (HotO a1 o1) →
      DSs (cxE (L2N.CX P w) P w K mg base nm "_law_names" (defScope st) f cdv A outer s H E0) B (defBody st) (t__law_names i a1)) : NamesOk P w K mg base := by
  obtain ⟨f, fd, h1, h2, h3⟩ := F.ex
  obtain ⟨oc, od, kV, doc, pm, an, cdv, ct, osl, rfl, lk, hcd⟩ := h2.ex
  refine ⟨f, _, _, _, _, _, _, _, _, _, _, _, _, _, nm, h1, h2.kp, lk, hcd, S, h3, fun i a1 o1 A outer s H Q hh hz ⟨F, μ, Qd, ok, hF, q, cl⟩ => ?_⟩
  refine ⟨_, hder f cdv A outer s H ⟨F, μ, H⟩ a1 o1 i hh hz (hh.dat.elim fun vs h => ⟨vs, h.1⟩) hF, F, _, μ, { nx := fun _ μ => Qd .non μ, rt := Qd }, Stp.refl, ok, RelS.start (N := nm) (ds := [.ref a1]) (.cons (rep_ref.mpr rfl) (reps_nil.mpr rfl)), ?_, ?_⟩
  · rw [show nm.length - [D.ref a1].length = 4 by simp [hnm]]
    exact pure__law_names i a1 μ Qd q
  · exact ⟨fun F1 ρ1 μ1 σ1 H1 s1 ok1 rs1 t1 => cl F1 _ μ1 _ H1 s1 ok1 (rep_non.mpr rfl) t1, cl, fun _ _ _ _ _ _ _ _ h => h.elim, fun _ _ _ _ _ _ _ _ h => h.elim⟩
end
/-! ### _law_error: what the call of a lambda ends in -/
def TTe (K : PySem.W.Frag) : (XK → Hp → VK → Prop) → Hp → VK → Prop := fun tl H Q => ∃ F μ Qd, Ok K F μ H ∧ Cl K F μ H Qd Q ∧ ∀ Qn : VK, (∀ v F' μ' H', Stp F μ H F' μ' H' → Ok K F' μ' H' → Qd (.str "") μ' → Qn v H') →
  tl (fun cls d H' => ∃ F' μ', Stp F μ H F' μ' H' ∧ Ok K F' μ' H' ∧ d = none ∧ ∃ i : EC, cls = .ref i.adr ∧ Qd (.str i.nm) μ') H Qn
theorem takesN {X : Cx} : L2N.Takes X (fun _ _ _ _ => False) := fun _ _ x => by
  obtain ⟨_, _, _, _, _, _, _, _, _, _, _, _, _, _, _, _, z⟩ := x
  exact z.elim
theorem err_gives {X : Cx} {Ng : List Str} {q : Str} {sg : Scope} {g : Addr} {cdg : Value} {j : Nat} {p1 p2 p3 p4 p5 p6 p7 p8 p9 p10 p11 p12 : Pos} (Er : Errs X.K) (Nm : NamesOk X.prog X.w X.K X.mg X.base)
    (hge : sg.names.lookup ("FuseError" : Str) = some .globalImplicit) (hgn : sg.names.lookup ("_law_names" : Str) = some .globalImplicit) (hle : sg.names.lookup ("e" : Str) = some .local) (hme : X.mg "FuseError" = some (.ref cC.FuseError)) (hN : Ng = (["call", "e"] : List Str))
    (hr : Room 2 X.A) :
    GivesToN X Ng "_law_error" sg g cdg [.Try [.Expr (.Call (.Name "call" p1) [] [] p2) p3] [.ExceptHandler (some (.Name "FuseError" p4)) (some "e") [.Return (some (.Call (.Name "_law_names" p5) [.Name "e" p6] [] p7)) p8] p9] [] [] p10, .Return (some (.Constant (.str "") j p11)) p12] "call" q (TTe X.K) := by
  intro f c' s H Q tl act hc ⟨F, μ, Qd, ok, cl, h⟩
  subst hN
  obtain ⟨fn, params, body, scope, dV, kV, doc, pm, cdv, ct, oc, an, od, osl, N, hmn, hkn, lkn, hcn, Sn, hbn, run⟩ := Nm.ex
  refine ⟨_, pss_cons (ps_try_asB (X := (cxOf C8.CX0 X.prog X.w X.K X.mg X.base ["call", "e"] "_law_error" sg g cdg X.A X.stack s H C8.E0).nox) (c := .ref cC.FuseError) (i := 1) (Wout := fun _ _ _ _ => False)
      (tb := fun W D σ H => ∃ Ech : XK, (∀ cls d σ' H', Ech cls d H' → W cls d σ' H') ∧ σ[0]? = some (some (.ref f)) ∧ H c' = some (LamX.CodeO c' q) ∧ tl Ech H (fun _ H' => D.nx σ H'))
      (ts := fun a cls d D σ H => (σ.length = 2 → σ[1]? = some (some (.ref a))) ∧ d = none ∧ ∃ F' μ' Qd, Ok X.K F' μ' H ∧ H a = none ∧ Cl X.K F' μ' H Qd D.rt ∧ ∃ i : EC, cls = .ref i.adr ∧ Qd (.str i.nm) μ')
      rfl rfl (show (["call", "e"] : List Str).Nodup by decide) rfl hle ⟨hge, by decide, .inl hme⟩ takesN (fun W pn xe tk _ => ?_) (fun a oe cls d pn hz hd hb => ?_)) (pss_one (ps_ret pe_str)), ?_⟩
  · refine ⟨fun pins s' σ H' D I h' => ?_⟩
    obtain ⟨Ech, hW, h1, h2, h3⟩ := h'
    have hp := act W pn xe Ech p1 p2 tk hW
    exact (pss_one (ps_expr (pos := p3) hp)).run pins s' σ H' D I ⟨h1, h2, h3⟩
  · refine ⟨fun pins s' σ H' D I h' => ?_⟩
    obtain ⟨h1, rfl, F', μ', Qd', ok', na, cl', i, rfl, q'⟩ := h'
    have hh : Hnd ((cxOf C8.CX0 X.prog X.w X.K X.mg X.base ["call", "e"] "_law_error" sg g cdg X.A X.stack s H C8.E0).nox.suite a ((a, oe) :: pn)).A a oe := ⟨rfl, by
      obtain ⟨vs, e⟩ := hd
      exact ⟨vs, e, hz.2.2 vs e⟩⟩
    have hr' := roomH_of (hr.deeper (envOfC "_law_error" sg s.heap.objs.size g cdg))
    have hpe := pe_hot (X := (cxOf C8.CX0 X.prog X.w X.K X.mg X.base ["call", "e"] "_law_error" sg g cdg X.A X.stack s H C8.E0).nox.suite a ((a, oe) :: pn)) (CX := L2N.CX X.prog X.w) (k := 0) (TT := TTn X.K i a oe) (q := p5) (pos := p7)
      hh List.mem_cons_self (fun _ _ _ _ z => by obtain ⟨_, _, _, _, _, _, _, _, _, _, _, _, z⟩ := z; exact z.elim) hb hgn hmn hkn lkn hcn Sn hbn ⟨hr'.dp, hr'.un⟩ (fun A outer s H Q hA _ _ hT => run i a oe A outer s H Q hA hz.zc hT) (pe_var (X := (cxOf C8.CX0 X.prog X.w X.K X.mg X.base ["call", "e"] "_law_error" sg g cdg X.A X.stack s H C8.E0).nox.suite a ((a, oe) :: pn)) (pos := p6) (i := 1) (x := "e") rfl (.inl hle) (by decide) (by decide))
    refine (pss_one (ps_ret (pos := p8) hpe)).run pins s' σ H' D I ?_
    refine ⟨_, h1 I.len, rfl, upd F' a (HotO a oe), μ', Qd', ok'.frozen na (fun ps z => by unfold HotO at z; cases z), upd_same, q', fun F2 d μ2 v H2 s2 ok2 r2 q2 => ?_⟩
    have hF2 : F2 a = some (HotO a oe) := s2.s _ _ upd_same
    exact ⟨ok2.sub _ _ hF2, cl' (delH F2 a) d μ2 v (delH H2 a) (Stp.del (ok'.freeF na) na s2) (ok2.del hF2) (r2.monoX (sameX_del hF2)) q2⟩
  · refine ⟨_, ?_, rfl, hc, h _ fun v F' μ' H' s' ok' q' => ?_⟩
    · rintro cls d σ' H' ⟨F', μ', s', ok', rfl, i, rfl, q'⟩
      refine ⟨true, Er.fus i, fun _ a na => ⟨fun hl => List.getElem?_set_self (by rw [List.length_set] at hl; omega), rfl, F', μ', Qd, ok', na, cl.mono s', i, rfl, q'⟩, fun z => by cases z⟩
    · exact cl F' _ μ' _ H' s' ok' (rep_str.mpr rfl) q'
end Li

set_option Elab.async false
set_option linter.all false
set_option maxRecDepth 100000
set_option maxHeartbeats 2000000
/-! x(lambda: ..) for _law_error; defs that make lambdas. -/
namespace Li
open PySem PySem.Spec PyProof.Rows L2 HotX L2H
variable [Tbl] [cC : Cls]
/-- what the text holds: the def x, that makes lambdas -/
structure FnTL (K : PySem.W.Frag) (mg : Str → Option Value) (base : Heap) (x : Str) (st : Stmt) (ps : List Str) (q : Str) : Prop where
  ex : ∃ f fd c P, mg x = some (.ref f) ∧ Fun K x x st f fd ∧ Binds K fd ps [] ∧ fd.code = .ref c ∧ LamX.TabB base mg c P ∧ (P, q) ∈ Tbl.T ∧ ∀ p ∈ Tbl.T, p.1 = P → p.2 = q
structure ErrText (K : PySem.W.Frag) (mg : Str → Option Value) : Prop where
  ex : ∃ (g : Addr) (params : Arguments) (scope : Scope) (dV kV doc pm cdv ct oc : Value) (an od : Option Addr) (osl : Array (Option Value)) (j : Nat) (p1 p2 p3 p4 p5 p6 p7 p8 p9 p10 p11 p12 : Pos),
    mg "_law_error" = some (.ref g) ∧ PySem.W.keepIn K (.ref g) = true ∧ K.lookup g = some ⟨oc, od, .func (PySem.W.fnOf "_law_error" "_law_error" params [.Try [.Expr (.Call (.Name "call" p1) [] [] p2) p3] [.ExceptHandler (some (.Name "FuseError" p4)) (some "e") [.Return (some (.Call (.Name "_law_names" p5) [.Name "e" p6] [] p7)) p8] p9] [] [] p10, .Return (some (.Constant (.str "") j p11)) p12] scope dV kV doc pm an cdv ct), osl⟩ ∧
    PySem.W.codeIn K cdv "_law_error" = true ∧ L2.Binds K (PySem.W.fnOf "_law_error" "_law_error" params [.Try [.Expr (.Call (.Name "call" p1) [] [] p2) p3] [.ExceptHandler (some (.Name "FuseError" p4)) (some "e") [.Return (some (.Call (.Name "_law_names" p5) [.Name "e" p6] [] p7)) p8] p9] [] [] p10, .Return (some (.Constant (.str "") j p11)) p12] scope dV kV doc pm an cdv ct) ["call"] [] ∧
    FnScope ["call", "e"] ["call"] scope ∧ scope.names.lookup ("FuseError" : Str) = some .globalImplicit ∧ scope.names.lookup ("_law_names" : Str) = some .globalImplicit ∧ scope.names.lookup ("e" : Str) = some .local ∧ mg "FuseError" = some (.ref cC.FuseError)
theorem errText_of {K : PySem.W.Frag} {mg : Str → Option Value} {st : Stmt} {j : Nat} {p1 p2 p3 p4 p5 p6 p7 p8 p9 p10 p11 p12 : Pos} (F : FnT K mg "_law_error" st ["call"]) (S : FnScope ["call", "e"] ["call"] (defScope st))
    (hb : defBody st = [.Try [.Expr (.Call (.Name "call" p1) [] [] p2) p3] [.ExceptHandler (some (.Name "FuseError" p4)) (some "e") [.Return (some (.Call (.Name "_law_names" p5) [.Name "e" p6] [] p7)) p8] p9] [] [] p10, .Return (some (.Constant (.str "") j p11)) p12])
    (h1 : (defScope st).names.lookup ("FuseError" : Str) = some .globalImplicit) (h2 : (defScope st).names.lookup ("_law_names" : Str) = some .globalImplicit) (h3 : (defScope st).names.lookup ("e" : Str) = some .local) (h4 : mg "FuseError" = some (.ref cC.FuseError)) : ErrText K mg := by
  obtain ⟨f, fd, e1, e2, e3⟩ := F.ex
  have kp := e2.kp
  obtain ⟨oc, od, kV, doc, pm, an, cdv, ct, osl, rfl, lk, hcd⟩ := e2.ex
  rw [hb] at lk e3
  exact ⟨f, _, _, _, _, _, _, _, _, _, _, _, _, j, p1, p2, p3, p4, p5, p6, p7, p8, p9, p10, p11, p12, e1, kp, lk, hcd, e3, S, h1, h2, h3, h4⟩
def dErr (r : DXK → DTE) : DTE := fun ρ μ Q => r (fun cls x μ' => x = none ∧ ∃ i : EC, cls = .ref i.adr ∧ Q (.str i.nm) μ') ρ μ fun _ μ' => Q (.str "") μ'
theorem de_err {X : Cx} {B : Ent} {k : Nat} {c P : Addr} {params : Arguments} {body : Expr} {scope : Scope} {r : DXK → DTE} {p lpos pos : Pos} (Er : Errs X.K) (Nm : NamesOk X.prog X.w X.K X.mg X.base) (Te : ErrText X.K X.mg) (hg : Gl X "_law_error")
    (hcode : X.env.code = .ref c) (TB : LamX.TabB X.base X.mg c P) (hmT : (P, X.env.qual ++ "<lambda>") ∈ Tbl.T) (hu : ∀ p ∈ Tbl.T, p.1 = P → p.2 = X.env.qual ++ "<lambda>") (hr : Room (k + 2) X.A)
    (L : LamX.LamS X.env.scope scope) (hdef : defaultsOf params X.env = ([], [])) (hbind : ∀ (q : Str) (cl : List (Str × Addr)) (pm cv ctv : Value), bindArgs (PySem.W.kla_fn "<lambda>" q params body scope cl pm cv ctv) ⟨[], []⟩ = pure [])
    (hder : ∀ (A : Around) (outer : List Env) (s : Shared) (H : Hp) (E : XK) (f c' : Addr) (B' : Ent) (Ed : DXK), Room k (A.deeper (LamX.lamEnv X scope s.heap.objs.size f c')) → ClE X.K B'.F B'.μ B'.H Ed E → Passes (L2N.CX X.prog X.w) (lamCxN X A outer s H E scope f c') E →
      DE (lamCxN X A outer s H E scope f c') B' body (r Ed)) :
    DE X B (.Call (.Name "_law_error" p) [.Lambda params body scope lpos] [] pos) (dErr r) := by
  obtain ⟨g, pg, sg, dV, kV, doc, pm, cdv, ct, oc, an, od, osl, j, p1, p2, p3, p4, p5, p6, p7, p8, p9, p10, p11, p12, hm, hk, lk, hcg, hb, Sg, h1, h2, h3, h4⟩ := Te.ex
  have hva : Vis sg ("call" : Str) := (Sg.par "call" (by simp)).elim Or.inl fun q => .inr (.inl q)
  refine PE.by (pe_lamcallN (T := Tbl.T) (TT := TTe X.K) (k := k) (a := "call") (t := fun E σ H Q => ∃ B' Ed, ClE X.K B'.F B'.μ B'.H Ed E ∧ LE X.K B' (r Ed) σ H Q) hg hm hk lk hcg hb Sg rfl hva
    (err_gives Er Nm h1 h2 h3 h4 rfl (hr.mono (by omega))) TB hcode hmT hu hr L hdef hbind (fun A outer s H E f c' hr' => ⟨fun pins s' σ H' Q I ⟨B', Ed, hE, h⟩ => ?_⟩)) fun σ H Q ⟨F, ρ, μ, Qd, sB, ok, rs, t, cl⟩ => ?_
  · refine (hder A outer s H E f c' B' Ed hr' hE ?_).run pins s' σ H' Q I h
    exact L2N.passes_call (L2N.takes_of (X := lamCxN X A outer s H E scope f c') rfl rfl rfl rfl) fun _ _ _ _ h => h
  · refine ⟨ok.tab, fun H1 eN T1 => ?_⟩
    have st1 : Stp F μ H F μ H1 := ⟨Same.refl F, fun b o h n m => ⟨eN b o h n, m, id⟩⟩
    have ok1 : Ok X.K F μ H1 := by
      refine ⟨fun b u q => eN b u (ok.sub b u q) fun ps z => ok.ntb b ps (by rw [q, z]), fun a ds e => ?_, fun a C fs e => ?_, T1, ok.ntb⟩
      · obtain ⟨h1, vs, h2, h3⟩ := ok.lst a ds e
        exact ⟨h1, vs, eN _ _ h2 (fun ps z => by cases z), h3⟩
      · obtain ⟨h1, dx, vfs, h2, h3⟩ := ok.ins a C fs e
        exact ⟨h1, dx, vfs, eN _ _ h2 (fun ps z => by cases z), h3⟩
    refine ⟨F, μ, Qd, ok1, cl.mono st1, fun Qn hQn => ⟨⟨F, μ, H1⟩, _, ?_, F, ρ, μ, _, Stp.refl, ok1, rs, t, fun F2 d μ2 v H2 s2 ok2 r2 q2 => hQn v F2 μ2 H2 s2 ok2 q2⟩⟩
    rintro F' cls x μ' od H' s' ok' rx ⟨rfl, i, rfl, q⟩
    refine ⟨F', μ', s', ok', ?_, i, rfl, q⟩
    cases od with
    | none => rfl
    | some d => exact rx.elim
section
variable {P : Program} {w : World} {K : PySem.W.Frag} {mg : Str → Option Value} {base : Heap}
theorem fnxL_of {x : Str} {st : Stmt} {N ps : List Str} {k : Nat} {dsp : DSp} {q : Str} {t : DXK → DTS} (F : FnTL K mg base x st ps q) (S : FnScope N ps (defScope st)) (len : ∀ ds μ Q E, dsp ds μ Q E → ds.length = ps.length)
    (hbody : ∀ (f : Addr) (c Pt : Addr), LamX.TabB base mg c Pt → (Pt, q) ∈ Tbl.T → (∀ p ∈ Tbl.T, p.1 = Pt → p.2 = q) → ∀ (A : Around) (outer : List Env) (s : Shared) (H : Hp) (E : XK) (B : Ent) (Ed : DXK), Room k (A.deeper (envOfC x (defScope st) s.heap.objs.size f (.ref c))) → ClE K B.F B.μ B.H Ed E →
      L2N.Takes (cxOf (L2N.CX P w) P w K mg base N x (defScope st) f (.ref c) A outer s H E) (fun cls d _ H => E cls d H) →
      Passes (L2N.CX P w) (cxOf (L2N.CX P w) P w K mg base N x (defScope st) f (.ref c) A outer s H E) E →
      PassesOwn (model P w) (A.deeper (envOfC x (defScope st) s.heap.objs.size f (.ref c))) (envOfC x (defScope st) s.heap.objs.size f (.ref c)) (cxOf (L2N.CX P w) P w K mg base N x (defScope st) f (.ref c) A outer s H E).xe →
      (A.deeper (envOfC x (defScope st) s.heap.objs.size f (.ref c))).units + 65 < cLine →
      DSs (cxOf (L2N.CX P w) P w K mg base N x (defScope st) f (.ref c) A outer s H E) B (defBody st) (t Ed))
    (hpure : ∀ ds μ Q Ed, dsp ds μ Q Ed → t Ed { nx := fun _ μ => Q .non μ, rt := Q } (dstart N ds) μ) : FnX P w K mg base x (k + 1) ps dsp := by
  obtain ⟨f, fd, c, Pt, h1, h2, h3, h4, h5, h6, h7⟩ := F.ex
  have kp := h2.kp
  refine ⟨f, fd, h1, kp, h3, ?_⟩
  obtain ⟨oc, od, kV, doc, pm, an, cdv, ct, osl, rfl, lk, hcd⟩ := h2.ex
  obtain rfl : cdv = .ref c := h4
  exact dfn_of' lk hcd S len (hbody f c Pt h5 h6 h7) hpure
end
end Li

set_option Elab.async false
set_option linter.all false
set_option maxRecDepth 100000
set_option maxHeartbeats 2000000
/-! Tuples of any depth that a module's name holds; several defs with lambdas. -/
namespace Li
open PySem PySem.Spec PyProof.Rows L2
mutual
def valB (K : PySem.W.Frag) : D → Value → Bool
  | .bl b, .bool c => b == c
  | .int i, .int j _ => i == j
  | .str x, .str y _ => x == y
  | .tup ds, .ref a => match K.lookup a with
    | some ⟨.type c, _, .seq its _, _⟩ => decide (c = "tuple") && (decide (its.size ≤ 1000) && valsB K ds its.toList)
    | _ => false
  | _, _ => false
def valsB (K : PySem.W.Frag) : List D → List Value → Bool
  | [], [] => true
  | d :: ds, v :: vs => valB K d v && valsB K ds vs
  | _, _ => false
end
mutual
theorem valB_ok {K : PySem.W.Frag} : ∀ (d : D) (u : Value), valB K d u = true → ∃ v, RelV v u ∧ ∀ F, Rep K F d v
  | .bl b, u, h => by
    cases u with
    | bool c =>
      simp only [valB] at h
      have := eq_of_beq h
      exact ⟨.bl b, by rw [this]; rfl, fun F => rep_bl.mpr rfl⟩
    | _ => simp [valB] at h
  | .int i, u, h => by
    cases u with
    | int j t =>
      simp only [valB] at h
      have := eq_of_beq h
      subst this
      exact ⟨.int i, ⟨_, rfl⟩, fun F => rep_int.mpr rfl⟩
    | _ => simp [valB] at h
  | .str x, u, h => by
    cases u with
    | str y t =>
      simp only [valB] at h
      have := eq_of_beq h
      subst this
      exact ⟨.str x, ⟨_, rfl⟩, fun F => rep_str.mpr rfl⟩
    | _ => simp [valB] at h
  | .tup ds, u, h => by
    cases u with
    | ref a =>
      simp only [valB] at h
      split at h
      · rename_i c od its n sl el
        simp only [Bool.and_eq_true, decide_eq_true_eq] at h
        obtain ⟨rfl, h2, h3⟩ := h
        obtain ⟨vs, r1, r2⟩ := valsB_ok ds its.toList h3
        exact ⟨.ref a, rfl, fun F => rep_tup.mpr ⟨a, vs, rfl, .inr ⟨_, its, _, el, rfl, rfl, Nat.le_trans h2 (by rw [sizeLine_eq]; decide), r1⟩, r2 F⟩⟩
      · cases h
    | _ => simp [valB] at h
  | .non, u, h => by simp [valB] at h
  | .lst _, u, h => by simp [valB] at h
  | .ref _, u, h => by simp [valB] at h
  | .ty _, u, h => by simp [valB] at h
  | .scr _, u, h => by simp [valB] at h
theorem valsB_ok {K : PySem.W.Frag} : ∀ (ds : List D) (us : List Value), valsB K ds us = true → ∃ vs, Vals vs us ∧ ∀ F, Reps K F ds vs
  | [], [], _ => ⟨[], .nil, fun F => reps_nil.mpr rfl⟩
  | d :: ds, u :: us, h => by
    unfold valsB at h
    obtain ⟨h1, h2⟩ := Bool.and_eq_true_iff.mp h
    obtain ⟨v, r1, r2⟩ := valB_ok d u h1
    obtain ⟨vs, r3, r4⟩ := valsB_ok ds us h2
    exact ⟨v :: vs, .cons r1 r3, fun F => .cons (r2 F) (r4 F)⟩
  | [], u :: us, h => by unfold valsB at h; cases h
  | d :: ds, [], h => by unfold valsB at h; cases h
end
theorem glb_of {K : PySem.W.Frag} {mg : Str → Option Value} {x : Str} {d : D} (h : valB K d (.ref (He.ga K x)) = true) (g : mg x = some (.ref (He.ga K x))) : Glb K mg x d := by
  obtain ⟨v, r1, r2⟩ := valB_ok d _ h
  exact ⟨v, _, g, r1, r2⟩
def distB (K : PySem.W.Frag) (ds : List He.Defn) : Bool := decide ((ds.map fun d => (He.cT K d).2).Nodup)
theorem tab_uniq {α β : Type} {f : α → β} {xs : List α} (h : (xs.map f).Nodup) {x y : α} (hx : x ∈ xs) (hy : y ∈ xs) (e : f x = f y) : x = y := by
  induction xs with
  | nil => cases hx
  | cons z zs ih =>
    rw [List.map_cons, List.nodup_cons] at h
    rcases List.mem_cons.mp hx with h1 | h1 <;> rcases List.mem_cons.mp hy with h2 | h2
    · rw [h1, h2]
    · exact absurd (by rw [← h1, e]; exact List.mem_map_of_mem h2) h.1
    · exact absurd (by rw [← h2, ← e]; exact List.mem_map_of_mem h1) h.1
    · exact ih h.2 h1 h2
section
variable [Tbl] [cC : Cls] {P : Program} {w : World} {K : PySem.W.Frag} {mg : Str → Option Value} {base : Heap}
theorem dfnL_of {x : Str} {st : Stmt} {N ps : List Str} {k : Nat} {dsp : DSp} {q : Str} {t : DXK → DTS} {f : Addr} {fd : FuncData} {c Pt : Addr} (h2 : Fun K x x st f fd) (h4 : fd.code = .ref c) (h5 : LamX.TabB base mg c Pt) (h6 : (Pt, q) ∈ Tbl.T) (h7 : ∀ p ∈ Tbl.T, p.1 = Pt → p.2 = q) (S : FnScope N ps (defScope st)) (len : ∀ ds μ Q E, dsp ds μ Q E → ds.length = ps.length)
    (hbody : ∀ (f : Addr) (c Pt : Addr), LamX.TabB base mg c Pt → (Pt, q) ∈ Tbl.T → (∀ p ∈ Tbl.T, p.1 = Pt → p.2 = q) → ∀ (A : Around) (outer : List Env) (s : Shared) (H : Hp) (E : XK) (B : Ent) (Ed : DXK), Room k (A.deeper (envOfC x (defScope st) s.heap.objs.size f (.ref c))) → ClE K B.F B.μ B.H Ed E →
      L2N.Takes (cxOf (L2N.CX P w) P w K mg base N x (defScope st) f (.ref c) A outer s H E) (fun cls d _ H => E cls d H) →
      Passes (L2N.CX P w) (cxOf (L2N.CX P w) P w K mg base N x (defScope st) f (.ref c) A outer s H E) E →
      PassesOwn (model P w) (A.deeper (envOfC x (defScope st) s.heap.objs.size f (.ref c))) (envOfC x (defScope st) s.heap.objs.size f (.ref c)) (cxOf (L2N.CX P w) P w K mg base N x (defScope st) f (.ref c) A outer s H E).xe →
      (A.deeper (envOfC x (defScope st) s.heap.objs.size f (.ref c))).units + 65 < cLine →
      DSs (cxOf (L2N.CX P w) P w K mg base N x (defScope st) f (.ref c) A outer s H E) B (defBody st) (t Ed))
    (hpure : ∀ ds μ Q Ed, dsp ds μ Q Ed → t Ed { nx := fun _ μ => Q .non μ, rt := Q } (dstart N ds) μ) : DFn P w K mg base (k + 1) f fd ps dsp := by
  obtain ⟨oc, od, kV, doc, pm, an, cdv, ct, osl, rfl, lk, hcd⟩ := h2.ex
  obtain rfl : cdv = .ref c := h4
  exact dfn_of' lk hcd S len (hbody f c Pt h5 h6 h7) hpure
end
/-- the law's own def, with a table of its own -/
theorem lawL_of {K : PySem.W.Frag} {x : Str} {st : Stmt} {f : Addr} {fd : FuncData} {kws : List (Str × V)} (F : FunD K x x (defArgs st) (defBody st) (defScope st) [] kws f fd) (hf : f = He.fAd K (x, none)) : Fun K x x st f fd ∧ fd.code = .ref (He.cT K (x, none)).1 := by
  have kp := F.kp
  obtain ⟨oc, od, dV, kV, doc, pm, an, cdv, ct, osl, rfl, lk, hcd, hD, hK⟩ := F.ex
  rcases hD with ⟨_, rfl⟩ | ⟨e, _⟩
  · obtain ⟨c, rfl⟩ := He.codeIn_ref hcd
    have e : He.codeOf K (x, none) = c := He.codeOf_eq (by rw [← hf]; exact lk) rfl
    have : (He.cT K (x, none)).1 = c := e
    exact ⟨⟨⟨oc, od, kV, doc, pm, an, .ref c, ct, osl, rfl, lk, hcd⟩, kp⟩, by rw [this]⟩
  · exact absurd rfl e
end Li

set_option Elab.async false
set_option linter.all false
set_option maxRecDepth 100000
set_option maxHeartbeats 2000000
/-! What a head tells, turned to what the readings ask. -/
namespace Li
open PySem PySem.Spec PyProof.Rows L2
abbrev clsK (K : PySem.W.Frag) : Cls := ⟨He.ga K "FuseError", He.ga K "InvalidScript", He.ga K "InvalidFuses", He.ga K "InvalidMinutes", He.ga K "InvalidIndex", He.ga K "InvalidSide", He.ga K "InvalidTimes", He.ga K "InvalidFacts", He.ga K "InvalidNumber", He.ga K "NothingToUndo", He.ga K "TooMany", He.ga K "InvalidText"⟩
def EC.cls : EC → Str
  | .script => "InvalidScript"
  | .fuses => "InvalidFuses"
  | .minutes => "InvalidMinutes"
  | .index => "InvalidIndex"
  | .side => "InvalidSide"
  | .times => "InvalidTimes"
  | .facts => "InvalidFacts"
  | .number => "InvalidNumber"
  | .undo => "NothingToUndo"
  | .many => "TooMany"
  | .text => "InvalidText"
def allEC : List EC := [.script, .fuses, .minutes, .index, .side, .times, .facts, .number, .undo, .many, .text]
theorem mem_allEC : ∀ i : EC, i ∈ allEC := fun i => by cases i <;> decide
def excB (K : PySem.W.Frag) (D : Addr) : Bool :=
  decide (PySem.W.findIn K (.ref D) "__getattribute__" = some (some (.builtin "BaseException.__getattribute__"))) && (decide (PySem.W.findIn K (.ref D) "__getattr__" = some none) && (decide (PySem.W.subIn K (.ref D) (.type "BaseException") = some true) &&
  (PySem.W.hasDictIn K D && (decide (PySem.W.findIn K (.ref D) "__class__" = some (some (.builtin "object.__class__"))) && (decide (PySem.W.specialIn K (.builtin "object.__class__") "__get__" = some (some (.builtin "getset_descriptor.__get__"))) &&
  (decide (PySem.W.takesIn K (.builtin "object.__class__") = some true) && decide (PySem.W.mroIn K D (.type "object") = some true)))))))
theorem excB_ok {K : PySem.W.Frag} {D : Addr} (h : excB K D = true) : ExcC K D := by
  unfold excB at h
  simp only [Bool.and_eq_true, decide_eq_true_eq] at h
  obtain ⟨h1, h2, h3, h4, h5, h6, h7, h8⟩ := h
  exact ⟨h1, h2, h3, h4, h5, h6, h7, h8⟩
def errsB (K : PySem.W.Frag) : Bool := allEC.all fun i => excB K (He.ga K i.cls) && (decide (PySem.W.kitOne K (.ref (He.ga K i.cls)) (.type "ValueError") = some true) && (decide (PySem.W.exmOne K (.ref (He.ga K i.cls)) (.ref (He.ga K "FuseError")) = some true) &&
  allEC.all fun j => decide (PySem.W.kitOne K (.ref (He.ga K i.cls)) (.ref (He.ga K j.cls)) = some (decide (i = j)))))
theorem adr_eq {K : PySem.W.Frag} (i : EC) : @EC.adr (clsK K) i = He.ga K i.cls := by cases i <;> rfl
theorem errsB_ok {K : PySem.W.Frag} (h : errsB K = true) : @Errs (clsK K) K := by
  have key : ∀ i : EC, ExcC K (He.ga K i.cls) ∧ PySem.W.kitOne K (.ref (He.ga K i.cls)) (.type "ValueError") = some true ∧ PySem.W.exmOne K (.ref (He.ga K i.cls)) (.ref (He.ga K "FuseError")) = some true ∧ ∀ j : EC, PySem.W.kitOne K (.ref (He.ga K i.cls)) (.ref (He.ga K j.cls)) = some (decide (i = j)) := fun i => by
    have h1 := List.all_eq_true.mp h i (mem_allEC i)
    simp only [Bool.and_eq_true, decide_eq_true_eq] at h1
    obtain ⟨h1, h2, h3, h4⟩ := h1
    exact ⟨excB_ok h1, h2, h3, fun j => of_decide_eq_true (List.all_eq_true.mp h4 j (mem_allEC j))⟩
  refine @Errs.mk (clsK K) K (fun i => ?_) (fun i j => ?_) (fun i => ?_) fun i => ?_
  · rw [adr_eq]; exact (key i).1
  · rw [adr_eq, adr_eq]; exact (key i).2.2.2 j
  · rw [adr_eq]; exact (key i).2.1
  · rw [adr_eq]; exact (key i).2.2.1
/-- a module's name holds a tuple of texts -/
def tupB (K : PySem.W.Frag) (x : Str) (ws : List Str) : Bool := match K.lookup (He.ga K x) with
  | some ⟨.type c, _, .seq its _, _⟩ => decide (c = "tuple") && (decide (its.size ≤ 1000) && ((its.toList.map fun v => match v with | .str z _ => some z | _ => none) == ws.map some))
  | _ => false
theorem funT_of {K : PySem.W.Frag} {mg : Str → Option Value} {x : Str} {st : Stmt} {ps : List Str} {f : Addr} {fd : FuncData} {kws : List (Str × V)} (g : mg x = some (.ref f)) (F : FunD K x x (defArgs st) (defBody st) (defScope st) [] kws f fd)
    (h : ∀ (kV doc pm : Value) (an : Option Addr) (cdv ct : Value) (us : List Value), us.length = ps.length → bindArgs (PySem.W.fnOf x x (defArgs st) (defBody st) (defScope st) .none kV doc pm an cdv ct) ⟨us, []⟩ = pure (ps.zip us)) : FnT K mg x st ps := by
  have kp := F.kp
  have b := F.bindsN h
  obtain ⟨oc, od, dV, kV, doc, pm, an, cdv, ct, osl, rfl, lk, hcd, hD, hK⟩ := F.ex
  rcases hD with ⟨_, rfl⟩ | ⟨e, _⟩
  · exact ⟨f, _, g, ⟨⟨oc, od, kV, doc, pm, an, cdv, ct, osl, rfl, lk, hcd⟩, kp⟩, b⟩
  · exact absurd rfl e
end Li
namespace Li
open PySem PySem.Spec PyProof.Rows L2
theorem vals_strs : ∀ (ws : List Str) (vs : List Value), (vs.map fun v => match v with | .str z _ => some z | _ => none) = ws.map some → Vals (ws.map V.str) vs
  | [], [], _ => .nil
  | [], v :: vs, h => by simp at h
  | w :: ws, [], h => by simp at h
  | w :: ws, v :: vs, h => by
    rw [List.map_cons, List.map_cons] at h
    injection h with h1 h2
    refine .cons ?_ (vals_strs ws vs h2)
    cases v with
    | str z t => cases h1; exact ⟨t, rfl⟩
    | _ => cases h1
theorem tupB_ok [Tbl] {K : PySem.W.Frag} {mg : Str → Option Value} {x : Str} {ws : List Str} (h : tupB K x ws = true) (g : mg x = some (.ref (He.ga K x))) : Glb K mg x (.tup (ws.map D.str)) := by
  unfold tupB at h
  split at h
  · rename_i c od its n sl e
    simp only [Bool.and_eq_true, decide_eq_true_eq, beq_iff_eq] at h
    obtain ⟨rfl, h2, h3⟩ := h
    exact ⟨.ref (He.ga K x), .ref (He.ga K x), g, rfl, fun F => rep_tup.mpr ⟨He.ga K x, ws.map V.str, rfl, .inr ⟨_, its, _, e, rfl, rfl, Nat.le_trans h2 (by rw [sizeLine_eq]; decide), vals_strs ws _ h3⟩, reps_strs ws⟩⟩
  · cases h
theorem glbInt {K : PySem.W.Frag} {mg : Str → Option Value} {x : Str} {i : Int} (h : ∃ t, mg x = some (.int i t)) : Glb K mg x (.int i) := by
  obtain ⟨t, e⟩ := h
  exact ⟨.int i, .int i t, e, ⟨t, rfl⟩, fun F => rep_int.mpr rfl⟩
theorem xcls_of {K : PySem.W.Frag} {h : Heap} {mg : Str → Option Value} (X : K.In h) (G : h.Ns mainGlobals mg) {x : Str} (c1 : (He.Fa.glo x).ok K = true) (c2 : (He.Fa.exc x).ok K = true) : XCls K mg x (He.ga K x) := by
  obtain ⟨h1, h2, h3, h4⟩ := He.exc_ok c2
  exact ⟨He.glo_ok X G c1, h1, h2, h3, h4⟩
end Li
namespace Li
open PySem PySem.Spec PyProof.Rows L2
theorem funTL_of [Tbl] {K : PySem.W.Frag} {mg : Str → Option Value} {base : Heap} {x q : Str} {st : Stmt} {ps : List Str} {f : Addr} {fd : FuncData} {kws : List (Str × V)} (g : mg x = some (.ref f)) (F : FunD K x x (defArgs st) (defBody st) (defScope st) [] kws f fd)
    (h : ∀ (kV doc pm : Value) (an : Option Addr) (cdv ct : Value) (us : List Value), us.length = ps.length → bindArgs (PySem.W.fnOf x x (defArgs st) (defBody st) (defScope st) .none kV doc pm an cdv ct) ⟨us, []⟩ = pure (ps.zip us))
    (TB : LamX.TabB base mg (He.cT K (x, none)).1 (He.cT K (x, none)).2) (hf : f = He.fAd K (x, none)) (hT : ((He.cT K (x, none)).2, q) ∈ Tbl.T) (hu : ∀ p ∈ Tbl.T, p.1 = (He.cT K (x, none)).2 → p.2 = q) : FnTL K mg base x st ps q := by
  have kp := F.kp
  have b := F.bindsN h
  obtain ⟨oc, od, dV, kV, doc, pm, an, cdv, ct, osl, rfl, lk, hcd, hD, hK⟩ := F.ex
  rcases hD with ⟨_, rfl⟩ | ⟨e, _⟩
  · obtain ⟨c, rfl⟩ := He.codeIn_ref hcd
    have e : He.codeOf K (x, none) = c := He.codeOf_eq (by rw [← hf]; exact lk) rfl
    refine ⟨f, _, c, (He.cT K (x, none)).2, g, ⟨⟨oc, od, kV, doc, pm, an, .ref c, ct, osl, rfl, lk, hcd⟩, kp⟩, b, rfl, ?_, hT, hu⟩
    have : (He.cT K (x, none)).1 = c := e
    rw [← this]
    exact TB
  · exact absurd rfl e
end Li
namespace Li
open PySem PySem.Spec PyProof.Rows L2
theorem law_start [Tbl] {K : PySem.W.Frag} {H : Hp} {a : Addr} {ns : List Int} {sp : DSp} (hS : SqL K H a (ns.map V.int)) (hT : LamX.Tabs Tbl.T H) (h : ∀ (Qd : DK), (∀ μ', Qd (.bl true) μ') → sp [.scr ns] (fun _ => none) Qd noX) : LSp K sp [.ref a] H (fun v _ => v = .bl true) fun _ _ _ => False := by
  have fin : ∀ F : Hp, Same F H → (∀ b ps, F b ≠ some (.tbl ps)) → SqL K F a (ns.map V.int) → LSp K sp [.ref a] H (fun v _ => v = .bl true) fun _ _ _ => False := fun F hs hn hq =>
    ⟨F, fun _ => none, [.scr ns], fun d _ => d = .bl true, noX, ⟨hs, (fun _ _ e => nomatch e), (fun _ _ _ e => nomatch e), hT, hn⟩, .cons (rep_scr.mpr ⟨a, rfl, hq⟩) (reps_nil.mpr rfl), h _ fun _ => rfl,
      fun F' d μ' v H' _ _ r q => by subst q; exact rep_bl.mp r, fun _ _ _ _ _ _ _ _ _ z => z.elim⟩
  rcases hS with (e | ⟨o, e⟩) | e
  · refine fin (upd (fun _ => none) a (.lst (ns.map V.int))) (fun b u q => ?_) (fun b ps z => ?_) (.inl (.inl upd_same))
    · by_cases hb : b = a
      · subst hb; rw [upd_same] at q; cases q; exact e
      · rw [upd_ne hb] at q; cases q
    · by_cases hb : b = a
      · subst hb; rw [upd_same] at z; cases z
      · rw [upd_ne hb] at z; cases z
  · refine fin (upd (fun _ => none) a (.frz o (.lst (ns.map V.int)))) (fun b u q => ?_) (fun b ps z => ?_) (.inl (.inr ⟨o, upd_same⟩))
    · by_cases hb : b = a
      · subst hb; rw [upd_same] at q; cases q; exact e
      · rw [upd_ne hb] at q; cases q
    · by_cases hb : b = a
      · subst hb; rw [upd_same] at z; cases z
      · rw [upd_ne hb] at z; cases z
  · exact fin (fun _ => none) (fun b u q => by cases q) (fun b ps z => by cases z) (.inr e)
end Li

set_option Elab.async false
set_option linter.all false
set_option maxRecDepth 100000
set_option maxHeartbeats 0
namespace Li
open PySem PySem.Spec PyProof.Rows L2
abbrev topS (i : Nat) : Stmt := PySem.Challenge.pw_litinmidst_k19_errors_in_order.main.body.getD i (.Pass ⟨0, 0, 0, 0⟩)
def dd__law_vat : He.DefD := ⟨("_law_vat", none), "_law_vat", "_law_vat", defArgs (topS 126), defBody (topS 126), defScope (topS 126), [], []⟩
def dd__law_under : He.DefD := ⟨("_law_under", none), "_law_under", "_law_under", defArgs (topS 127), defBody (topS 127), defScope (topS 127), [], []⟩
def dd__law_some : He.DefD := ⟨("_law_some", none), "_law_some", "_law_some", defArgs (topS 128), defBody (topS 128), defScope (topS 128), [], []⟩
def dd__law_any_step : He.DefD := ⟨("_law_any_step", none), "_law_any_step", "_law_any_step", defArgs (topS 130), defBody (topS 130), defScope (topS 130), [], []⟩
def dd__law_script : He.DefD := ⟨("_law_script", none), "_law_script", "_law_script", defArgs (topS 131), defBody (topS 131), defScope (topS 131), [], []⟩
def dd_is_whole : He.DefD := ⟨("is_whole", none), "is_whole", "is_whole", defArgs (topS 18), defBody (topS 18), defScope (topS 18), [], []⟩
def dd_is_word : He.DefD := ⟨("is_word", none), "is_word", "is_word", defArgs (topS 22), defBody (topS 22), defScope (topS 22), [], []⟩
def dd_is_step : He.DefD := ⟨("is_step", none), "is_step", "is_step", defArgs (topS 24), defBody (topS 24), defScope (topS 24), [], []⟩
def dd_are_steps : He.DefD := ⟨("are_steps", none), "are_steps", "are_steps", defArgs (topS 25), defBody (topS 25), defScope (topS 25), [], []⟩
def dd_is_fuses : He.DefD := ⟨("is_fuses", none), "is_fuses", "is_fuses", defArgs (topS 23), defBody (topS 23), defScope (topS 23), [], []⟩
def dd_spots_of : He.DefD := ⟨("spots_of", none), "spots_of", "spots_of", defArgs (topS 26), defBody (topS 26), defScope (topS 26), [], []⟩
def dd_is_script : He.DefD := ⟨("is_script", none), "is_script", "is_script", defArgs (topS 27), defBody (topS 27), defScope (topS 27), [], []⟩
def dd_need_script : He.DefD := ⟨("need_script", none), "need_script", "need_script", defArgs (topS 30), defBody (topS 30), defScope (topS 30), [], []⟩
def dd_alike : He.DefD := ⟨("alike", none), "alike", "alike", defArgs (topS 119), defBody (topS 119), defScope (topS 119), [], []⟩
def dd_parting : He.DefD := ⟨("parting", none), "parting", "parting", defArgs (topS 120), defBody (topS 120), defScope (topS 120), [], []⟩
def dd_state_with : He.DefD := ⟨("state_with", none), "state_with", "state_with", defArgs (topS 83), defBody (topS 83), defScope (topS 83), [], []⟩
def dd_need_state : He.DefD := ⟨("need_state", none), "need_state", "need_state", defArgs (topS 86), defBody (topS 86), defScope (topS 86), [], []⟩
def dd_rings : He.DefD := ⟨("rings", none), "rings", "rings", defArgs (topS 88), defBody (topS 88), defScope (topS 88), [], []⟩
def dd_left : He.DefD := ⟨("left", none), "left", "left", defArgs (topS 89), defBody (topS 89), defScope (topS 89), [], []⟩
def dd_course : He.DefD := ⟨("course", none), "course", "course", defArgs (topS 91), defBody (topS 91), defScope (topS 91), [], []⟩
def dd_need_index : He.DefD := ⟨("need_index", none), "need_index", "need_index", defArgs (topS 31), defBody (topS 31), defScope (topS 31), [], []⟩
def dd_rings_of : He.DefD := ⟨("rings_of", none), "rings_of", "rings_of", defArgs (topS 28), defBody (topS 28), defScope (topS 28), [], []⟩
def dd_ring_bounds : He.DefD := ⟨("ring_bounds", none), "ring_bounds", "ring_bounds", defArgs (topS 100), defBody (topS 100), defScope (topS 100), [], []⟩
def dd_pieces_of : He.DefD := ⟨("pieces_of", none), "pieces_of", "pieces_of", defArgs (topS 29), defBody (topS 29), defScope (topS 29), [], []⟩
def dd_left_bounds : He.DefD := ⟨("left_bounds", none), "left_bounds", "left_bounds", defArgs (topS 101), defBody (topS 101), defScope (topS 101), [], []⟩
def dd__law_odd : He.DefD := ⟨("_law_odd", none), "_law_odd", "_law_odd", defArgs (topS 137), defBody (topS 137), defScope (topS 137), [], []⟩
def dd__law_bent : He.DefD := ⟨("_law_bent", none), "_law_bent", "_law_bent", defArgs (topS 138), defBody (topS 138), defScope (topS 138), [], []⟩
def dd__law_names : He.DefD := ⟨("_law_names", none), "_law_names", "_law_names", defArgs (topS 135), defBody (topS 135), defScope (topS 135), [], []⟩
def dd__law_error : He.DefD := ⟨("_law_error", none), "_law_error", "_law_error", defArgs (topS 136), defBody (topS 136), defScope (topS 136), [], []⟩
def dd__law_is_whole : He.DefD := ⟨("_law_is_whole", none), "_law_is_whole", "_law_is_whole", defArgs (topS 129), defBody (topS 129), defScope (topS 129), [], []⟩
def dd__law_is_fuses : He.DefD := ⟨("_law_is_fuses", none), "_law_is_fuses", "_law_is_fuses", defArgs (topS 132), defBody (topS 132), defScope (topS 132), [], []⟩
def dd__law_is_step : He.DefD := ⟨("_law_is_step", none), "_law_is_step", "_law_is_step", defArgs (topS 133), defBody (topS 133), defScope (topS 133), [], []⟩
def dd__law_is_script : He.DefD := ⟨("_law_is_script", none), "_law_is_script", "_law_is_script", defArgs (topS 134), defBody (topS 134), defScope (topS 134), [], []⟩
def dd_count_rings : He.DefD := ⟨("count_rings", none), "count_rings", "count_rings", defArgs (topS 35), defBody (topS 35), defScope (topS 35), [], []⟩
def dd_count_spots : He.DefD := ⟨("count_spots", none), "count_spots", "count_spots", defArgs (topS 36), defBody (topS 36), defScope (topS 36), [], []⟩
def dd_count_pieces : He.DefD := ⟨("count_pieces", none), "count_pieces", "count_pieces", defArgs (topS 37), defBody (topS 37), defScope (topS 37), [], []⟩
def dd_courses : He.DefD := ⟨("courses", none), "courses", "courses", defArgs (topS 94), defBody (topS 94), defScope (topS 94), [], []⟩
def dd_sure_rings : He.DefD := ⟨("sure_rings", none), "sure_rings", "sure_rings", defArgs (topS 103), defBody (topS 103), defScope (topS 103), [], []⟩
def dd_needless : He.DefD := ⟨("needless", none), "needless", "needless", defArgs (topS 121), defBody (topS 121), defScope (topS 121), [], []⟩
def dd_script_text : He.DefD := ⟨("script_text", none), "script_text", "script_text", defArgs (topS 124), defBody (topS 124), defScope (topS 124), [], []⟩
def dd_divisor : He.DefD := ⟨("divisor", none), "divisor", "divisor", defArgs (topS 19), defBody (topS 19), defScope (topS 19), [], []⟩
def dd_is_fraction : He.DefD := ⟨("is_fraction", none), "is_fraction", "is_fraction", defArgs (topS 20), defBody (topS 20), defScope (topS 20), [], []⟩
def dd_is_time : He.DefD := ⟨("is_time", none), "is_time", "is_time", defArgs (topS 21), defBody (topS 21), defScope (topS 21), [], []⟩
def dd_good_fact : He.DefD := ⟨("good_fact", none), "good_fact", "good_fact", defArgs (topS 32), defBody (topS 32), defScope (topS 32), [], []⟩
def dd_is_fact : He.DefD := ⟨("is_fact", none), "is_fact", "is_fact", defArgs (topS 34), defBody (topS 34), defScope (topS 34), [], []⟩
def dd_is_possible : He.DefD := ⟨("is_possible", none), "is_possible", "is_possible", defArgs (topS 87), defBody (topS 87), defScope (topS 87), [], []⟩
def dd_case : He.DefD := ⟨("case", none), "case", "case", defArgs (topS 95), defBody (topS 95), defScope (topS 95), [], []⟩
def dd_can_ring : He.DefD := ⟨("can_ring", none), "can_ring", "can_ring", defArgs (topS 106), defBody (topS 106), defScope (topS 106), [], []⟩
def dd_minutes_with : He.DefD := ⟨("minutes_with", none), "minutes_with", "minutes_with", defArgs (topS 107), defBody (topS 107), defScope (topS 107), [], []⟩
def dd_need_facts : He.DefD := ⟨("need_facts", none), "need_facts", "need_facts", defArgs (topS 33), defBody (topS 33), defScope (topS 33), [], []⟩
def dd_fits : He.DefD := ⟨("fits", none), "fits", "fits", defArgs (topS 112), defBody (topS 112), defScope (topS 112), [], []⟩
def dd_spot_bounds : He.DefD := ⟨("spot_bounds", none), "spot_bounds", "spot_bounds", defArgs (topS 113), defBody (topS 113), defScope (topS 113), [], []⟩
def dd_surely : He.DefD := ⟨("surely", none), "surely", "surely", defArgs (topS 114), defBody (topS 114), defScope (topS 114), [], []⟩
def dd__law_of_script : He.DefD := ⟨("_law_of_script", none), "_law_of_script", "_law_of_script", defArgs (topS 139), defBody (topS 139), defScope (topS 139), [], []⟩
def dd_law : He.DefD := ⟨("law", none), "law", "law", defArgs (topS 140), defBody (topS 140), defScope (topS 140), [], []⟩
def dd_worth : He.DefD := ⟨("worth", none), "worth", "worth", defArgs (topS 85), defBody (topS 85), defScope (topS 85), [], []⟩
def dd_way_of : He.DefD := ⟨("way_of", none), "way_of", "way_of", defArgs (topS 90), defBody (topS 90), defScope (topS 90), [], []⟩
def hfn : List He.DefD := [dd__law_vat, dd__law_under, dd__law_some, dd__law_any_step, dd__law_script, dd_is_whole, dd_is_word, dd_is_step, dd_are_steps, dd_is_fuses, dd_spots_of, dd_is_script, dd_need_script, dd_alike, dd_parting, dd_state_with, dd_need_state, dd_rings, dd_left, dd_course, dd_need_index, dd_rings_of, dd_ring_bounds, dd_pieces_of, dd_left_bounds, dd__law_odd, dd__law_bent, dd__law_names, dd__law_error, dd__law_is_whole, dd__law_is_fuses, dd__law_is_step, dd__law_is_script, dd_count_rings, dd_count_spots, dd_count_pieces, dd_courses, dd_sure_rings, dd_needless, dd_script_text, dd_divisor, dd_is_fraction, dd_is_time, dd_good_fact, dd_is_fact, dd_is_possible, dd_case, dd_can_ring, dd_minutes_with, dd_need_facts, dd_fits, dd_spot_bounds, dd_surely, dd__law_of_script, dd_law, dd_worth, dd_way_of]
def hfa : List He.Fa := [.glo "_law_vat", .glo "_law_under", .glo "_law_some", .glo "_law_any_step", .glo "_law_script", .glo "is_whole", .glo "is_word", .glo "is_step", .glo "are_steps", .glo "is_fuses", .glo "spots_of", .glo "is_script", .glo "need_script", .glo "alike", .glo "parting", .glo "state_with", .glo "need_state", .glo "rings", .glo "left", .glo "course", .glo "need_index", .glo "rings_of", .glo "ring_bounds", .glo "pieces_of", .glo "left_bounds", .glo "_law_odd", .glo "_law_bent", .glo "_law_names", .glo "_law_error", .glo "_law_is_whole", .glo "_law_is_fuses", .glo "_law_is_step", .glo "_law_is_script", .glo "count_rings", .glo "count_spots", .glo "count_pieces", .glo "courses", .glo "sure_rings", .glo "needless", .glo "script_text", .glo "divisor", .glo "is_fraction", .glo "is_time", .glo "good_fact", .glo "is_fact", .glo "is_possible", .glo "case", .glo "can_ring", .glo "minutes_with", .glo "need_facts", .glo "fits", .glo "spot_bounds", .glo "surely", .glo "_law_of_script", .glo "law", .glo "worth", .glo "way_of", .free "ValueError", .free "abs", .free "bool", .free "int", .free "isinstance", .free "len", .free "list", .free "max", .free "min", .free "range", .free "str", .free "tuple", .free "zip", .glo "FuseError", .glo "InvalidScript", .glo "InvalidFuses", .glo "InvalidMinutes", .glo "InvalidIndex", .glo "InvalidSide", .glo "InvalidTimes", .glo "InvalidFacts", .glo "InvalidNumber", .glo "NothingToUndo", .glo "TooMany", .glo "InvalidText", .exc "FuseError", .exc "InvalidScript", .exc "InvalidFuses", .exc "InvalidMinutes", .exc "InvalidIndex", .exc "InvalidSide", .exc "InvalidTimes", .exc "InvalidFacts", .exc "InvalidNumber", .exc "NothingToUndo", .int "MOST_SPOTS" 2, .int "MOST_STEPS" 12, .glo "SIDES"]
def htf : List He.Defn := [("_law_of_script", none), ("law", none)]
def hex (K : PySem.W.Frag) : Bool := errsB K && distB K htf && valB K (.tup [.str "left", .str "right"]) (.ref (He.ga K "SIDES"))
def loose0 : List PySem.Str := [("FuseError" : PySem.Str), ("InvalidScript" : PySem.Str), ("InvalidFuses" : PySem.Str), ("InvalidMinutes" : PySem.Str), ("InvalidIndex" : PySem.Str), ("InvalidSide" : PySem.Str), ("InvalidTimes" : PySem.Str), ("InvalidFacts" : PySem.Str), ("InvalidNumber" : PySem.Str), ("NothingToUndo" : PySem.Str), ("TooMany" : PySem.Str), ("InvalidText" : PySem.Str), ("SIDES" : PySem.Str), ("MOST_STEPS" : PySem.Str), ("MOST_SPOTS" : PySem.Str), ("GREAT" : PySem.Str), ("is_whole" : PySem.Str), ("divisor" : PySem.Str), ("is_fraction" : PySem.Str), ("is_time" : PySem.Str), ("is_word" : PySem.Str), ("is_fuses" : PySem.Str), ("is_step" : PySem.Str), ("are_steps" : PySem.Str), ("spots_of" : PySem.Str), ("is_script" : PySem.Str), ("rings_of" : PySem.Str), ("pieces_of" : PySem.Str), ("need_script" : PySem.Str), ("need_index" : PySem.Str), ("good_fact" : PySem.Str), ("need_facts" : PySem.Str), ("is_fact" : PySem.Str), ("count_rings" : PySem.Str), ("count_spots" : PySem.Str)]
def loose1 : List PySem.Str := [("count_pieces" : PySem.Str), ("NOTHING" : PySem.Str), ("UNKNOWN" : PySem.Str), ("whole" : PySem.Str), ("plus" : PySem.Str), ("times" : PySem.Str), ("minus" : PySem.Str), ("number" : PySem.Str), ("fraction" : PySem.Str), ("less" : PySem.Str), ("row_of" : PySem.Str), ("positive" : PySem.Str), ("zero" : PySem.Str), ("scaled" : PySem.Str), ("added" : PySem.Str), ("without" : PySem.Str), ("lowered" : PySem.Str), ("unlike" : PySem.Str), ("reduced" : PySem.Str), ("is_plainly" : PySem.Str), ("is_possible_system" : PySem.Str), ("bound_of" : PySem.Str), ("between" : PySem.Str), ("chosen" : PySem.Str), ("solved" : PySem.Str), ("span" : PySem.Str), ("answers" : PySem.Str), ("OUT" : PySem.Str), ("flames" : PySem.Str), ("put" : PySem.Str), ("lit" : PySem.Str), ("quenched" : PySem.Str), ("parted" : PySem.Str), ("soonest" : PySem.Str), ("burnt" : PySem.Str)]
def loose2 : List PySem.Str := [("behind_first" : PySem.Str), ("first_out" : PySem.Str), ("waited" : PySem.Str), ("spotted" : PySem.Str), ("behind_step" : PySem.Str), ("all_states" : PySem.Str), ("states_of" : PySem.Str), ("told" : PySem.Str), ("state_with" : PySem.Str), ("point_of" : PySem.Str), ("worth" : PySem.Str), ("need_state" : PySem.Str), ("is_possible" : PySem.Str), ("rings" : PySem.Str), ("left" : PySem.Str), ("way_of" : PySem.Str), ("course" : PySem.Str), ("minutes_of" : PySem.Str), ("courses" : PySem.Str), ("case" : PySem.Str), ("is_same" : PySem.Str), ("bounds_of" : PySem.Str), ("bounds_in" : PySem.Str), ("ring_bounds" : PySem.Str), ("left_bounds" : PySem.Str), ("sure_of" : PySem.Str), ("sure_rings" : PySem.Str), ("need_times" : PySem.Str), ("minutes_for" : PySem.Str), ("can_ring" : PySem.Str), ("minutes_with" : PySem.Str), ("OTHERS" : PySem.Str), ("conditions_of" : PySem.Str), ("with_facts" : PySem.Str), ("fits" : PySem.Str)]
def loose3 : List PySem.Str := [("spot_bounds" : PySem.Str), ("surely" : PySem.Str), ("unlike_rings" : PySem.Str), ("one_way" : PySem.Str), ("parted_by" : PySem.Str), ("alike" : PySem.Str), ("parting" : PySem.Str), ("needless" : PySem.Str), ("lines_of" : PySem.Str), ("script_text" : PySem.Str), ("_law_vat" : PySem.Str), ("_law_under" : PySem.Str), ("_law_some" : PySem.Str), ("_law_is_whole" : PySem.Str), ("_law_any_step" : PySem.Str), ("_law_script" : PySem.Str), ("_law_is_fuses" : PySem.Str), ("_law_is_step" : PySem.Str), ("_law_is_script" : PySem.Str), ("_law_names" : PySem.Str), ("_law_error" : PySem.Str), ("_law_odd" : PySem.Str), ("_law_bent" : PySem.Str), ("_law_of_script" : PySem.Str)]
def looseA : List PySem.Str := loose0 ++ loose1 ++ loose2 ++ loose3
abbrev RR : PySem.W.OpenRow := PySem.W.OpenLaw.row PySem.Challenge.rw_litinmidst_k19_errors_in_order
abbrev hk : PySem.W.Hook := He.hookX 2 hfa hfn [] htf hex
def hob (s : PySem.W.SharedT) : He.AlX := He.obsX 2 hfa hfn [] htf hex (HandSHeadRun.getT s)
theorem hob_eq (s : PySem.W.SharedT) : hob s = hk.obs s.abs := He.obsX_eq (HandSHeadRun.getT_eq s)
open PySem.W PySem.Calls HandSHeadRun in
abbrev PrunL (w : World) : Prop := ∀ os : OsState, (endF (stepQ (denQ tabQ) RR.prog w) 12000 RR.prog w os).map (fun s => looksF RR.prog (boot_heap w.params) s.abs) = some true
open PySem.W PySem.Calls HandSHeadRun in
abbrev PrunS (w : World) : Prop := ∀ os : OsState, (endF (stepQ (denQ tabQ) RR.prog w) 12000 RR.prog w os).map (fun s => seenQ (PySem.W.view RR.prog [140]) looseA (importedModules RR.prog.main.body) (fun s => xlAt (PySem.W.view RR.prog [140]) [] s && recOk RR.toRowW.records s) s.abs) = some (openGood (PySem.W.view RR.prog [140]) looseA)
open PySem.W PySem.Calls HandSHeadRun in
abbrev PrunO (w : World) : Prop := ∀ os : OsState, (endF (stepQ (denQ tabQ) RR.prog w) 12000 RR.prog w os).map hob = some (hk.val w)
theorem hrunL_false (w : World) : PrunL (w.withFollow "special-get-raises" false) := by
  intro os
  kernel_rfl
theorem hrunL_true (w : World) : PrunL (w.withFollow "special-get-raises" true) := by
  intro os
  kernel_rfl
theorem hrunL (w : World) : PrunL w := by
  have e := World.withFollow_self w "special-get-raises"
  cases hb : w.params.followText "special-get-raises" with
  | false => rw [hb] at e; rw [← e]; exact hrunL_false w
  | true => rw [hb] at e; rw [← e]; exact hrunL_true w
theorem hrunS_false (w : World) : PrunS (w.withFollow "special-get-raises" false) := by
  intro os
  kernel_rfl
theorem hrunS_true (w : World) : PrunS (w.withFollow "special-get-raises" true) := by
  intro os
  kernel_rfl
theorem hrunS (w : World) : PrunS w := by
  have e := World.withFollow_self w "special-get-raises"
  cases hb : w.params.followText "special-get-raises" with
  | false => rw [hb] at e; rw [← e]; exact hrunS_false w
  | true => rw [hb] at e; rw [← e]; exact hrunS_true w
theorem hrunO_false (w : World) : PrunO (w.withFollow "special-get-raises" false) := by
  intro os
  kernel_rfl
theorem hrunO_true (w : World) : PrunO (w.withFollow "special-get-raises" true) := by
  intro os
  kernel_rfl
theorem hrunO (w : World) : PrunO w := by
  have e := World.withFollow_self w "special-get-raises"
  cases hb : w.params.followText "special-get-raises" with
  | false => rw [hb] at e; rw [← e]; exact hrunO_false w
  | true => rw [hb] at e; rw [← e]; exact hrunO_true w
open PySem.W PySem.Calls HandSHeadRun in
theorem hrun (w : World) : HandSHeadRun.RunEq RR (PySem.W.view RR.prog [140]) hk hob 12000 looseA w := by
  intro os
  have hl := hrunL w os
  have hs := hrunS w os
  have ho := hrunO w os
  cases e : endF (stepQ (denQ tabQ) RR.prog w) 12000 RR.prog w os with
  | none => rw [e] at hl; cases hl
  | some s =>
    rw [e] at hl hs ho
    have hl := Option.some.inj hl
    have hs := Option.some.inj hs
    have ho := Option.some.inj ho
    exact congrArg some (Prod.ext hl (Prod.ext hs ho))
end Li

set_option Elab.async false
set_option linter.all false
set_option maxRecDepth 100000
set_option maxHeartbeats 2000000
/-! t[::-1] of a tuple. -/
namespace Li
open PySem PySem.Spec PyProof.Rows L2
section
variable {prog : Program} {w : World} {A : Around} {E : Value → Shared → Prop} {s : Shared}
theorem sliceRev {sl : Addr} {vl vu vs : Value} {n : Nat} {Q : Int × Int × Nat → Shared → Prop} (hs : s.heap.IsSliceOf sl vl vu vs) (pl : IsPart vl none) (pu : IsPart vu none) (ps : IsPart vs (some (-1)))
    (h : Q ((n : Int) - 1, -1, n) s) : wpAny (model prog w) A (Builtin.Slice.sliceApplied (.ref sl) (pure (n : Int))) Q E s := by
  obtain ⟨os, hos, hcs, hds⟩ := id hs
  unfold Builtin.Slice.sliceApplied Builtin.Slice.sliceFields
  refine wpAny_bind (wpAny_bind (wpAny_field hos hds (x := vl) rfl (wpAny_bind (wpAny_field hos hds (x := vu) rfl (wpAny_bind (wpAny_field hos hds (x := vs) rfl (wpAny_pure ?_)))))))
  refine wpAny_bind (HT.slicePart_ ps ?_)
  show wpAny _ _ (if ((-1 : Int) == 0) = true then _ else _) _ _ s
  rw [if_neg (by decide)]
  refine wpAny_bind (HT.slicePart_ pl (wpAny_bind (HT.slicePart_ pu (wpAny_bind (wpAny_pure ?_)))))
  show wpAny _ _ (match Builtin.Slice.sliceAdjust none none (-1) (n : Int) with | (lo, hi) => pure (lo, (-1 : Int), Builtin.Slice.slicePlaces lo hi (-1))) _ _ s
  have e1 : Builtin.Slice.sliceAdjust none none (-1) (n : Int) = ((n : Int) - 1, -1) := rfl
  have e2 : Builtin.Slice.slicePlaces ((n : Int) - 1) (-1) (-1) = n := by
    unfold Builtin.Slice.slicePlaces
    have h1 : ¬ ((-1 : Int) > 0) := by decide
    simp only [h1, if_false]
    by_cases hn : n = 0
    · subst hn; rfl
    · rw [if_pos (by omega)]
      have : ((n : Int) - 1 - -1 - 1) / (- -1) + 1 = (n : Int) := by rw [show (- -1 : Int) = 1 by decide, Int.ediv_one]; omega
      rw [this]
      omega
  rw [e1]
  show wpAny _ _ (pure ((n : Int) - 1, (-1 : Int), Builtin.Slice.slicePlaces ((n : Int) - 1) (-1) (-1))) _ _ s
  rw [e2]
  exact wpAny_pure h
theorem pick_rev (xs : Array Value) : ((List.range xs.size).filterMap fun (m : Nat) => xs[(((xs.size : Int) - 1) + (m : Int) * (-1)).toNat]?).toArray = xs.toList.reverse.toArray := by
  congr 1
  have e : ∀ m ∈ List.range xs.size, xs[(((xs.size : Int) - 1) + (m : Int) * (-1)).toNat]? = some ((xs.toList.reverse)[m]?.getD .none) := by
    intro m hm
    have hm := List.mem_range.mp hm
    have : (((xs.size : Int) - 1) + (m : Int) * (-1)).toNat = xs.size - 1 - m := by omega
    rw [this, List.getElem?_reverse (by simpa using hm)]
    have h2 : xs.size - 1 - m < xs.size := by omega
    simp [Array.getElem?_eq_getElem h2]
  have e3 : ∀ l : List Nat, (∀ m ∈ l, m ∈ List.range xs.size) → l.filterMap (fun (m : Nat) => xs[(((xs.size : Int) - 1) + (m : Int) * (-1)).toNat]?) = l.map fun m => (xs.toList.reverse)[m]?.getD .none := by
    intro l
    induction l with
    | nil => intro _; rfl
    | cons m l ih =>
      intro hl
      have em := e m (hl m (by simp))
      rw [List.filterMap_cons, List.map_cons, ih fun k hk => hl k (by simp [hk])]
      rw [em]
  rw [e3 _ fun _ h => h]
  apply List.ext_getElem?
  intro i
  rw [List.getElem?_map]
  by_cases hi : i < xs.size
  · rw [List.getElem?_range hi]
    have : i < xs.toList.reverse.length := by simpa using hi
    simp [List.getElem?_eq_getElem this]
  · rw [List.getElem?_eq_none (by simpa using hi), List.getElem?_eq_none (by simpa using hi)]
    rfl
theorem getItem_tuple_rev {t sl : Addr} {items : Array Value} {vl vu vs : Value} {Q : Value → Shared → Prop} (ht : IsTup s.heap t items) (hs : s.heap.IsSliceOf sl vl vu vs) (pl : IsPart vl none) (pu : IsPart vu none) (ps : IsPart vs (some (-1)))
    (h : Q (.ref s.heap.objs.size) { s with heap := s.heap.push { cls := .type "tuple", data := .seq items.toList.reverse.toArray } })
    (hsz : items.size ≤ sizeLine) : wpAny (model prog w) A (getItem (.ref t) (.ref sl)) Q E s := by
  have htake : sizeOk (.seq items.toList.reverse.toArray) := by
    show items.toList.reverse.toArray.size ≤ sizeLine
    rw [List.size_toArray, List.length_reverse, Array.length_toList]
    exact hsz
  obtain ⟨os, hos, hcs, hds⟩ := id hs
  have hTs : s.TypeIs (.ref sl) "slice" := ⟨os, hos, hcs⟩
  unfold getItem
  try with_reducible refine wpAny_holding ?_
  first | refine wpAny_bind (wpAny_pure ?_) | skip
  refine wpAny_bind (wpAny_sequenceKey ht.typeIs (by decide) ?_)
  refine wpAny_bind (wpAny_callSpecial?_slot (name := Str.ofString "__getitem__") ht.typeIs PyProof.Rows.slot_tuple_getitem
    (wpAny_call_entry PyProof.Rows.slot_tuple_getitem ht.typeIs entry_tuple_getitem ?_ (args_tuple_getitem _ _)))
  show wpAny _ _ (Builtin.Tuple.tupleItemsOf (.ref t) >>= _) _ _ s
  refine wpAny_bind (tupleItemsOf_ ht ?_)
  refine wpAny_bind (wpAny_typeOf hTs ?_)
  rw [if_pos (by decide)]
  refine wpAny_bind (sliceRev hs pl pu ps ?_)
  have hno : ¬ ((((items.size : Int) - 1) == 0 && (-1 : Int) == 1 && items.size == items.size) = true) := by simp
  show wpAny _ _ (if (((items.size : Int) - 1) == 0 && (-1 : Int) == 1 && items.size == items.size) = true then _ else _) _ _ s
  rw [if_neg hno, pick_rev]
  first
    | exact wpAny_bind (m := Builtin.Tuple.tupleExact _) (wpAny_newObj_type (wpAny_pure ⟨_, rfl, wpAny_pure h⟩) htake)
    | exact wpAny_bind (m := Builtin.Tuple.tupleExact _) (wpAny_newObj_type (wpAny_bind (wpAny_pure (wpAny_pure ⟨_, rfl, wpAny_pure h⟩))) htake)
    | exact wpAny_bind (wpAny_bind (m := Builtin.Tuple.tupleExact _) (wpAny_newObj_type (wpAny_pure (wpAny_pure ⟨_, rfl, wpAny_pure h⟩)) htake))
    | exact wpAny_bind (wpAny_bind (m := Builtin.Tuple.tupleExact _) (wpAny_newObj_type (wpAny_pure ⟨_, rfl, wpAny_pure h⟩) htake))
end
section
variable {X : Cx}
def tRevT (K : PySem.W.Frag) (te : TE) : TE := fun σ H Q => te σ H fun x H1 => ∃ a xs, x = .ref a ∧ SqT K H1 a xs ∧ ∀ p, H1 p = none → Q (.ref p) (upd H1 p (.tup xs.reverse))
theorem pe_revT {e : Expr} {te : TE} {k : Nat} {p1 p2 p3 pos : Pos} (he : PE X e te) : PE X (.Subscript e (.Slice none none (some (.UnaryOp .USub (.Constant (.int 1) k p1) p2)) p3) pos) (tRevT X.K te) := by
  refine ⟨fun pins s σ H Q I h => ?_⟩
  refine Subscript_ (thn (he.run pins s σ H _ I h) fun v s1 ⟨x, H1, I1, r1, q1⟩ => ?_)
  obtain ⟨a, xs, ex, hx, q⟩ := q1
  subst ex
  cases r1
  have hst : PO X (some (.UnaryOp .USub (.Constant (.int 1) k p1) p2)) (tPart (tUn (rU fun i => .int (-i)) (tC (.int 1)))) := po_some (pe_un un_neg pe_int)
  refine wpAny_Slice (thn (po_none.run pins s1 σ H1 (fun o H2 => o = none ∧ H2 = H1) I1 ⟨rfl, rfl⟩) fun vl s2 ⟨l, H2, I2, pl, el, e2⟩ => ?_)
  subst el e2
  refine thn (po_none.run pins s2 σ H2 (fun o H3 => o = none ∧ H3 = H2) I2 ⟨rfl, rfl⟩) fun vu s3 ⟨u, H3, I3, pu, eu, e3⟩ => ?_
  subst eu e3
  refine thn (hst.run pins s3 σ H3 (fun o H4 => o = some (-1) ∧ H4 = H3) I3 ⟨1, rfl, -1, rfl, rfl, rfl⟩) fun vs s4 ⟨o, H4, I4, ps, eo, e4⟩ => ?_
  subst eo e4
  have I5 : Inv X pins σ H4 { s4 with heap := s4.heap.push { cls := .type "slice", data := .fields #[vl, vu, vs] } } := I4.kept (t' := s4.toks) fun b ob q => Heap.get?_push_of_some _ q
  obtain ⟨its, r, ht, hz⟩ := I5.tuple hx
  have hlen := r.length
  show wpAny (model X.prog X.w) X.A (subscriptTail e (.Slice none none (some (.UnaryOp .USub (.Constant (.int 1) k p1) p2)) p3) (.ref a) (.ref s4.heap.objs.size)) (EP X pins σ Q) X.xe { s4 with heap := s4.heap.push { cls := .type "slice", data := .fields #[vl, vu, vs] } }
  refine tail_any (ops := [.ref a, .ref s4.heap.objs.size]) ht.typeIs (PyProof.Rows.slot_tuple_getitem.lookup) ?_ (by with_unfolding_all rfl)
  refine getItem_tuple_rev ht (Heap.IsSliceOf.new _ vl vu vs) pl pu ps ?_ (by rw [List.size_toArray]; omega)
  refine ⟨.ref _, _, I5.laid (t' := s4.toks) (o := .tup xs.reverse) (fun b ob q => Heap.get?_push_of_some _ q) (Nat.le_refl _) ?_, rfl, q _ (I5.hok.fresh (Nat.le_refl _))⟩
  exact ⟨by rw [List.length_reverse]; exact hz, its.reverse, r.reverse, ⟨_, Heap.get?_push_size _ rfl, rfl, _, rfl⟩⟩
variable [Tbl]
def kRevT (x : D) (μ : MS) (Q : DK) : Prop := match x with
  | .tup ds => Q (.tup ds.reverse) μ
  | _ => False
def dRevT (te : DTE) : DTE := fun ρ μ Q => te ρ μ fun x μ1 => kRevT x μ1 Q
theorem de_revT {B : Ent} {e : Expr} {te : DTE} {k : Nat} {p1 p2 p3 pos : Pos} (he : DE X B e te) : DE X B (.Subscript e (.Slice none none (some (.UnaryOp .USub (.Constant (.int 1) k p1) p2)) p3) pos) (dRevT te) := PE.by (pe_revT he) fun σ H Q ⟨F, ρ, μ, Qd, sB, ok, rs, t, cl⟩ => by
  refine ⟨F, ρ, μ, _, sB, ok, rs, t, fun F1 x μ1 v H1 s1 ok1 rx t1 => ?_⟩
  unfold kRevT at t1
  split at t1
  · obtain ⟨p, vs, rfl, h1, h2⟩ := rep_tup.mp rx
    exact ⟨p, vs, rfl, ok1.sqT h1, fun q hq => cl_tup ok1 (cl.mono s1) h2.reverse t1 hq⟩
  · exact t1.elim
end
end Li

set_option Elab.async false
set_option linter.all false
set_option maxRecDepth 100000
set_option maxHeartbeats 2000000
/-! True and False among ints; repetition. -/
namespace Li
open PySem PySem.Spec PyProof.Rows L2
variable [Tbl]
section
variable {X : Cx}
def b2i (b : Bool) : Int := if b = true then 1 else 0
def kAddB : KD := fun x y μ Q => match x, y with
  | .int i, .int j => Q (.int (i + j)) μ
  | .bl b, .int j => Q (.int (b2i b + j)) μ
  | _, _ => False
def kSubB : KD := fun x y μ Q => match x, y with
  | .int i, .int j => Q (.int (i - j)) μ
  | .bl b, .int j => Q (.int (b2i b - j)) μ
  | _, _ => False
def kMulB : KD := fun x y μ Q => match x, y with
  | .int i, .int j => MulOk i j ∧ Q (.int (i * j)) μ
  | .int i, .bl b => Q (.int (i * b2i b)) μ
  | _, _ => False
theorem do_addB : DOp X (binaryOp .Add) kAddB := by
  intro pins s σ H v w vv ww Q I rv rw' ⟨F, μ, x, y, Qd, ok, rx, ry, hk, cl⟩
  unfold kAddB at hk
  split at hk
  · obtain rfl := rep_int.mp rx
    obtain rfl := rep_int.mp ry
    exact op_add pins s σ H _ _ vv ww Q I rv rw' ⟨_, _, rfl, rfl, cl F _ μ _ H (Stp.refl) ok (rep_int.mpr rfl) hk⟩
  · obtain rfl := rep_bl.mp rx
    obtain rfl := rep_int.mp ry
    obtain rfl := (show vv = .bool _ from rv)
    obtain ⟨u, rfl⟩ := rw'
    exact IntBool.add_bool_int ⟨.int _, H, I.tok _, ⟨_, rfl⟩, cl F _ μ _ H (Stp.refl) ok (rep_int.mpr rfl) hk⟩
  · exact hk.elim
theorem do_subB : DOp X (binaryOp .Sub) kSubB := by
  intro pins s σ H v w vv ww Q I rv rw' ⟨F, μ, x, y, Qd, ok, rx, ry, hk, cl⟩
  unfold kSubB at hk
  split at hk
  · obtain rfl := rep_int.mp rx
    obtain rfl := rep_int.mp ry
    exact op_sub pins s σ H _ _ vv ww Q I rv rw' ⟨_, _, rfl, rfl, cl F _ μ _ H (Stp.refl) ok (rep_int.mpr rfl) hk⟩
  · obtain rfl := rep_bl.mp rx
    obtain rfl := rep_int.mp ry
    obtain rfl := (show vv = .bool _ from rv)
    obtain ⟨u, rfl⟩ := rw'
    exact IntBool.sub_bool_int ⟨.int _, H, I.tok _, ⟨_, rfl⟩, cl F _ μ _ H (Stp.refl) ok (rep_int.mpr rfl) hk⟩
  · exact hk.elim
theorem do_mulB : DOp X (binaryOp .Mult) kMulB := by
  intro pins s σ H v w vv ww Q I rv rw' ⟨F, μ, x, y, Qd, ok, rx, ry, hk, cl⟩
  unfold kMulB at hk
  split at hk
  · obtain rfl := rep_int.mp rx
    obtain rfl := rep_int.mp ry
    have q := cl F _ μ _ H (Stp.refl) ok (rep_int.mpr rfl) hk.2
    rcases hk.1 with h | h
    · exact op_mul pins s σ H _ _ vv ww Q I rv rw' ⟨_, _, rfl, rfl, h, q⟩
    · exact op_mulW pins s σ H _ _ vv ww Q I rv rw' ⟨_, _, rfl, rfl, h, q⟩
  · obtain rfl := rep_int.mp rx
    obtain rfl := rep_bl.mp ry
    obtain rfl := (show ww = .bool _ from rw')
    obtain ⟨u, rfl⟩ := rv
    exact IntBool.mul_int_bool ⟨.int _, H, I.tok _, ⟨_, rfl⟩, cl F _ μ _ H (Stp.refl) ok (rep_int.mpr rfl) hk⟩
  · exact hk.elim
/-- not of a truth or an int -/
def dNotI (ta : DTE) : DTE := fun ρ μ Q => ta ρ μ fun d μ1 => match d with
  | .bl b => Q (.bl (!b)) μ1
  | .int i => Q (.bl (decide (i = 0))) μ1
  | _ => False
theorem de_notI {B : Ent} {a : Expr} {ta : DTE} {pos : Pos} (ha : DE X B a ta) : DE X B (.UnaryOp .Not a pos) (dNotI ta) := PE.by (pe_notT ha) fun σ H Q ⟨F, ρ, μ, Qd, sB, ok, rs, t, cl⟩ => by
  refine ⟨F, ρ, μ, _, sB, ok, rs, t, fun F1 d μ1 v H1 s1 ok1 rd t1 => ?_⟩
  split at t1
  · rename_i b
    obtain rfl := rep_bl.mp rd
    exact ⟨b, rfl, cl F1 _ μ1 _ H1 s1 ok1 (rep_bl.mpr rfl) t1⟩
  · rename_i i
    obtain rfl := rep_int.mp rd
    exact ⟨!decide (i = 0), (by
      show (!decide (i = 0)) = (i != 0)
      by_cases h : i = 0 <;> simp [h]), cl F1 _ μ1 _ H1 s1 ok1 (rep_bl.mpr (by simp)) t1⟩
  · exact t1.elim
/-- a list, or a tuple, so many times -/
def kRep : KD := fun x y μ Q => match x, y with
  | .lst ds, .int k => (0 ≤ k ∧ k ≤ 1000 ∧ ds.length ≤ 1000) ∧ Q (.lst (List.replicate k.toNat ds).flatten) μ
  | .tup ds, .int k => (ds ≠ [] ∧ 2 ≤ k ∧ k ≤ 1000 ∧ ds.length ≤ 1000) ∧ Q (.tup (List.replicate k.toNat ds).flatten) μ
  | _, _ => False
theorem reps_rep {K : PySem.W.Frag} {F : Hp} {ds : List D} {vs : List V} (r : Reps K F ds vs) : ∀ n : Nat, Reps K F (List.replicate n ds).flatten (List.replicate n vs).flatten
  | 0 => by simpa using reps_nil.mpr rfl
  | n + 1 => by
    rw [List.replicate_succ, List.replicate_succ, List.flatten_cons, List.flatten_cons]
    exact r.append (reps_rep r n)
theorem do_rep : DOp X (binaryOp .Mult) kRep := by
  intro pins s σ H v w vv ww Q I rv rw' ⟨F, μ, x, y, Qd, ok, rx, ry, hk, cl⟩
  unfold kRep at hk
  split at hk
  · rename_i ds k
    obtain ⟨⟨h1, h2, h3⟩, hk⟩ := hk
    obtain rfl := rep_int.mp ry
    obtain ⟨a, vs, rfl, e1, e2⟩ := rep_lst.mp rx
    have hl := e2.length
    refine op_rep pins s σ H _ _ vv ww Q I rv rw' ⟨a, k, vs, rfl, rfl, ok.sub _ _ e1, by omega, by omega, ?_, fun p hp => cl_lst ok cl (reps_rep e2 _) hk hp⟩
    have : vs.length * k.toNat ≤ 1000 * 1000 := Nat.mul_le_mul (by omega) (by omega)
    rw [sizeLine_eq]
    omega
  · rename_i ds k
    obtain ⟨⟨h0, h1, h2, h3⟩, hk⟩ := hk
    obtain rfl := rep_int.mp ry
    obtain ⟨a, vs, rfl, e1, e2⟩ := rep_tup.mp rx
    have hl := e2.length
    exact op_repT pins s σ H _ _ vv ww Q I rv rw' ⟨a, k, vs, rfl, rfl, ok.sqT e1, fun z => h0 (List.eq_nil_of_length_eq_zero (by rw [hl, z]; rfl)), h1, h2, by omega, fun p hp => cl_tup ok cl (reps_rep e2 _) hk hp⟩
  · exact hk.elim
end
end Li

set_option Elab.async false
set_option linter.all false
set_option maxRecDepth 100000
set_option maxHeartbeats 1000000
/-! What the laws draw. -/
namespace Li
open PySem PySem.Spec PyProof.Rows L2
variable [Tbl]
/-- at a stands a vat: what draws come from -/
def IsVat (μ : MS) (a : Addr) : Prop := ∃ u w : Int, μ a = some (.lst [.int u, .int w]) ∧ 0 ≤ u ∧ 0 ≤ w ∧ w < 2 ^ 32
/-- behind some draws -/
structure Vats (a : Addr) (μ μ' : MS) : Prop where
  vat : IsVat μ' a
  els : ∀ b, b ≠ a → μ' b = μ b
theorem Vats.trans {a : Addr} {μ μ1 μ2 : MS} (h : Vats a μ μ1) (g : Vats a μ1 μ2) : Vats a μ μ2 := ⟨g.vat, fun b hb => (g.els b hb).trans (h.els b hb)⟩
theorem Vats.refl {a : Addr} {μ : MS} (h : IsVat μ a) : Vats a μ μ := ⟨h, fun _ _ => rfl⟩
theorem vats_set {a : Addr} {μ : MS} {u w : Int} (h0 : 0 ≤ u) (h1 : 0 ≤ w) (h2 : w < 2 ^ 32) : Vats a μ (mset μ a (some (.lst [.int u, .int w]))) := ⟨⟨u, w, mset_same, h0, h1, h2⟩, fun b hb => mset_ne hb⟩
def sp__law_vat : DSp := fun ds μ Q E => ∃ (ns : List Int) (k : Nat), ds = [.scr ns, .int k] ∧ k ≤ 1000 ∧ ∀ a μ', μ a = none → Vats a μ μ' → Q (.ref a) μ'
def sp__law_under : DSp := fun ds μ Q E => ∃ (a : Addr) (many : Int), ds = [.ref a, .int many] ∧ IsVat μ a ∧ 0 < many ∧ many ≤ 1000000 ∧ ∀ μ' r, Vats a μ μ' → 0 ≤ r → r < many → Q (.int r) μ'
def sp__law_some : DSp := fun ds μ Q E => ∃ (a : Addr) (xs : List D), ds = [.ref a, .lst xs] ∧ IsVat μ a ∧ xs ≠ [] ∧ xs.length ≤ 1000 ∧ ∀ μ' d, Vats a μ μ' → d ∈ xs → Q d μ'
abbrev nm__law_vat : List Str := ["script", "k", "cell"]
abbrev ps__law_vat : List Str := ["script", "k"]
def t__law_vat (Ed : DXK) : DTS := (dSeq (dAsg (dBin kAdd (dBin kMul (dC (.int 7919)) (dVar 1)) (dC (.int 43))) (dName 2)) (dSeq (dIfS (dTest (dBin kLt (dVar 1) (dCB kLen (dCons (dVar 0) dNil)))) (dAsg (dCB kAbs (dCons (dCB kInt (dCons (dBin kIx (dVar 0) (dVar 1)) dNil)) dNil)) (dName 2)) dNext) (dRet (dLstM (dCons (dIf (dTest (dBin kGe (dVar 2) (dBin kPow (dC (.int 10)) (dC (.int 18))))) (dVar 2) (dC (.int 0))) (dCons (dBin kAdd (dBin kMod (dCB kInt (dCons (dBin kAdd (dBin kAdd (dBin kMul (dVar 2) (dC (.int 131071))) (dBin kMul (dC (.int 8191)) (dVar 1))) (dC (.int 5))) dNil)) (dC (.int 2147483629))) (dC (.int 1))) dNil))))))
abbrev nm__law_under : List Str := ["vat", "many", "found", "wide"]
abbrev ps__law_under : List Str := ["vat", "many"]
def t__law_under (Ed : DXK) : DTS := (dSeq (dIfS (dTest (dBin kGt (dBin kIx (dVar 0) (dC (.int 0))) (dC (.int 0)))) (dSeq (dAsg (dBin kMod (dCB kInt (dCons (dBin kIx (dVar 0) (dC (.int 0))) dNil)) (dVar 1)) (dName 2)) (dSeq (dAsg (dBin kDiv (dBin kIx (dVar 0) (dC (.int 0))) (dVar 1)) (dGSub (dVar 0) (dC (.int 0)))) (dRet (dVar 2)))) dNext) (dSeq (dAsg (dBin kMod (dCB kInt (dCons (dBin kAdd (dBin kMul (dBin kIx (dVar 0) (dC (.int 1))) (dC (.int 39373))) (dC (.int 101))) dNil)) (dC (.int 2147483629))) (dGSub (dVar 0) (dC (.int 1)))) (dSeq (dAsg (dBin kMod (dCB kInt (dCons (dBin kMul (dBin kIx (dVar 0) (dC (.int 1))) (dBin kAdd (dBin kDiv (dBin kIx (dVar 0) (dC (.int 1))) (dC (.int 5))) (dC (.int 9)))) dNil)) (dC (.int 2147483587))) (dName 3)) (dRet (dBin kMod (dCB kInt (dCons (dBin kDiv (dVar 3) (dC (.int 32))) dNil)) (dVar 1))))))
abbrev nm__law_some : List Str := ["vat", "things"]
abbrev ps__law_some : List Str := ["vat", "things"]
def t__law_some (Ed : DXK) : DTS := (dRet (dBin kIx (dVar 1) (dCall sp__law_under (dCons (dVar 0) (dCons (dCB kLen (dCons (dVar 1) dNil)) dNil)))))
theorem divOk_small {j : Int} (h : 0 < j) (h2 : j < 2 ^ 64) : DivOk j := ⟨h, by
  have : j.natAbs < 2 ^ 64 := by omega
  exact Nat.lt_of_lt_of_le ((Nat.log2_lt (by omega)).mpr this) (by decide)⟩
theorem mulOk_r {i j : Int} (h1 : -(2 ^ 64) < j) (h2 : j < 2 ^ 64) : MulOk i j := .inl (.inr ⟨h1, h2⟩)
theorem mulOk_l {i j : Int} (h1 : -(2 ^ 64) < i) (h2 : i < 2 ^ 64) : MulOk i j := .inl (.inl ⟨h1, h2⟩)
theorem atI_lt {α : Type} {xs : List α} {k : Nat} (h : k < xs.length) : ∃ v, atI xs (k : Int) = some v := ⟨xs[k], atI_nat (List.getElem?_eq_getElem h)⟩
theorem pure__law_vat (ds : List D) (μ : MS) (Q : DK) (Ed : DXK) (h : sp__law_vat ds μ Q Ed) : t__law_vat Ed { nx := fun _ μ => Q .non μ, rt := Q } (dstart nm__law_vat ds) μ := by
  obtain ⟨ns, k, rfl, hk, q⟩ := h
  refine ⟨mulOk_l (by decide) (by decide), ?_⟩
  have tail : ∀ c : Int, 0 ≤ c → (dRet (dLstM (dCons (dIf (dTest (dBin kGe (dVar 2) (dBin kPow (dC (.int 10)) (dC (.int 18))))) (dVar 2) (dC (.int 0))) (dCons (dBin kAdd (dBin kMod (dCB kInt (dCons (dBin kAdd (dBin kAdd (dBin kMul (dVar 2) (dC (.int 131071))) (dBin kMul (dC (.int 8191)) (dVar 1))) (dC (.int 5))) dNil)) (dC (.int 2147483629))) (dC (.int 1))) dNil)))) { nx := fun _ μ => Q .non μ, rt := Q } [some (.scr ns), some (.int k), some (.int c)] μ := by
    intro c hc
    refine ⟨⟨by decide, by decide, by decide⟩, ?_⟩
    have fin : ∀ u : Int, 0 ≤ u → (dCons (dBin kAdd (dBin kMod (dCB kInt (dCons (dBin kAdd (dBin kAdd (dBin kMul (dVar 2) (dC (.int 131071))) (dBin kMul (dC (.int 8191)) (dVar 1))) (dC (.int 5))) dNil)) (dC (.int 2147483629))) (dC (.int 1))) dNil) [some (.scr ns), some (.int k), some (.int c)] μ
        fun ds μ1 => ∀ a, μ1 a = none → Q (.ref a) (mset μ1 a (some (.lst (.int u :: ds)))) := by
      intro u hu
      refine ⟨mulOk_r (by decide) (by decide), mulOk_l (by decide) (by decide), by decide, fun a ha => q a _ ha (vats_set hu ?_ ?_)⟩
      · have := Int.emod_nonneg (c * 131071 + 8191 * (k : Int) + 5) (show (2147483629 : Int) ≠ 0 by decide); omega
      · have := Int.emod_lt_of_pos (c * 131071 + 8191 * (k : Int) + 5) (show (0 : Int) < 2147483629 by decide); omega
    exact bcase_of (fun _ => fin c hc) fun _ => fin 0 (by decide)
  refine bcase_of (fun h => ?_) fun h => ?_
  · have h' : (k : Int) < (ns.length : Int) := of_decide_eq_true h
    obtain ⟨v, hv⟩ := atI_lt (xs := ns) (k := k) (by omega)
    refine getK_some (d := .int v) (by rw [hv]; rfl) ?_
    exact tail v.natAbs (by omega)
  · exact tail (7919 * k + 43) (by omega)
theorem pure__law_under (ds : List D) (μ : MS) (Q : DK) (Ed : DXK) (h : sp__law_under ds μ Q Ed) : t__law_under Ed { nx := fun _ μ => Q .non μ, rt := Q } (dstart nm__law_under ds) μ := by
  obtain ⟨a, many, rfl, ⟨u, w, hm, hu, hw, hw2⟩, h0, h1, q⟩ := h
  have hd : DivOk many := divOk_small h0 (by omega)
  refine refL_of hm ?_
  refine bcase_of (fun h => ?_) fun h => ?_
  · have h' : (0 : Int) < u := of_decide_eq_true h
    refine refL_of hm ⟨h0, refL_of hm ⟨hd, refL_of hm ?_⟩⟩
    exact q _ _ (vats_set (Int.ediv_nonneg hu (by omega)) hw hw2) (Int.emod_nonneg _ (by omega)) (Int.emod_lt_of_pos _ h0)
  · refine refL_of hm ⟨mulOk_l (by omega) (by omega), by decide, refL_of hm ?_⟩
    have e0 := Int.emod_nonneg (w * 39373 + 101) (show (2147483629 : Int) ≠ 0 by decide)
    have e1 := Int.emod_lt_of_pos (w * 39373 + 101) (show (0 : Int) < 2147483629 by decide)
    refine refL_of mset_same (refL_of mset_same ⟨divOk_small (by decide) (by decide), mulOk_l (by omega) (by omega), by decide, divOk_small (by decide) (by decide), h0, ?_⟩)
    exact q _ _ (vats_set hu e0 (by omega)) (Int.emod_nonneg _ (by omega)) (Int.emod_lt_of_pos _ h0)
theorem pure__law_some (ds : List D) (μ : MS) (Q : DK) (Ed : DXK) (h : sp__law_some ds μ Q Ed) : t__law_some Ed { nx := fun _ μ => Q .non μ, rt := Q } (dstart nm__law_some ds) μ := by
  obtain ⟨a, xs, rfl, hv, hn, hl, q⟩ := h
  have hp : 0 < xs.length := List.length_pos_iff.mpr hn
  refine ⟨a, xs.length, rfl, hv, by omega, by omega, fun μ' r h h0 h1 => ?_⟩
  obtain ⟨j, rfl⟩ : ∃ j : Nat, r = j := ⟨r.toNat, by omega⟩
  have hj : j < xs.length := by omega
  exact getK_some (atI_nat (List.getElem?_eq_getElem hj)) (q μ' _ h (List.getElem_mem hj))
end Li

set_option linter.all false
namespace Li
inductive Act where
  | light (p : Nat) (left : Bool) | spot (p : Nat) | quench (p : Nat) | wait (p : Nat) | first | ring
  deriving DecidableEq, Inhabited
end Li

set_option Elab.async false
set_option linter.all false
set_option maxRecDepth 100000
set_option maxHeartbeats 1000000
/-! Scripts as data; the drawn ones. -/
namespace Li
open PySem PySem.Spec PyProof.Rows L2
variable [Tbl]
def sideD (l : Bool) : D := .str (if l then "left" else "right")
def Act.d : Act → D
  | .light p l => .tup [.str "light", .int p, sideD l]
  | .spot p => .tup [.str "spot", .int p]
  | .quench p => .tup [.str "quench", .int p]
  | .wait p => .tup [.str "wait", .int p]
  | .first => .tup [.str "first"]
  | .ring => .tup [.str "ring"]
structure Scr where
  fuses : List Nat
  steps : List Act
def natD (n : Nat) : D := .int (n : Int)
def fusesD (fs : List Nat) : D := .tup (fs.map natD)
def stepsD (ss : List Act) : D := .tup (ss.map Act.d)
def Scr.d (s : Scr) : D := .tup [fusesD s.fuses, stepsD s.steps]
/-- a step where there are so many pieces -/
def Act.ok (n : Nat) : Act → Prop
  | .light p _ => p < n
  | .spot p => p < n
  | .quench p => p < n
  | .wait p => p < n
  | .first => True
  | .ring => True
def Act.isSpot : Act → Bool
  | .spot _ => true
  | _ => false
def Act.adds (a : Act) : Nat := if a.isSpot then 1 else 0
def stepsOk : Nat → List Act → Prop
  | _, [] => True
  | n, a :: r => a.ok n ∧ stepsOk (n + a.adds) r
def spotsIn (ss : List Act) : Nat := (ss.map Act.adds).sum
structure Scr.Ok (s : Scr) : Prop where
  f1 : 1 ≤ s.fuses.length
  f3 : s.fuses.length ≤ 3
  fu : ∀ n ∈ s.fuses, 1 ≤ n ∧ n ≤ 60
  st : s.steps.length ≤ 12
  go : stepsOk s.fuses.length s.steps
  sp : spotsIn s.steps ≤ 2
theorem stepsOk_append : ∀ {ss ts : List Act} {n : Nat}, stepsOk n ss → stepsOk (n + spotsIn ss) ts → stepsOk n (ss ++ ts)
  | [], ts, n, _, h => by simpa [spotsIn] using h
  | a :: r, ts, n, ⟨h1, h2⟩, h => ⟨h1, stepsOk_append h2 (by rw [show n + a.adds + spotsIn r = n + spotsIn (a :: r) by simp [spotsIn]; omega]; exact h)⟩
theorem stepsOk_prefix : ∀ {ss ts : List Act} {n : Nat}, stepsOk n (ss ++ ts) → stepsOk n ss
  | [], _, _, _ => trivial
  | a :: r, ts, n, ⟨h1, h2⟩ => ⟨h1, stepsOk_prefix h2⟩
def sp__law_any_step : DSp := fun ds μ Q E => ∃ (a : Addr) (n : Nat), ds = [.ref a, .int n] ∧ IsVat μ a ∧ 0 < n ∧ n ≤ 1000 ∧ ∀ μ' (s : Act), Vats a μ μ' → s.ok n → s.isSpot = false → Q s.d μ'
def sp__law_script : DSp := fun ds μ Q E => ∃ (a : Addr) (most peak : Nat), ds = [.ref a, .int most, .int peak] ∧ IsVat μ a ∧ most ≤ 12 ∧ peak ≤ 2 ∧
  ∀ μ' (s : Scr), Vats a μ μ' → s.Ok → s.steps.length ≤ most → spotsIn s.steps ≤ peak → Q s.d μ'
abbrev nm__law_any_step : List Str := ["vat", "many", "at", "word"]
abbrev ps__law_any_step : List Str := ["vat", "many"]
def t__law_any_step (Ed : DXK) : DTS := (dSeq (dAsg (dCall sp__law_under (dCons (dVar 0) (dCons (dVar 1) dNil))) (dName 2)) (dSeq (dAsg (dCall sp__law_some (dCons (dVar 0) (dCons (dLst (dCons (dC (.str "light")) (dCons (dC (.str "light")) (dCons (dC (.str "light")) (dCons (dC (.str "wait")) (dCons (dC (.str "wait")) (dCons (dC (.str "first")) (dCons (dC (.str "first")) (dCons (dC (.str "ring")) (dCons (dC (.str "quench")) dNil)))))))))) dNil))) (dName 3)) (dSeq (dIfS (dTest (dBin kEq (dVar 3) (dC (.str "light")))) (dRet (dTup (dCons (dC (.str "light")) (dCons (dVar 2) (dCons (dCall sp__law_some (dCons (dVar 0) (dCons (dLst (dCons (dC (.str "left")) (dCons (dC (.str "right")) dNil))) dNil))) dNil))))) dNext) (dRet (dIf (dTest (dBin kIn (dVar 3) (dTup (dCons (dC (.str "wait")) (dCons (dC (.str "quench")) dNil))))) (dTup (dCons (dVar 3) (dCons (dVar 2) dNil))) (dTup (dCons (dVar 3) dNil)))))))
abbrev nm__law_script : List Str := ["vat", "most", "peak", "fuses", "turn", "many", "spots", "steps", "step"]
abbrev ps__law_script : List Str := ["vat", "most", "peak"]
def t__law_script (Ed : DXK) : DTS := (dSeq (dAsg (dTup dNil) (dName 3)) (dSeq (dFor (dRange1 (dCons (dCall sp__law_some (dCons (dVar 0) (dCons (dLst (dCons (dC (.int 1)) (dCons (dC (.int 1)) (dCons (dC (.int 2)) (dCons (dC (.int 2)) (dCons (dC (.int 3)) dNil)))))) dNil))) dNil)) (dName 4) (dForget [4] (dAsg (dBin kAdd (dVar 3) (dTup (dCons (dCall sp__law_some (dCons (dVar 0) (dCons (dLst (dCons (dC (.int 60)) (dCons (dC (.int 40)) (dCons (dC (.int 30)) (dCons (dC (.int 20)) (dCons (dC (.int 12)) (dCons (dBin kAdd (dC (.int 1)) (dCall sp__law_under (dCons (dVar 0) (dCons (dC (.int 60)) dNil)))) dNil))))))) dNil))) dNil))) (dName 3)))) (dSeq (dPar3 5 6 7 (dCons (dCB kLen (dCons (dVar 3) dNil)) (dCons (dC (.int 0)) (dCons (dTup dNil) dNil)))) (dSeq (dFor (dRange1 (dCons (dCall sp__law_under (dCons (dVar 0) (dCons (dBin kAdd (dVar 1) (dC (.int 1))) dNil))) dNil)) (dName 4) (dForget [4, 8] (dSeq (dAsg (dCall sp__law_any_step (dCons (dVar 0) (dCons (dVar 5) dNil))) (dName 8)) (dSeq (dIfS (dAnd (dTest (dBin kLt (dVar 6) (dVar 2))) (dTest (dBin kEq (dCall sp__law_under (dCons (dVar 0) (dCons (dC (.int 3)) dNil))) (dC (.int 0))))) (dSeq (dPar 8 6 (dCons (dTup (dCons (dC (.str "spot")) (dCons (dCall sp__law_under (dCons (dVar 0) (dCons (dVar 5) dNil))) dNil))) (dCons (dBin kAdd (dVar 6) (dC (.int 1))) dNil))) (dAsg (dBin kAdd (dVar 5) (dC (.int 1))) (dName 5))) dNext) (dAsg (dBin kAdd (dVar 7) (dTup (dCons (dVar 8) dNil))) (dName 7)))))) (dSeq (dIfS (dAnd (dTest (dBin kNe (dVar 7) (dTup dNil))) (dAnd (dTest (dBin kIn (dBin kIx (dBin kIx (dVar 7) (dNeg (dC (.int 1)))) (dC (.int 0))) (dTup (dCons (dC (.str "light")) (dCons (dC (.str "quench")) dNil))))) (dTest (dBin kGt (dCall sp__law_under (dCons (dVar 0) (dCons (dC (.int 3)) dNil))) (dC (.int 0)))))) (dAsg (dBin kAdd (dSl (dVar 7) dNoPart (dPart (dNeg (dC (.int 1))))) (dTup (dCons (dTup (dCons (dC (.str "ring")) dNil)) dNil))) (dName 7)) dNext) (dRet (dTup (dCons (dVar 3) (dCons (dVar 7) dNil)))))))))
theorem pure__law_any_step (ds : List D) (μ : MS) (Q : DK) (Ed : DXK) (h : sp__law_any_step ds μ Q Ed) : t__law_any_step Ed { nx := fun _ μ => Q .non μ, rt := Q } (dstart nm__law_any_step ds) μ := by
  obtain ⟨a, n, rfl, hv, h0, h1, q⟩ := h
  refine ⟨a, n, rfl, hv, by omega, by omega, fun μ1 r v1 r0 r1 => ?_⟩
  obtain ⟨p, rfl⟩ : ∃ p : Nat, r = p := ⟨r.toNat, by omega⟩
  have hp : p < n := by omega
  refine ⟨a, _, rfl, v1.vat, by simp, by simp, fun μ2 d v2 hd => ?_⟩
  have v12 := v1.trans v2
  simp only [List.mem_cons, List.not_mem_nil, or_false] at hd
  have light : dIfS (dTest (dBin kEq (dVar 3) (dC (.str "light")))) (dRet (dTup (dCons (dC (.str "light")) (dCons (dVar 2) (dCons (dCall sp__law_some (dCons (dVar 0) (dCons (dLst (dCons (dC (.str "left")) (dCons (dC (.str "right")) dNil))) dNil))) dNil))))) dNext
      { nx := fun ρ μ => (dRet (dIf (dTest (dBin kIn (dVar 3) (dTup (dCons (dC (.str "wait")) (dCons (dC (.str "quench")) dNil))))) (dTup (dCons (dVar 3) (dCons (dVar 2) dNil))) (dTup (dCons (dVar 3) dNil)))) { nx := fun _ μ => Q .non μ, rt := Q } ρ μ, rt := Q } [some (.ref a), some (.int n), some (.int p), some (.str "light")] μ2 := by
    refine ⟨by decide +kernel, bcase_t (by decide +kernel) ?_⟩
    refine ⟨a, _, rfl, v2.vat, by simp, by simp, fun μ3 d v3 hd => ?_⟩
    simp only [List.mem_cons, List.not_mem_nil, or_false] at hd
    rcases hd with rfl | rfl
    · exact q μ3 (.light p true) (v12.trans v3) hp rfl
    · exact q μ3 (.light p false) (v12.trans v3) hp rfl
  rcases hd with rfl | rfl | rfl | rfl | rfl | rfl | rfl | rfl | rfl
  · exact light
  · exact light
  · exact light
  · exact ⟨by decide +kernel, bcase_f (by decide +kernel) ⟨by decide +kernel, bcase_t (by decide +kernel) (q μ2 (.wait p) v12 hp rfl)⟩⟩
  · exact ⟨by decide +kernel, bcase_f (by decide +kernel) ⟨by decide +kernel, bcase_t (by decide +kernel) (q μ2 (.wait p) v12 hp rfl)⟩⟩
  · exact ⟨by decide +kernel, bcase_f (by decide +kernel) ⟨by decide +kernel, bcase_f (by decide +kernel) (q μ2 .first v12 trivial rfl)⟩⟩
  · exact ⟨by decide +kernel, bcase_f (by decide +kernel) ⟨by decide +kernel, bcase_f (by decide +kernel) (q μ2 .first v12 trivial rfl)⟩⟩
  · exact ⟨by decide +kernel, bcase_f (by decide +kernel) ⟨by decide +kernel, bcase_f (by decide +kernel) (q μ2 .ring v12 trivial rfl)⟩⟩
  · exact ⟨by decide +kernel, bcase_f (by decide +kernel) ⟨by decide +kernel, bcase_t (by decide +kernel) (q μ2 (.quench p) v12 hp rfl)⟩⟩
theorem fusesD_snoc (fs : List Nat) (x : Nat) : fusesD (fs ++ [x]) = .tup (fs.map natD ++ [natD x]) := by simp [fusesD]
theorem stepsD_snoc (ss : List Act) (x : Act) : stepsD (ss ++ [x]) = .tup (ss.map Act.d ++ [x.d]) := by simp [stepsD]
theorem spotsIn_snoc (ss : List Act) (x : Act) : spotsIn (ss ++ [x]) = spotsIn ss + x.adds := by simp [spotsIn]
theorem act_lay : ∀ s : Act, s.d.lay = true ∧ s.d.dep ≤ 1
  | .light p true => ⟨by simp only [Act.d, sideD, D.lay, D.lays]; decide +kernel, by simp [Act.d, sideD, D.dep, D.deps]⟩
  | .light p false => ⟨by simp only [Act.d, sideD, D.lay, D.lays]; decide +kernel, by simp [Act.d, sideD, D.dep, D.deps]⟩
  | .spot p => ⟨by simp only [Act.d, D.lay, D.lays]; decide +kernel, by simp [Act.d, D.dep, D.deps]⟩
  | .quench p => ⟨by simp only [Act.d, D.lay, D.lays]; decide +kernel, by simp [Act.d, D.dep, D.deps]⟩
  | .wait p => ⟨by simp only [Act.d, D.lay, D.lays]; decide +kernel, by simp [Act.d, D.dep, D.deps]⟩
  | .first => ⟨by simp only [Act.d, D.lay, D.lays]; decide +kernel, by simp [Act.d, D.dep, D.deps]⟩
  | .ring => ⟨by simp only [Act.d, D.lay, D.lays]; decide +kernel, by simp [Act.d, D.dep, D.deps]⟩
theorem acts_lay : ∀ ss : List Act, D.lays (ss.map Act.d) = true ∧ D.deps (ss.map Act.d) ≤ 1
  | [] => ⟨by simp [D.lays], by simp [D.deps]⟩
  | s :: ss => by
    have h1 := act_lay s
    have h2 := acts_lay ss
    refine ⟨by simp only [List.map_cons, D.lays, h1.1, h2.1, Bool.and_self], ?_⟩
    simp only [List.map_cons, D.deps]
    omega
theorem steps_lay (ss : List Act) : (stepsD ss).lay = true ∧ (stepsD ss).dep ≤ 2 := by
  have := acts_lay ss
  exact ⟨by simp only [stepsD, D.lay]; exact this.1, by simp only [stepsD, D.dep]; omega⟩
theorem deqs_nil_r (xs : List D) : deqs xs [] = xs.isEmpty := by cases xs <;> simp [deqs]
theorem pure__law_script (ds : List D) (μ : MS) (Q : DK) (Ed : DXK) (h : sp__law_script ds μ Q Ed) : t__law_script Ed { nx := fun _ μ => Q .non μ, rt := Q } (dstart nm__law_script ds) μ := by
  obtain ⟨a, most, peak, rfl, hv, hm, hp, q⟩ := h
  refine ⟨a, _, rfl, hv, by simp, by simp, fun μ1 d v1 hd => ?_⟩
  obtain ⟨n, rfl, hn1, hn3⟩ : ∃ n : Nat, d = .int n ∧ 1 ≤ n ∧ n ≤ 3 := by
    simp only [List.mem_cons, List.not_mem_nil, or_false] at hd
    rcases hd with rfl | rfl | rfl | rfl | rfl
    · exact ⟨1, rfl, by decide, by decide⟩
    · exact ⟨1, rfl, by decide, by decide⟩
    · exact ⟨2, rfl, by decide, by decide⟩
    · exact ⟨2, rfl, by decide, by decide⟩
    · exact ⟨3, rfl, by decide, by decide⟩
  refine ⟨by omega, by omega, ?_⟩
  refine forL_ind (fun r ρ μ' => ∃ fs : List Nat, Vats a μ μ' ∧ fs.length + r.length = n ∧ (∀ x ∈ fs, 1 ≤ x ∧ x ≤ 60) ∧
    ρ = [some (.ref a), some (.int most), some (.int peak), some (fusesD fs), none, none, none, none, none]) ?_ ?_ _ _ _ ⟨[], v1, by rw [intsD_length]; simp, by simp, rfl⟩
  · rintro d r ρ μ' N ⟨fs, v, hl, hf, rfl⟩ hN
    refine ⟨a, 60, rfl, v.vat, by decide, by decide, fun μ2 r0 v2 h0 h1 => ?_⟩
    refine ⟨a, _, rfl, v2.vat, by simp, by simp, fun μ3 d v3 hd => ?_⟩
    obtain ⟨x, rfl, hx1, hx2⟩ : ∃ x : Nat, d = natD x ∧ 1 ≤ x ∧ x ≤ 60 := by
      simp only [List.mem_cons, List.not_mem_nil, or_false] at hd
      rcases hd with rfl | rfl | rfl | rfl | rfl | rfl
      · exact ⟨60, rfl, by decide, by decide⟩
      · exact ⟨40, rfl, by decide, by decide⟩
      · exact ⟨30, rfl, by decide, by decide⟩
      · exact ⟨20, rfl, by decide, by decide⟩
      · exact ⟨12, rfl, by decide, by decide⟩
      · exact ⟨(1 + r0).toNat, by simp only [natD, D.int.injEq]; omega, by omega, by omega⟩
    have e := hN [some (.ref a), some (.int most), some (.int peak), some (fusesD (fs ++ [x])), none, none, none, none, none] μ3
      ⟨fs ++ [x], (v.trans v2).trans v3, by simp at hl ⊢; omega, fun y hy => by rcases List.mem_append.mp hy with h | h; exact hf y h; rw [List.mem_singleton.mp h]; exact ⟨hx1, hx2⟩, rfl⟩
    rw [fusesD_snoc] at e
    have hs : sizeLine = 16777216 := sizeLine_eq
    exact ⟨by simp at hl ⊢; omega, e⟩
  · rintro ρ μ2 ⟨fs, v2, hl, hf, rfl⟩
    have hl : fs.length = n := by simpa using hl
    refine ⟨a, (most : Int) + 1, rfl, v2.vat, by omega, by omega, fun μ3 t v3 t0 t1 => ?_⟩
    have v03 := v2.trans v3
    obtain ⟨m, rfl⟩ : ∃ m : Nat, t = m := ⟨t.toNat, by omega⟩
    have hs : sizeLine = 16777216 := sizeLine_eq
    refine ⟨by omega, by omega, ?_⟩
    refine forL_ind (fun r ρ μ' => ∃ ss : List Act, Vats a μ μ' ∧ ss.length + r.length ≤ most ∧ stepsOk n ss ∧ spotsIn ss ≤ peak ∧
      ρ = [some (.ref a), some (.int most), some (.int peak), some (fusesD fs), none, some (.int ((n + spotsIn ss : Nat) : Int)), some (.int (spotsIn ss : Nat)), some (stepsD ss), none]) ?_ ?_ _ _ _ ⟨[], v03, by rw [intsD_length]; simp; omega, trivial, by simp [spotsIn], ?_⟩
    · rintro d r ρ μ' N ⟨ss, v, hl2, ho, hsp, rfl⟩ hN
      refine ⟨a, n + spotsIn ss, rfl, v.vat, by omega, by omega, fun μ4 act v4 hok hns => ?_⟩
      have v04 := v.trans v4
      have put : ∀ (act : Act) (μ5 : MS) (k s : Nat), Vats a μ μ5 → act.ok (n + spotsIn ss) → spotsIn ss + act.adds ≤ peak → k = n + spotsIn ss + act.adds → s = spotsIn ss + act.adds →
          (dAsg (dBin kAdd (dVar 7) (dTup (dCons (dVar 8) dNil))) (dName 7)) { nx := dLose [4, 8] N, ct := dLose [4, 8] N, rt := Q, bk := fun _ _ => False } [some (.ref a), some (.int most), some (.int peak), some (fusesD fs), some d, some (.int (k : Int)), some (.int (s : Int)), some (stepsD ss), some act.d] μ5 := by
        rintro act μ5 k s v5 hok hle rfl rfl
        have e := hN [some (.ref a), some (.int most), some (.int peak), some (fusesD fs), none, some (.int ((n + spotsIn (ss ++ [act]) : Nat) : Int)), some (.int (spotsIn (ss ++ [act]) : Nat)), some (stepsD (ss ++ [act])), none] μ5
          ⟨ss ++ [act], v5, by simp at hl2 ⊢; omega, stepsOk_append ho ⟨hok, trivial⟩, by rw [spotsIn_snoc]; exact hle, rfl⟩
        rw [stepsD_snoc, spotsIn_snoc, ← Nat.add_assoc] at e
        exact ⟨by simp at hl2 ⊢; omega, e⟩
      refine bcase_of (fun h => ?_) fun h => ?_
      · have h : spotsIn ss < peak := by have := of_decide_eq_true h; omega
        refine ⟨a, 3, rfl, v4.vat, by decide, by decide, fun μ5 r3 v5 h0 h1 => ?_⟩
        refine ⟨⟨rfl, rfl, by simp [D.dep], by simp [D.dep]⟩, ?_⟩
        refine bcase_of (fun h2 => ?_) fun h2 => ?_
        · refine ⟨a, _, rfl, v5.vat, by omega, by omega, fun μ6 p v6 p0 p1 => ?_⟩
          obtain ⟨p, rfl⟩ : ∃ p' : Nat, p = p' := ⟨p.toNat, by omega⟩
          have v06 := (v04.trans v5).trans v6
          exact put (.spot p) μ6 (n + spotsIn ss + 1) (spotsIn ss + 1) v06 (show p < n + spotsIn ss by omega) (by show spotsIn ss + 1 ≤ peak; omega) rfl rfl
        · have ha : act.adds = 0 := by simp [Act.adds, hns]
          exact put act μ5 _ _ (v04.trans v5) hok (by omega) (by omega) (by omega)
      · have ha : act.adds = 0 := by simp [Act.adds, hns]
        exact put act μ4 _ _ v04 hok (by omega) (by omega) (by omega)
    · rintro ρ μ4 ⟨ss, v4, hl2, ho, hsp, rfl⟩
      have hl2 : ss.length ≤ most := by simpa using hl2
      have base : Scr.Ok ⟨fs, ss⟩ := ⟨by show 1 ≤ fs.length; omega, by show fs.length ≤ 3; omega, hf, by show ss.length ≤ 12; omega, by show stepsOk fs.length ss; rw [hl]; exact ho, by show spotsIn ss ≤ 2; omega⟩
      have fin : ∀ μ5, Vats a μ μ5 → Q (.tup [fusesD fs, stepsD ss]) μ5 := fun μ5 v5 => q μ5 ⟨fs, ss⟩ v5 base hl2 hsp
      have hst := steps_lay ss
      by_cases hne : ss = []
      · subst hne
        exact ⟨⟨hst.1, rfl, by omega, by simp [D.dep, D.deps]⟩, bcase_f (by simp [stepsD, deq, deqs]) (fin μ4 v4)⟩
      obtain ⟨r, x, rfl⟩ : ∃ r x, ss = r ++ [x] := ⟨ss.dropLast, ss.getLast hne, (List.dropLast_concat_getLast hne).symm⟩
      rw [stepsD_snoc] at fin hst ⊢
      refine ⟨⟨hst.1, rfl, by omega, by simp [D.dep, D.deps]⟩, bcase_t (by simp [deq, deqs_nil_r]) ?_⟩
      refine getK_some (d := x.d) ?_ ?_
      · exact atI_last _ _
      have quiet : ∀ μ5, Vats a μ μ5 → Q (.tup [fusesD fs, .tup (r.map Act.d ++ [x.d])]) μ5 := fin
      have swap : x.adds = 0 → dTest (dBin kGt (dCall sp__law_under (dCons (dVar 0) (dCons (dC (.int 3)) dNil))) (dC (.int 0))) [some (.ref a), some (.int most), some (.int peak), some (fusesD fs), none, some (.int ((n + spotsIn (r ++ [x]) : Nat) : Int)), some (.int (spotsIn (r ++ [x]) : Nat)), some (.tup (r.map Act.d ++ [x.d])), none] μ4
          fun b μ1 => bcase b ((dAsg (dBin kAdd (dSl (dVar 7) dNoPart (dPart (dNeg (dC (.int 1))))) (dTup (dCons (dTup (dCons (dC (.str "ring")) dNil)) dNil))) (dName 7)) { nx := fun ρ μ => dRet (dTup (dCons (dVar 3) (dCons (dVar 7) dNil))) { nx := fun _ μ => Q .non μ, rt := Q } ρ μ, rt := Q } [some (.ref a), some (.int most), some (.int peak), some (fusesD fs), none, some (.int ((n + spotsIn (r ++ [x]) : Nat) : Int)), some (.int (spotsIn (r ++ [x]) : Nat)), some (.tup (r.map Act.d ++ [x.d])), none] μ1) (Q (.tup [fusesD fs, .tup (r.map Act.d ++ [x.d])]) μ1) := by
        intro hx
        refine ⟨a, 3, rfl, v4.vat, by decide, by decide, fun μ5 r3 v5 h0 h1 => ?_⟩
        have v05 := v4.trans v5
        refine bcase_of (fun _ => ?_) fun _ => quiet μ5 v05
        have ec : cut (r.map Act.d ++ [x.d]) none (some (-1)) = r.map Act.d := by
          have hl : (r.map Act.d ++ [x.d]).length = r.length + 1 := by simp
          have h1 : HT.sIx (r.length + 1) (r.length + 1) (some (-1)) = r.length := by
            simp only [HT.sIx]
            rw [if_pos (by decide)]; omega
          unfold cut
          rw [hl, h1, HT.sIx_none]
          simp
        have e := q μ5 ⟨fs, r ++ [.ring]⟩ v05 ⟨by show 1 ≤ fs.length; omega, by show fs.length ≤ 3; omega, hf, by show (r ++ [Act.ring]).length ≤ 12; simp at hl2 ⊢; omega, by
            show stepsOk fs.length (r ++ [.ring]); rw [hl]; exact stepsOk_append (stepsOk_prefix ho) ⟨trivial, trivial⟩, by
            show spotsIn (r ++ [.ring]) ≤ 2; rw [spotsIn_snoc] at hsp ⊢; have : Act.ring.adds = 0 := rfl; omega⟩ (by show (r ++ [Act.ring]).length ≤ most; simp at hl2 ⊢; omega) (by
            show spotsIn (r ++ [.ring]) ≤ peak; rw [spotsIn_snoc] at hsp ⊢; have : Act.ring.adds = 0 := rfl; omega)
        have e2 : Scr.d ⟨fs, r ++ [.ring]⟩ = .tup [fusesD fs, .tup (r.map Act.d ++ [.tup [.str "ring"]])] := by
          show D.tup [fusesD fs, stepsD (r ++ [.ring])] = _
          rw [stepsD_snoc]; rfl
        rw [e2] at e
        show (cut (r.map Act.d ++ [x.d]) none (some (-1))).length + 1 ≤ sizeLine ∧ Q (.tup [fusesD fs, .tup (cut (r.map Act.d ++ [x.d]) none (some (-1)) ++ [.tup [.str "ring"]])]) μ5
        rw [ec]
        exact ⟨by simp at hl2 ⊢; omega, e⟩
      cases x with
      | light p l => exact ⟨by cases l <;> decide +kernel, bcase_t (by decide +kernel) (swap rfl)⟩
      | quench p => exact ⟨by decide +kernel, bcase_t (by decide +kernel) (swap rfl)⟩
      | spot p => exact ⟨by decide +kernel, bcase_f (by decide +kernel) (quiet μ4 v4)⟩
      | wait p => exact ⟨by decide +kernel, bcase_f (by decide +kernel) (quiet μ4 v4)⟩
      | first => exact ⟨by decide +kernel, bcase_f (by decide +kernel) (quiet μ4 v4)⟩
      | ring => exact ⟨by decide +kernel, bcase_f (by decide +kernel) (quiet μ4 v4)⟩
    · simp [spotsIn, stepsD, hl]
end Li

set_option Elab.async false
set_option linter.all false
set_option maxRecDepth 100000
set_option maxHeartbeats 1000000
/-! The program's checks. -/
namespace Li
open PySem PySem.Spec PyProof.Rows L2
variable [Tbl]
/-- data: no object, texts as texts are, not deep -/
def Dat (v : D) : Prop := v.lay = true ∧ v.dep ≤ 40
theorem Dat.ty {v : D} (h : Dat v) : ∃ n, tyName v = some n := by
  obtain ⟨h, _⟩ := h
  cases v <;> first | exact ⟨_, rfl⟩ | simp [D.lay] at h
theorem lays_mem : ∀ {ds : List D}, D.lays ds = true → ∀ d ∈ ds, d.lay = true
  | [], _, d, h => by cases h
  | x :: xs, l, d, h => by
    have l' : x.lay = true ∧ D.lays xs = true := by simpa [D.lays] using l
    rcases List.mem_cons.mp h with rfl | h
    · exact l'.1
    · exact lays_mem l'.2 d h
theorem lays_of : ∀ {ds : List D}, (∀ d ∈ ds, d.lay = true) → D.lays ds = true
  | [], _ => by simp [D.lays]
  | x :: xs, h => by simp [D.lays, h x List.mem_cons_self, lays_of fun d hd => h d (List.mem_cons_of_mem _ hd)]
theorem deps_mem : ∀ {ds : List D} {n : Nat}, D.deps ds ≤ n → ∀ d ∈ ds, d.dep ≤ n
  | [], _, _, d, h => by cases h
  | x :: xs, n, l, d, h => by
    simp only [D.deps] at l
    rcases List.mem_cons.mp h with rfl | h
    · omega
    · exact deps_mem (ds := xs) (by omega) d h
theorem deps_of : ∀ {ds : List D} {n : Nat}, (∀ d ∈ ds, d.dep ≤ n) → D.deps ds ≤ n
  | [], _, _ => by simp [D.deps]
  | x :: xs, n, h => by
    have h1 := h x List.mem_cons_self
    have h2 := deps_of (ds := xs) (n := n) fun d hd => h d (List.mem_cons_of_mem _ hd)
    simp only [D.deps]
    omega
theorem Dat.mem {ds : List D} (h : Dat (.tup ds)) : ∀ d ∈ ds, Dat d := fun d hd => by
  obtain ⟨h1, h2⟩ := h
  exact ⟨lays_mem (by simpa only [D.lay] using h1) d hd, by
    have := deps_mem (ds := ds) (n := 39) (by simp only [D.dep] at h2; omega) d hd
    omega⟩
theorem Dat.list {ds : List D} (h : ∀ d ∈ ds, Dat d) : okEq (.lst ds) (.lst []) := ⟨by simp only [D.lay]; exact lays_of fun d hd => (h d hd).1, rfl, by
    have := deps_of (ds := ds) (n := 40) fun d hd => (h d hd).2
    simp only [D.dep]; omega, by simp [D.dep, D.deps]⟩
theorem Dat.eqv {v w : D} (h : Dat v) (g : Dat w) : okEq v w := ⟨h.1, g.1, by have := h.2; omega, by have := g.2; omega⟩
theorem dat_int (i : Int) : Dat (.int i) := ⟨rfl, by simp [D.dep]⟩
theorem deq_lst_nil (ds : List D) : deq (.lst ds) (.lst []) = ds.isEmpty := by simp only [deq, deqs_nil_r]
theorem any_str (w : Str) : ∀ ws : List Str, ((ws.map D.str).any fun z => deq z (.str w)) = decide (w ∈ ws)
  | [] => by simp
  | z :: ws => by
    simp only [List.map_cons, List.any_cons, any_str w ws, deq, List.mem_cons]
    by_cases h : w = z
    · subst h; simp
    · have : (z == w) = false := beq_eq_false_iff_ne.mpr (Ne.symm h)
      simp [h, this]
/-! ### what the checks say -/
def isWhole (v : D) (lo hi : Int) : Bool := match v with
  | .int i => decide (lo ≤ i) && decide (i ≤ hi)
  | _ => false
def gcd1 : D → D → Bool
  | .int a, .int b => decide (Int.gcd a b = 1)
  | _, _ => false
def isFrac (v : D) (lo hi be : Int) : Bool := match v with
  | .tup [x, y] => isWhole x lo hi && isWhole y 1 be && gcd1 x y
  | _ => false
def under1000 : D → D → Bool
  | .int a, .int b => decide (a ≤ 1000 * b)
  | _, _ => false
def tupUnder (v : D) : Bool := match v with
  | .tup [x, y] => under1000 x y
  | _ => false
def isTime (v : D) : Bool := isFrac v 0 (10 ^ 45) (10 ^ 45) && tupUnder v
def isWord (v : D) (ws : List D) : Bool := match v with
  | .str w => ws.any fun z => deq z (.str w)
  | _ => false
def isFuses (v : D) : Bool := match v with
  | .tup ds => decide (1 ≤ ds.length) && decide (ds.length ≤ 3) && ds.all fun d => isWhole d 1 60
  | _ => false
def sides : List D := [.str "left", .str "right"]
def d_SIDES : D := .tup sides
def d_MOST_STEPS : D := .int 12
def d_MOST_SPOTS : D := .int 2
def isStep (p : Int) (v : D) : Bool := match v with
  | .tup [.str w] => decide (w ∈ (["first", "ring"] : List Str))
  | .tup [.str w, x] => decide (w ∈ (["spot", "quench", "wait"] : List Str)) && isWhole x 0 (p - 1)
  | .tup [.str w, x, y] => decide (w = "light") && isWhole x 0 (p - 1) && isWord y sides
  | _ => false
def isHead (w : Str) (v : D) : Bool := match v with
  | .tup (.str x :: _) => decide (x = w)
  | _ => false
def areSteps : Int → List D → Bool
  | _, [] => true
  | p, d :: ds => isStep p d && areSteps (if isHead "spot" d then p + 1 else p) ds
def countD (w : Str) (ds : List D) : Nat := (ds.filter (isHead w)).length
def lenD (v : D) : Nat := match v with
  | .tup fs => fs.length
  | _ => 0
def isScript (v : D) : Bool := match v with
  | .tup [f, .tup ss] => isFuses f && decide (ss.length ≤ 12) && areSteps (lenD f) ss && decide (countD "spot" ss ≤ 2)
  | _ => false
def ringsD (v : D) : Nat := match v with
  | .tup [_, .tup ss] => countD "ring" ss
  | _ => 0
def spotsD (v : D) : Nat := match v with
  | .tup [_, .tup ss] => countD "spot" ss
  | _ => 0
def piecesD (v : D) : Nat := match v with
  | .tup [f, .tup ss] => lenD f + countD "spot" ss
  | _ => 0
def isFact (s v : D) : Bool := match v with
  | .tup [.str w, x] => decide (w ∈ (["out", "left"] : List Str)) && isWhole x 0 (piecesD s - 1)
  | .tup [.str w, x, t] => decide (w ∈ (["before", "at", "after"] : List Str)) && isWhole x 0 (ringsD s - 1) && isTime t
  | _ => false
def Headed (d : D) : Prop := Dat d ∧ ∃ w r, d = .tup (.str w :: r)
/-! ### promises -/
def sp_is_whole : DSp := fun ds μ Q E => ∃ v lo hi, ds = [v, .int lo, .int hi] ∧ Dat v ∧ Q (.bl (isWhole v lo hi)) μ
def sp_divisor : DSp := fun ds μ Q E => ∃ a b : Int, ds = [.int a, .int b] ∧ Q (.int (Int.gcd a b)) μ
def sp_is_fraction : DSp := fun ds μ Q E => ∃ v lo hi be, ds = [v, .int lo, .int hi, .int be] ∧ Dat v ∧ Q (.bl (isFrac v lo hi be)) μ
def sp_is_time : DSp := fun ds μ Q E => ∃ v, ds = [v] ∧ Dat v ∧ Q (.bl (isTime v)) μ
def sp_is_word : DSp := fun ds μ Q E => ∃ v ws, ds = [v, .tup ws] ∧ Dat v ∧ Dat (.tup ws) ∧ Q (.bl (isWord v ws)) μ
def sp_is_fuses : DSp := fun ds μ Q E => ∃ v, ds = [v] ∧ Dat v ∧ Q (.bl (isFuses v)) μ
def sp_is_step : DSp := fun ds μ Q E => ∃ p v, ds = [.int p, v] ∧ Dat v ∧ Q (.bl (isStep p v)) μ
abbrev nm_is_whole : List Str := ["value", "low", "high"]
abbrev ps_is_whole : List Str := ["value", "low", "high"]
def t_is_whole (Ed : DXK) : DTS := (dRet (dAndV (dCB kIsi (dCons (dVar 0) (dCons (dC (.ty "int")) dNil))) (dAndV (dNotV (dCB kIsi (dCons (dVar 0) (dCons (dC (.ty "bool")) dNil)))) (dChain kLe kLe (dVar 1) (dVar 0) (dVar 2)))))
abbrev nm_divisor : List Str := ["one", "other", "first", "second"]
abbrev ps_divisor : List Str := ["one", "other"]
def t_divisor (Ed : DXK) : DTS := (dSeq (dPar 2 3 (dCons (dCB kAbs (dCons (dVar 0) dNil)) (dCons (dCB kAbs (dCons (dVar 1) dNil)) dNil))) (dSeq (dWhile (dTest (dBin kGt (dVar 3) (dC (.int 0)))) (dPar 2 3 (dCons (dVar 3) (dCons (dBin kMod (dVar 2) (dVar 3)) dNil)))) (dRet (dVar 2))))
abbrev nm_is_fraction : List Str := ["value", "low", "high", "below"]
abbrev ps_is_fraction : List Str := ["value", "low", "high", "below"]
def t_is_fraction (Ed : DXK) : DTS := (dSeq (dIfS (dOr (dNot (dTest (dCB kIsi (dCons (dVar 0) (dCons (dC (.ty "tuple")) dNil))))) (dTest (dBin kNe (dCB kLen (dCons (dVar 0) dNil)) (dC (.int 2))))) (dRet (dC (.bl false))) dNext) (dSeq (dIfS (dOr (dNot (dTest (dCall sp_is_whole (dCons (dBin kIx (dVar 0) (dC (.int 0))) (dCons (dVar 1) (dCons (dVar 2) dNil)))))) (dNot (dTest (dCall sp_is_whole (dCons (dBin kIx (dVar 0) (dC (.int 1))) (dCons (dC (.int 1)) (dCons (dVar 3) dNil))))))) (dRet (dC (.bl false))) dNext) (dRet (dBin kEq (dCall sp_divisor (dCons (dBin kIx (dVar 0) (dC (.int 0))) (dCons (dBin kIx (dVar 0) (dC (.int 1))) dNil))) (dC (.int 1))))))
abbrev nm_is_time : List Str := ["value"]
abbrev ps_is_time : List Str := ["value"]
def t_is_time (Ed : DXK) : DTS := (dRet (dAndV (dCall sp_is_fraction (dCons (dVar 0) (dCons (dC (.int 0)) (dCons (dBin kPow (dC (.int 10)) (dC (.int 45))) (dCons (dBin kPow (dC (.int 10)) (dC (.int 45))) dNil))))) (dBin kLe (dBin kIx (dVar 0) (dC (.int 0))) (dBin kMul (dC (.int 1000)) (dBin kIx (dVar 0) (dC (.int 1)))))))
abbrev nm_is_word : List Str := ["value", "words"]
abbrev ps_is_word : List Str := ["value", "words"]
def t_is_word (Ed : DXK) : DTS := (dRet (dAndV (dCB kIsi (dCons (dVar 0) (dCons (dC (.ty "str")) dNil))) (dBin kIn (dVar 0) (dVar 1))))
abbrev nm_is_fuses : List Str := ["value", "fuse"]
abbrev ps_is_fuses : List Str := ["value"]
def t_is_fuses (Ed : DXK) : DTS := (dSeq (dIfS (dOr (dNot (dTest (dCB kIsi (dCons (dVar 0) (dCons (dC (.ty "tuple")) dNil))))) (dNot (dTest (dChain kLe kLe (dC (.int 1)) (dCB kLen (dCons (dVar 0) dNil)) (dC (.int 3)))))) (dRet (dC (.bl false))) dNext) (dRet (dBin kEq (dLc (dSeqI (dVar 0)) (dName 1) (dNot (dTest (dCall sp_is_whole (dCons (dVar 1) (dCons (dC (.int 1)) (dCons (dC (.int 60)) dNil)))))) (dVar 1) [1]) (dLst dNil))))
abbrev nm_is_step : List Str := ["pieces", "value"]
abbrev ps_is_step : List Str := ["pieces", "value"]
def t_is_step (Ed : DXK) : DTS := (dSeq (dIfS (dOr (dNot (dTest (dCB kIsi (dCons (dVar 1) (dCons (dC (.ty "tuple")) dNil))))) (dOr (dTest (dBin kEq (dVar 1) (dTup dNil))) (dNot (dTest (dCB kIsi (dCons (dBin kIx (dVar 1) (dC (.int 0))) (dCons (dC (.ty "str")) dNil))))))) (dRet (dC (.bl false))) dNext) (dSeq (dIfS (dTest (dBin kIn (dBin kIx (dVar 1) (dC (.int 0))) (dTup (dCons (dC (.str "first")) (dCons (dC (.str "ring")) dNil))))) (dRet (dBin kEq (dCB kLen (dCons (dVar 1) dNil)) (dC (.int 1)))) dNext) (dSeq (dIfS (dTest (dBin kEq (dBin kIx (dVar 1) (dC (.int 0))) (dC (.str "light")))) (dRet (dAndV (dBin kEq (dCB kLen (dCons (dVar 1) dNil)) (dC (.int 3))) (dAndV (dCall sp_is_whole (dCons (dBin kIx (dVar 1) (dC (.int 1))) (dCons (dC (.int 0)) (dCons (dBin kSub (dVar 0) (dC (.int 1))) dNil)))) (dCall sp_is_word (dCons (dBin kIx (dVar 1) (dC (.int 2))) (dCons (dC d_SIDES) dNil)))))) dNext) (dRet (dAndV (dBin kIn (dBin kIx (dVar 1) (dC (.int 0))) (dTup (dCons (dC (.str "spot")) (dCons (dC (.str "quench")) (dCons (dC (.str "wait")) dNil))))) (dAndV (dBin kEq (dCB kLen (dCons (dVar 1) dNil)) (dC (.int 2))) (dCall sp_is_whole (dCons (dBin kIx (dVar 1) (dC (.int 1))) (dCons (dC (.int 0)) (dCons (dBin kSub (dVar 0) (dC (.int 1))) dNil))))))))))

theorem pure_is_whole (ds : List D) (μ : MS) (Q : DK) (Ed : DXK) (h : sp_is_whole ds μ Q Ed) : t_is_whole Ed { nx := fun _ μ => Q .non μ, rt := Q } (dstart nm_is_whole ds) μ := by
  obtain ⟨v, lo, hi, rfl, hv, q⟩ := h
  cases v with
  | int i =>
    refine bcase_of (fun h1 => ?_) fun h1 => ?_
    · have h1 : decide (lo ≤ i) = true := h1
      have e : isWhole (.int i) lo hi = decide (i ≤ hi) := by show (decide (lo ≤ i) && decide (i ≤ hi)) = _; rw [h1]; rfl
      rw [e] at q
      exact q
    · have h1 : decide (lo ≤ i) = false := h1
      have e : isWhole (.int i) lo hi = false := by show (decide (lo ≤ i) && decide (i ≤ hi)) = _; rw [h1]; rfl
      rw [e] at q
      exact q
  | non => exact q
  | bl b => exact q
  | str b => exact q
  | tup b => exact q
  | lst b => exact q
  | _ => exact absurd hv.1 (by simp [D.lay])
theorem pure_divisor (ds : List D) (μ : MS) (Q : DK) (Ed : DXK) (h : sp_divisor ds μ Q Ed) : t_divisor Ed { nx := fun _ μ => Q .non μ, rt := Q } (dstart nm_divisor ds) μ := by
  obtain ⟨a, b, rfl, q⟩ := h
  refine ⟨fun m ρ μ' => ∃ x y : Nat, m = y ∧ μ' = μ ∧ ρ = [some (.int a), some (.int b), some (.int x), some (.int y)] ∧ Nat.gcd x y = Int.gcd a b, ⟨_, a.natAbs, b.natAbs, rfl, rfl, rfl, rfl⟩, ?_⟩
  rintro m ρ μ' ⟨x, y, rfl, rfl, rfl, e⟩
  refine bcase_of (fun h1 => ?_) fun h1 => ?_
  · have h1 : (0 : Int) < m := of_decide_eq_true h1
    refine ⟨fun ρ μ'' => ∃ x y' : Nat, y' < m ∧ μ'' = μ' ∧ ρ = [some (.int a), some (.int b), some (.int x), some (.int y')] ∧ Nat.gcd x y' = Int.gcd a b, fun ρ' μ'' ⟨x', y', h, h2, h3, h4⟩ => ⟨y', h, x', y', rfl, h2, h3, h4⟩, ?_⟩
    refine ⟨h1, m, x % m, Nat.mod_lt _ (by omega), rfl, rfl, ?_⟩
    rw [← e, Nat.gcd_comm x m, Nat.gcd_rec m x, Nat.gcd_comm]
  · have h1 : ¬ (0 : Int) < m := of_decide_eq_false h1
    have : m = 0 := by omega
    subst this
    rw [Nat.gcd_zero_right] at e
    rw [← e] at q
    exact q
theorem len_ne {ds : List D} {n : Int} (h : (ds.length : Int) ≠ n) : (!deq (.int (ds.length : Nat)) (.int n)) = true := by simp [deq, h]
theorem isWhole_int {v : D} {lo hi : Int} (h : isWhole v lo hi = true) : ∃ i, v = .int i := by
  cases v <;> first | exact ⟨_, rfl⟩ | cases h
theorem pure_is_fraction (ds : List D) (μ : MS) (Q : DK) (Ed : DXK) (h : sp_is_fraction ds μ Q Ed) : t_is_fraction Ed { nx := fun _ μ => Q .non μ, rt := Q } (dstart nm_is_fraction ds) μ := by
  obtain ⟨v, lo, hi, be, rfl, hv, q⟩ := h
  cases v with
  | tup es =>
    refine ⟨Dat.eqv (dat_int _) (dat_int _), ?_⟩
    match es, hv, q with
    | [], hv, q => exact bcase_t (len_ne (by decide)) q
    | [x], hv, q => exact bcase_t (len_ne (by simp)) q
    | x :: y :: z :: r, hv, q => exact bcase_t (len_ne (by simp only [List.length_cons]; omega)) q
    | [x, y], hv, q =>
      have e2 : isFrac (.tup [x, y]) lo hi be = (isWhole x lo hi && isWhole y 1 be && gcd1 x y) := rfl
      rw [e2] at q
      refine bcase_f (by simp [deq]) ⟨x, lo, hi, rfl, hv.mem x (by simp), ?_⟩
      refine bcase_of (fun h => ?_) fun h => ?_
      · have hx : isWhole x lo hi = false := by simpa using h
        rw [hx] at q
        exact q
      · have hx : isWhole x lo hi = true := by simpa using h
        refine ⟨y, 1, be, rfl, hv.mem y (by simp), ?_⟩
        rw [hx] at q
        refine bcase_of (fun h => ?_) fun h => ?_
        · have hy : isWhole y 1 be = false := by simpa using h
          rw [hy] at q
          exact q
        · have hy : isWhole y 1 be = true := by simpa using h
          obtain ⟨a, rfl⟩ := isWhole_int hx
          obtain ⟨b, rfl⟩ := isWhole_int hy
          refine ⟨a, b, rfl, Dat.eqv (dat_int _) (dat_int _), ?_⟩
          have e2 : gcd1 (.int a) (.int b) = deq (.int (Int.gcd a b)) (.int 1) := by
            simp only [deq, gcd1]
            rw [Bool.eq_iff_iff]
            simp
            omega
          rw [hy, e2] at q
          exact q
  | non => exact q
  | bl b => exact q
  | str b => exact q
  | int b => exact q
  | lst b => exact q
  | _ => exact absurd hv.1 (by simp [D.lay])

theorem pure_is_time (ds : List D) (μ : MS) (Q : DK) (Ed : DXK) (h : sp_is_time ds μ Q Ed) : t_is_time Ed { nx := fun _ μ => Q .non μ, rt := Q } (dstart nm_is_time ds) μ := by
  obtain ⟨v, rfl, hv, q⟩ := h
  refine ⟨⟨by decide, by decide, by decide⟩, ⟨by decide, by decide, by decide⟩, v, 0, 10 ^ 45, 10 ^ 45, rfl, hv, ?_⟩
  unfold isTime at q
  refine bcase_of (fun h => ?_) fun h => ?_
  · rw [h] at q
    unfold isFrac at h
    split at h
    · rename_i x y
      have h1 : isWhole x 0 (10 ^ 45) = true := by cases e : isWhole x 0 (10 ^ 45) with
        | true => rfl
        | false => rw [e] at h; cases h
      have h2 : isWhole y 1 (10 ^ 45) = true := by cases e : isWhole y 1 (10 ^ 45) with
        | true => rfl
        | false => rw [e, Bool.and_false] at h; cases h
      obtain ⟨a, rfl⟩ := isWhole_int h1
      obtain ⟨b, rfl⟩ := isWhole_int h2
      exact ⟨mulOk_l (by decide) (by decide), q⟩
    · cases h
  · rw [h] at q
    exact q
theorem pure_is_word (ds : List D) (μ : MS) (Q : DK) (Ed : DXK) (h : sp_is_word ds μ Q Ed) : t_is_word Ed { nx := fun _ μ => Q .non μ, rt := Q } (dstart nm_is_word ds) μ := by
  obtain ⟨v, ws, rfl, hv, hw, q⟩ := h
  cases v with
  | str w => exact ⟨hv.eqv hw, by rw [show isWord (.str w) ws = (false != ws.any fun z => deq z (.str w)) by rw [Bool.false_bne]; rfl] at q; exact q⟩
  | non => exact q
  | bl b => exact q
  | int b => exact q
  | tup b => exact q
  | lst b => exact q
  | _ => exact absurd hv.1 (by simp [D.lay])
theorem deq_filter (f : D → Bool) (ds : List D) : deq (.lst (ds.filter fun d => !f d)) (.lst []) = ds.all f := by
  rw [deq_lst_nil]
  induction ds with
  | nil => rfl
  | cons d ds ih =>
    simp only [List.filter_cons, List.all_cons]
    cases e : f d with
    | true => simpa using ih
    | false => simp
theorem lcL_filter {g : DTG} {tt : DTT} {te : DTE} {ρ : DSt} {μ : MS} (p : D → Bool) (ds : List D) (Q : List D → MS → Prop)
    (h : ∀ d, d ∈ ds → ∀ (A : D → MS → Prop) (Z : MS → Prop), (p d = true → A d μ) → (p d = false → Z μ) → g d ρ μ fun ρ2 μ2 => tt ρ2 μ2 fun b μ3 => bcase b (te ρ2 μ3 A) (Z μ3)) (q : Q (ds.filter p) μ) : lcL g tt te ρ ds μ Q := by
  refine lcL_pure (fun d => if p d then some d else none) ds Q (fun d hd A Z m => h d hd A Z (fun e => by simpa [e] using m) fun e => by simpa [e] using m) ?_
  have : ds.filterMap (fun d => if p d then some d else none) = ds.filter p := congrFun (List.filterMap_eq_filter (p := p)) ds
  rw [this]
  exact q
theorem pure_is_fuses (ds : List D) (μ : MS) (Q : DK) (Ed : DXK) (h : sp_is_fuses ds μ Q Ed) : t_is_fuses Ed { nx := fun _ μ => Q .non μ, rt := Q } (dstart nm_is_fuses ds) μ := by
  obtain ⟨v, rfl, hv, q⟩ := h
  cases v with
  | tup es =>
    have e : isFuses (.tup es) = (decide ((1 : Int) ≤ es.length) && decide ((es.length : Int) ≤ 3) && es.all fun d => isWhole d 1 60) := by
      show (decide (1 ≤ es.length) && decide (es.length ≤ 3) && _) = _
      congr 2 <;> exact decide_eq_decide.mpr (by omega)
    rw [e] at q
    have tail : ∀ Q : DK, Q (.bl (es.all fun d => isWhole d 1 60)) μ → (dRet (dBin kEq (dLc (dSeqI (dVar 0)) (dName 1) (dNot (dTest (dCall sp_is_whole (dCons (dVar 1) (dCons (dC (.int 1)) (dCons (dC (.int 60)) dNil)))))) (dVar 1) [1]) (dLst dNil))) { nx := fun _ μ => Q .non μ, rt := Q } (dstart nm_is_fuses [.tup es]) μ := by
      intro Q q
      refine lcL_filter (fun d => !isWhole d 1 60) es _ (fun d hd A Z a z => ⟨d, 1, 60, rfl, hv.mem d hd, bcase_of a z⟩) ?_
      rw [← deq_filter] at q
      exact ⟨Dat.list fun d hd => hv.mem d (List.mem_filter.mp hd).1, q⟩
    refine bcase_of (fun h => ?_) fun h => ?_
    · have h : decide ((1 : Int) ≤ es.length) = true := h
      rw [h] at q
      refine bcase_of (fun h => ?_) fun h => ?_
      · have h : decide ((es.length : Int) ≤ 3) = false := by simpa using h
        rw [h] at q
        exact q
      · have h : decide ((es.length : Int) ≤ 3) = true := by simpa using h
        rw [h] at q
        exact tail Q q
    · have h : decide ((1 : Int) ≤ es.length) = false := h
      rw [h] at q
      exact q
  | non => exact q
  | bl b => exact q
  | int b => exact q
  | str b => exact q
  | lst b => exact q
  | _ => exact absurd hv.1 (by simp [D.lay])
end Li

set_option Elab.async false
set_option linter.all false
set_option maxRecDepth 100000
set_option maxHeartbeats 1000000
namespace Li
open PySem PySem.Spec PyProof.Rows L2
variable [Tbl]
theorem in_t {w : Str} {ws : List Str} (h : (false != ((ws.map D.str).any fun z => deq z (.str w))) = true) : w ∈ ws := by
  rw [any_str, Bool.false_bne] at h
  exact of_decide_eq_true h
theorem in_f {w : Str} {ws : List Str} (h : (false != ((ws.map D.str).any fun z => deq z (.str w))) = false) : w ∉ ws := by
  rw [any_str, Bool.false_bne] at h
  exact of_decide_eq_false h
theorem deq_s (w z : Str) : deq (.str w) (.str z) = decide (w = z) := by
  simp only [deq]
  by_cases h : w = z
  · subst h; simp
  · simp [h]
theorem deq_i (i j : Int) : deq (.int i) (.int j) = decide (i = j) := by
  simp only [deq]
  by_cases h : i = j
  · subst h; simp
  · simp [h]
theorem deq_nil (x : D) (r : List D) : deq (.tup (x :: r)) (.tup []) = false := by simp [deq, deqs]
theorem Dat.of (v : D) (h : v.lay = true) (g : v.dep ≤ 40) : Dat v := ⟨h, g⟩
theorem dat_nil : Dat (.tup []) := ⟨by decide +kernel, by decide +kernel⟩
theorem at0 (x : D) (r : List D) : atI (x :: r) 0 = some x := atI_nat (j := 0) rfl
theorem dat_sides : Dat (.tup sides) := ⟨by decide +kernel, by decide +kernel⟩
theorem pure_is_step (ds : List D) (μ : MS) (Q : DK) (Ed : DXK) (h : sp_is_step ds μ Q Ed) : t_is_step Ed { nx := fun _ μ => Q .non μ, rt := Q } (dstart nm_is_step ds) μ := by
  obtain ⟨p, v, rfl, hv, q⟩ := h
  cases v with
  | tup es =>
    match es, hv, q with
    | [], hv, q => exact ⟨hv.eqv dat_nil, bcase_t (by decide +kernel) q⟩
    | x :: r, hv, q =>
      refine ⟨hv.eqv dat_nil, bcase_f (deq_nil x r) ?_⟩
      have hx : Dat x := hv.mem x (by simp)
      refine getK_some (at0 x r) ?_
      cases x with
      | str w =>
        refine getK_some (at0 _ r) ⟨hx.eqv ⟨by decide +kernel, by decide +kernel⟩, bcase_of (fun h => ?_) fun h => ?_⟩
        · have h := in_t (ws := ["first", "ring"]) h
          refine ⟨(dat_int _).eqv (dat_int _), ?_⟩
          have e : isStep p (.tup (.str w :: r)) = deq (.int ((D.str w :: r).length : Nat)) (.int 1) := by
            rw [deq_i]
            match r, hv with
            | [], _ => exact decide_eq_true h
            | [y], _ =>
              have : w ∉ (["spot", "quench", "wait"] : List Str) := by
                rcases List.mem_cons.mp h with rfl | h
                · decide +kernel
                · rw [List.mem_singleton.mp h]; decide +kernel
              show (decide (w ∈ (["spot", "quench", "wait"] : List Str)) && _) = _
              rw [decide_eq_false this]
              rfl
            | [y, z], _ =>
              have : w ≠ "light" := by
                rcases List.mem_cons.mp h with rfl | h
                · decide +kernel
                · rw [List.mem_singleton.mp h]; decide +kernel
              show (decide (w = "light") && _ && _) = _
              rw [decide_eq_false this]
              rfl
            | y :: z :: u :: r, _ => exact (decide_eq_false (by simp only [List.length_cons]; omega)).symm
          rw [e] at q
          exact q
        · have h := in_f (ws := ["first", "ring"]) h
          refine getK_some (at0 _ r) ⟨hx.eqv ⟨by decide +kernel, by decide +kernel⟩, bcase_of (fun h2 => ?_) fun h2 => ?_⟩
          · have h2 : w = "light" := of_decide_eq_true ((deq_s _ _).symm.trans h2)
            subst h2
            refine ⟨(dat_int _).eqv (dat_int _), ?_⟩
            match r, hv, q with
            | [y, z], hv, q =>
              have e : isStep p (.tup [.str "light", y, z]) = (isWhole y 0 (p - 1) && isWord z sides) := by
                show (decide ((Str.ofString "light") = Str.ofString "light") && _ && _) = _
                rw [decide_eq_true rfl, Bool.true_and]
              rw [e] at q
              refine ⟨y, 0, p - 1, rfl, hv.mem y (by simp), ?_⟩
              cases h3 : isWhole y 0 (p - 1) with
              | false => rw [h3] at q; exact q
              | true => rw [h3] at q; exact ⟨z, sides, rfl, hv.mem z (by simp), dat_sides, q⟩
            | [], hv, q => exact q
            | [y], hv, q => exact q
            | y :: z :: u :: r, hv, q => exact bcase_f (by rw [deq_i]; exact decide_eq_false (by simp only [List.length_cons]; omega)) q
          · have h2 : w ≠ "light" := of_decide_eq_false ((deq_s _ _).symm.trans h2)
            refine getK_some (at0 _ r) ⟨hx.eqv ⟨by decide +kernel, by decide +kernel⟩, bcase_of (fun h3 => ?_) fun h3 => ?_⟩
            · have h3 := in_t (ws := ["spot", "quench", "wait"]) h3
              refine ⟨(dat_int _).eqv (dat_int _), ?_⟩
              match r, hv, q with
              | [y], hv, q =>
                have e : isStep p (.tup [.str w, y]) = isWhole y 0 (p - 1) := by
                  show (decide (w ∈ (["spot", "quench", "wait"] : List Str)) && _) = _
                  rw [decide_eq_true h3, Bool.true_and]
                rw [e] at q
                exact bcase_t (by rw [deq_i]; exact decide_eq_true rfl) ⟨y, 0, p - 1, rfl, hv.mem y (by simp), q⟩
              | [], hv, q =>
                have e : isStep p (.tup [.str w]) = false := decide_eq_false h
                rw [e] at q
                exact bcase_f (by rw [deq_i]; exact decide_eq_false (by simp)) q
              | [y, z], hv, q =>
                have e : isStep p (.tup [.str w, y, z]) = false := by
                  show (decide (w = "light") && _ && _) = _
                  rw [decide_eq_false h2]
                  rfl
                rw [e] at q
                exact bcase_f (by rw [deq_i]; exact decide_eq_false (by simp)) q
              | y :: z :: u :: r, hv, q => exact bcase_f (by rw [deq_i]; exact decide_eq_false (by simp only [List.length_cons]; omega)) q
            · have h3 := in_f (ws := ["spot", "quench", "wait"]) h3
              have e : isStep p (.tup (.str w :: r)) = false := by
                match r with
                | [] => exact decide_eq_false h
                | [y] => show (decide (w ∈ (["spot", "quench", "wait"] : List Str)) && _) = _; rw [decide_eq_false h3]; rfl
                | [y, z] => show (decide (w = "light") && _ && _) = _; rw [decide_eq_false h2]; rfl
                | y :: z :: u :: r => rfl
              rw [e] at q
              exact q
      | non => exact q
      | bl b => exact q
      | int b => exact q
      | tup b => exact q
      | lst b => exact q
      | _ => exact absurd hx.1 (by simp [D.lay])
  | non => exact q
  | bl b => exact q
  | int b => exact q
  | str b => exact q
  | lst b => exact q
  | _ => exact absurd hv.1 (by simp [D.lay])
end Li

set_option Elab.async false
set_option linter.all false
set_option maxRecDepth 100000
set_option maxHeartbeats 1000000
/-! The program's checks of scripts and facts. -/
namespace Li
open PySem PySem.Spec PyProof.Rows L2
variable [Tbl]
section
variable [cC : Cls]
def sp_are_steps : DSp := fun ds μ Q E => ∃ (p : Int) (ss : List D), ds = [.int p, .tup ss] ∧ Dat (.tup ss) ∧ Q (.bl (areSteps p ss)) μ
def sp_spots_of : DSp := fun ds μ Q E => ∃ (ss : List D), ds = [.tup ss] ∧ (∀ d ∈ ss, Headed d) ∧ Q (.int (countD "spot" ss : Nat)) μ
def sp_is_script : DSp := fun ds μ Q E => ∃ v, ds = [v] ∧ Dat v ∧ Q (.bl (isScript v)) μ
def sp_rings_of : DSp := fun ds μ Q E => ∃ v, ds = [v] ∧ Dat v ∧ isScript v = true ∧ Q (.int (ringsD v : Nat)) μ
def sp_pieces_of : DSp := fun ds μ Q E => ∃ v, ds = [v] ∧ Dat v ∧ isScript v = true ∧ Q (.int (piecesD v : Nat)) μ
def sp_need_script : DSp := fun ds μ Q E => ∃ v, ds = [v] ∧ Dat v ∧ (isScript v = true → Q .non μ) ∧ (isScript v = false → E (.ref cC.InvalidScript) none μ)
def sp_good_fact : DSp := fun ds μ Q E => ∃ s v, ds = [s, v] ∧ Dat s ∧ isScript s = true ∧ Dat v ∧ Q (.bl (isFact s v)) μ
def sp_is_fact : DSp := fun ds μ Q E => ∃ s v, ds = [s, v] ∧ Dat s ∧ (isScript s = true → Dat v ∧ Q (.bl (isFact s v)) μ) ∧ (isScript s = false → E (.ref cC.InvalidScript) none μ)
def sp_count_rings : DSp := fun ds μ Q E => ∃ v, ds = [v] ∧ Dat v ∧ (isScript v = true → Q (.int (ringsD v : Nat)) μ) ∧ (isScript v = false → E (.ref cC.InvalidScript) none μ)
def sp_count_spots : DSp := fun ds μ Q E => ∃ v, ds = [v] ∧ Dat v ∧ (isScript v = true → Q (.int (spotsD v : Nat)) μ) ∧ (isScript v = false → E (.ref cC.InvalidScript) none μ)
def sp_count_pieces : DSp := fun ds μ Q E => ∃ v, ds = [v] ∧ Dat v ∧ (isScript v = true → Q (.int (piecesD v : Nat)) μ) ∧ (isScript v = false → E (.ref cC.InvalidScript) none μ)
abbrev nm_are_steps : List Str := ["pieces", "steps", "step"]
abbrev ps_are_steps : List Str := ["pieces", "steps"]
def t_are_steps (Ed : DXK) : DTS := (dSeq (dFor (dSeqI (dVar 1)) (dName 2) (dForget [2] (dSeq (dIfS (dNot (dTest (dCall sp_is_step (dCons (dVar 0) (dCons (dVar 2) dNil))))) (dRet (dC (.bl false))) dNext) (dIfS (dTest (dBin kEq (dBin kIx (dVar 2) (dC (.int 0))) (dC (.str "spot")))) (dAsg (dBin kAdd (dVar 0) (dC (.int 1))) (dName 0)) dNext)))) (dRet (dC (.bl true))))
abbrev nm_spots_of : List Str := ["steps", "step"]
abbrev ps_spots_of : List Str := ["steps"]
def t_spots_of (Ed : DXK) : DTS := (dRet (dCB kLen (dCons (dLc (dSeqI (dVar 0)) (dName 1) (dTest (dBin kEq (dBin kIx (dVar 1) (dC (.int 0))) (dC (.str "spot")))) (dVar 1) [1]) dNil)))
abbrev nm_is_script : List Str := ["value"]
abbrev ps_is_script : List Str := ["value"]
def t_is_script (Ed : DXK) : DTS := (dSeq (dIfS (dOr (dNot (dTest (dCB kIsi (dCons (dVar 0) (dCons (dC (.ty "tuple")) dNil))))) (dOr (dTest (dBin kNe (dCB kLen (dCons (dVar 0) dNil)) (dC (.int 2)))) (dNot (dTest (dCall sp_is_fuses (dCons (dBin kIx (dVar 0) (dC (.int 0))) dNil)))))) (dRet (dC (.bl false))) dNext) (dSeq (dIfS (dOr (dNot (dTest (dCB kIsi (dCons (dBin kIx (dVar 0) (dC (.int 1))) (dCons (dC (.ty "tuple")) dNil))))) (dTest (dBin kGt (dCB kLen (dCons (dBin kIx (dVar 0) (dC (.int 1))) dNil)) (dC d_MOST_STEPS)))) (dRet (dC (.bl false))) dNext) (dRet (dAndV (dCall sp_are_steps (dCons (dCB kLen (dCons (dBin kIx (dVar 0) (dC (.int 0))) dNil)) (dCons (dBin kIx (dVar 0) (dC (.int 1))) dNil))) (dBin kLe (dCall sp_spots_of (dCons (dBin kIx (dVar 0) (dC (.int 1))) dNil)) (dC d_MOST_SPOTS))))))
abbrev nm_rings_of : List Str := ["script", "step"]
abbrev ps_rings_of : List Str := ["script"]
def t_rings_of (Ed : DXK) : DTS := (dRet (dCB kLen (dCons (dLc (dSeqI (dBin kIx (dVar 0) (dC (.int 1)))) (dName 1) (dTest (dBin kEq (dBin kIx (dVar 1) (dC (.int 0))) (dC (.str "ring")))) (dVar 1) [1]) dNil)))
abbrev nm_pieces_of : List Str := ["script"]
abbrev ps_pieces_of : List Str := ["script"]
def t_pieces_of (Ed : DXK) : DTS := (dRet (dBin kAdd (dCB kLen (dCons (dBin kIx (dVar 0) (dC (.int 0))) dNil)) (dCall sp_spots_of (dCons (dBin kIx (dVar 0) (dC (.int 1))) dNil))))
abbrev nm_need_script : List Str := ["script"]
abbrev ps_need_script : List Str := ["script"]
def t_need_script (Ed : DXK) : DTS := (dIfS (dNot (dTest (dCall sp_is_script (dCons (dVar 0) dNil)))) (dRaise cC.InvalidScript Ed) dNext)
abbrev nm_good_fact : List Str := ["script", "value"]
abbrev ps_good_fact : List Str := ["script", "value"]
def t_good_fact (Ed : DXK) : DTS := (dSeq (dIfS (dOr (dNot (dTest (dCB kIsi (dCons (dVar 1) (dCons (dC (.ty "tuple")) dNil))))) (dOr (dTest (dBin kEq (dVar 1) (dTup dNil))) (dNot (dTest (dCB kIsi (dCons (dBin kIx (dVar 1) (dC (.int 0))) (dCons (dC (.ty "str")) dNil))))))) (dRet (dC (.bl false))) dNext) (dSeq (dIfS (dTest (dBin kIn (dBin kIx (dVar 1) (dC (.int 0))) (dTup (dCons (dC (.str "out")) (dCons (dC (.str "left")) dNil))))) (dRet (dAndV (dBin kEq (dCB kLen (dCons (dVar 1) dNil)) (dC (.int 2))) (dCall sp_is_whole (dCons (dBin kIx (dVar 1) (dC (.int 1))) (dCons (dC (.int 0)) (dCons (dBin kSub (dCall sp_pieces_of (dCons (dVar 0) dNil)) (dC (.int 1))) dNil)))))) dNext) (dSeq (dIfS (dOr (dTest (dBin kNotIn (dBin kIx (dVar 1) (dC (.int 0))) (dTup (dCons (dC (.str "before")) (dCons (dC (.str "at")) (dCons (dC (.str "after")) dNil)))))) (dTest (dBin kNe (dCB kLen (dCons (dVar 1) dNil)) (dC (.int 3))))) (dRet (dC (.bl false))) dNext) (dRet (dAndV (dCall sp_is_whole (dCons (dBin kIx (dVar 1) (dC (.int 1))) (dCons (dC (.int 0)) (dCons (dBin kSub (dCall sp_rings_of (dCons (dVar 0) dNil)) (dC (.int 1))) dNil)))) (dCall sp_is_time (dCons (dBin kIx (dVar 1) (dC (.int 2))) dNil)))))))
abbrev nm_is_fact : List Str := ["script", "value"]
abbrev ps_is_fact : List Str := ["script", "value"]
def t_is_fact (Ed : DXK) : DTS := (dSeq (dDrop (dCallX sp_need_script Ed (dCons (dVar 0) dNil))) (dRet (dCall sp_good_fact (dCons (dVar 0) (dCons (dVar 1) dNil)))))
abbrev nm_count_rings : List Str := ["script"]
abbrev ps_count_rings : List Str := ["script"]
def t_count_rings (Ed : DXK) : DTS := (dSeq (dDrop (dCallX sp_need_script Ed (dCons (dVar 0) dNil))) (dRet (dCall sp_rings_of (dCons (dVar 0) dNil))))
abbrev nm_count_spots : List Str := ["script"]
abbrev ps_count_spots : List Str := ["script"]
def t_count_spots (Ed : DXK) : DTS := (dSeq (dDrop (dCallX sp_need_script Ed (dCons (dVar 0) dNil))) (dRet (dCall sp_spots_of (dCons (dBin kIx (dVar 0) (dC (.int 1))) dNil))))
abbrev nm_count_pieces : List Str := ["script"]
abbrev ps_count_pieces : List Str := ["script"]
def t_count_pieces (Ed : DXK) : DTS := (dSeq (dDrop (dCallX sp_need_script Ed (dCons (dVar 0) dNil))) (dRet (dCall sp_pieces_of (dCons (dVar 0) dNil))))

theorem notIn_t {w : Str} {ws : List Str} (h : (true != ((ws.map D.str).any fun z => deq z (.str w))) = true) : w ∉ ws := by
  rw [any_str] at h
  simpa using h
theorem notIn_f {w : Str} {ws : List Str} (h : (true != ((ws.map D.str).any fun z => deq z (.str w))) = false) : w ∈ ws := by
  rw [any_str] at h
  simpa using h
theorem headed_of {p : Int} {d : D} (h : isStep p d = true) : ∃ w r, d = .tup (.str w :: r) := by
  unfold isStep at h
  split at h <;> first | exact ⟨_, _, rfl⟩ | cases h
theorem heads_of : ∀ {p : Int} {ss : List D}, areSteps p ss = true → (∀ d ∈ ss, Dat d) → ∀ d ∈ ss, Headed d
  | _, [], _, _, d, h => by cases h
  | p, x :: ss, e, hd, d, h => by
    have e' : isStep p x = true ∧ areSteps (if isHead "spot" x then p + 1 else p) ss = true := by simpa [areSteps] using e
    rcases List.mem_cons.mp h with rfl | h
    · exact ⟨hd _ h, headed_of e'.1⟩
    · exact heads_of e'.2 (fun d hd' => hd d (List.mem_cons_of_mem _ hd')) d h
theorem pure_are_steps (ds : List D) (μ : MS) (Q : DK) (Ed : DXK) (h : sp_are_steps ds μ Q Ed) : t_are_steps Ed { nx := fun _ μ => Q .non μ, rt := Q } (dstart nm_are_steps ds) μ := by
  obtain ⟨p, ss, rfl, hv, q⟩ := h
  refine forL_ind (fun r ρ μ' => ∃ p', μ' = μ ∧ areSteps p' r = areSteps p ss ∧ (∀ d ∈ r, Dat d) ∧ ρ = [some (.int p'), some (.tup ss), none]) ?_ ?_ _ _ _ ⟨p, rfl, rfl, hv.mem, rfl⟩
  · rintro d r ρ μ' N ⟨p', rfl, e, hd, rfl⟩ hN
    have hd0 := hd d (by simp)
    refine ⟨p', d, rfl, hd0, bcase_of (fun h => ?_) fun h => ?_⟩
    · have h : isStep p' d = false := by simpa using h
      have e2 : areSteps p ss = false := by rw [← e]; simp [areSteps, h]
      rw [e2] at q
      exact q
    · have h : isStep p' d = true := by simpa using h
      obtain ⟨w, r', rfl⟩ := headed_of h
      have e2 : areSteps p' (.tup (.str w :: r') :: r) = areSteps (if isHead "spot" (.tup (.str w :: r')) then p' + 1 else p') r := by simp only [areSteps, h, Bool.true_and]
      rw [e2] at e
      refine getK_some (at0 _ _) ⟨(hd0.mem _ (by simp)).eqv ⟨by decide +kernel, by decide +kernel⟩, bcase_of (fun h => ?_) fun h => ?_⟩
      · have h : isHead "spot" (.tup (.str w :: r')) = true := (deq_s _ _).symm.trans h
        rw [h] at e
        exact hN _ _ ⟨p' + 1, rfl, e, fun d hd' => hd d (List.mem_cons_of_mem _ hd'), rfl⟩
      · have h : isHead "spot" (.tup (.str w :: r')) = false := (deq_s _ _).symm.trans h
        rw [h] at e
        exact hN _ _ ⟨p', rfl, e, fun d hd' => hd d (List.mem_cons_of_mem _ hd'), rfl⟩
  · rintro ρ μ' ⟨p', rfl, e, _, rfl⟩
    rw [← e] at q
    exact q
theorem pure_spots_of (ds : List D) (μ : MS) (Q : DK) (Ed : DXK) (h : sp_spots_of ds μ Q Ed) : t_spots_of Ed { nx := fun _ μ => Q .non μ, rt := Q } (dstart nm_spots_of ds) μ := by
  obtain ⟨ss, rfl, hv, q⟩ := h
  refine lcL_filter (isHead "spot") ss _ (fun d hd A Z a z => ?_) q
  obtain ⟨hd, w, r, rfl⟩ := hv d hd
  exact getK_some (at0 _ _) ⟨(hd.mem _ (by simp)).eqv ⟨by decide +kernel, by decide +kernel⟩, bcase_of (fun h => a ((deq_s _ _).symm.trans h)) fun h => z ((deq_s _ _).symm.trans h)⟩
theorem script_parts {v : D} (h : isScript v = true) : ∃ fs ss, v = .tup [.tup fs, .tup ss] ∧ isFuses (.tup fs) = true ∧ ss.length ≤ 12 ∧ areSteps fs.length ss = true ∧ countD "spot" ss ≤ 2 := by
  unfold isScript at h
  split at h
  · rename_i f ss
    simp only [Bool.and_eq_true, decide_eq_true_eq] at h
    obtain ⟨⟨⟨h1, h2⟩, h3⟩, h4⟩ := h
    cases f with
    | tup fs => exact ⟨fs, ss, rfl, h1, h2, h3, h4⟩
    | _ => cases h1
  · cases h
theorem pure_is_script (ds : List D) (μ : MS) (Q : DK) (Ed : DXK) (h : sp_is_script ds μ Q Ed) : t_is_script Ed { nx := fun _ μ => Q .non μ, rt := Q } (dstart nm_is_script ds) μ := by
  obtain ⟨v, rfl, hv, q⟩ := h
  cases v with
  | tup es =>
    refine ⟨(dat_int _).eqv (dat_int _), ?_⟩
    match es, hv, q with
    | [], hv, q => exact bcase_t (len_ne (by decide)) q
    | [x], hv, q => exact bcase_t (len_ne (by simp)) q
    | x :: y :: z :: r, hv, q =>
      have e : isScript (.tup (x :: y :: z :: r)) = false := by unfold isScript; split <;> first | rfl | (rename_i h; cases h)
      rw [e] at q
      exact bcase_t (len_ne (by simp only [List.length_cons]; omega)) q
    | [x, y], hv, q =>
      refine bcase_f (by simp [deq]) ⟨x, rfl, hv.mem x (by simp), bcase_of (fun h => ?_) fun h => ?_⟩
      · have h : isFuses x = false := by simpa using h
        have e : isScript (.tup [x, y]) = false := by
          unfold isScript
          split
          · rename_i h'; cases h'; rw [h]; rfl
          · rfl
        rw [e] at q
        exact q
      · have h : isFuses x = true := by simpa using h
        have hy : Dat y := hv.mem y (by simp)
        cases x with
        | tup fs =>
          cases y with
          | tup ss =>
            refine bcase_of (fun h2 => ?_) fun h2 => ?_
            · have h2 : ¬ ss.length ≤ 12 := by have h2 : (12 : Int) < ss.length := of_decide_eq_true h2; omega
              have e : isScript (.tup [.tup fs, .tup ss]) = false := by
                show (isFuses (.tup fs) && decide (ss.length ≤ 12) && _ && _) = _
                rw [decide_eq_false h2, Bool.and_false]; rfl
              rw [e] at q
              exact q
            · have h2 : ss.length ≤ 12 := by have h2 : ¬ (12 : Int) < ss.length := of_decide_eq_false h2; omega
              have e : isScript (.tup [.tup fs, .tup ss]) = (areSteps fs.length ss && decide (countD "spot" ss ≤ 2)) := by
                show (isFuses (.tup fs) && decide (ss.length ≤ 12) && _ && _) = _
                rw [decide_eq_true h2, h]; rfl
              rw [e] at q
              refine ⟨fs.length, ss, rfl, hy, bcase_of (fun h3 => ?_) fun h3 => ?_⟩
              · rw [h3] at q
                have e2 : decide (countD "spot" ss ≤ 2) = decide ((countD "spot" ss : Int) ≤ 2) := decide_eq_decide.mpr (by omega)
                rw [Bool.true_and, e2] at q
                exact ⟨ss, rfl, heads_of h3 hy.mem, q⟩
              · rw [h3] at q
                exact q
          | non => exact q
          | bl b => exact q
          | int b => exact q
          | str b => exact q
          | lst b => exact q
          | _ => exact absurd hy.1 (by simp [D.lay])
        | _ => cases h
  | non => exact q
  | bl b => exact q
  | int b => exact q
  | str b => exact q
  | lst b => exact q
  | _ => exact absurd hv.1 (by simp [D.lay])
theorem pure_rings_of (ds : List D) (μ : MS) (Q : DK) (Ed : DXK) (h : sp_rings_of ds μ Q Ed) : t_rings_of Ed { nx := fun _ μ => Q .non μ, rt := Q } (dstart nm_rings_of ds) μ := by
  obtain ⟨v, rfl, hv, hs, q⟩ := h
  obtain ⟨fs, ss, rfl, h1, h2, h3, h4⟩ := script_parts hs
  have hh := heads_of h3 (hv.mem _ (by simp)).mem
  refine lcL_filter (isHead "ring") ss _ (fun d hd A Z a z => ?_) q
  obtain ⟨hd, w, r, rfl⟩ := hh d hd
  exact getK_some (at0 _ _) ⟨(hd.mem _ (by simp)).eqv ⟨by decide +kernel, by decide +kernel⟩, bcase_of (fun h => a ((deq_s _ _).symm.trans h)) fun h => z ((deq_s _ _).symm.trans h)⟩
theorem pure_pieces_of (ds : List D) (μ : MS) (Q : DK) (Ed : DXK) (h : sp_pieces_of ds μ Q Ed) : t_pieces_of Ed { nx := fun _ μ => Q .non μ, rt := Q } (dstart nm_pieces_of ds) μ := by
  obtain ⟨v, rfl, hv, hs, q⟩ := h
  obtain ⟨fs, ss, rfl, h1, h2, h3, h4⟩ := script_parts hs
  exact ⟨ss, rfl, heads_of h3 (hv.mem _ (by simp)).mem, q⟩
theorem pure_need_script (ds : List D) (μ : MS) (Q : DK) (Ed : DXK) (h : sp_need_script ds μ Q Ed) : t_need_script Ed { nx := fun _ μ => Q .non μ, rt := Q } (dstart nm_need_script ds) μ := by
  obtain ⟨v, rfl, hv, q1, q2⟩ := h
  refine ⟨v, rfl, hv, bcase_of (fun h => ?_) fun h => ?_⟩
  · exact q2 (by simpa using h)
  · exact q1 (by simpa using h)
theorem pure_is_fact (ds : List D) (μ : MS) (Q : DK) (Ed : DXK) (h : sp_is_fact ds μ Q Ed) : t_is_fact Ed { nx := fun _ μ => Q .non μ, rt := Q } (dstart nm_is_fact ds) μ := by
  obtain ⟨s, v, rfl, hv, q1, q2⟩ := h
  exact ⟨s, rfl, hv, fun h => ⟨s, v, rfl, hv, h, (q1 h).1, (q1 h).2⟩, fun h => q2 h⟩
theorem pure_count_rings (ds : List D) (μ : MS) (Q : DK) (Ed : DXK) (h : sp_count_rings ds μ Q Ed) : t_count_rings Ed { nx := fun _ μ => Q .non μ, rt := Q } (dstart nm_count_rings ds) μ := by
  obtain ⟨v, rfl, hv, q1, q2⟩ := h
  exact ⟨v, rfl, hv, fun h => ⟨v, rfl, hv, h, q1 h⟩, fun h => q2 h⟩
theorem pure_count_spots (ds : List D) (μ : MS) (Q : DK) (Ed : DXK) (h : sp_count_spots ds μ Q Ed) : t_count_spots Ed { nx := fun _ μ => Q .non μ, rt := Q } (dstart nm_count_spots ds) μ := by
  obtain ⟨v, rfl, hv, q1, q2⟩ := h
  refine ⟨v, rfl, hv, fun h => ?_, fun h => q2 h⟩
  have q := q1 h
  obtain ⟨fs, ss, rfl, h1, h2, h3, h4⟩ := script_parts h
  exact ⟨ss, rfl, heads_of h3 (hv.mem _ (by simp)).mem, q⟩
theorem pure_count_pieces (ds : List D) (μ : MS) (Q : DK) (Ed : DXK) (h : sp_count_pieces ds μ Q Ed) : t_count_pieces Ed { nx := fun _ μ => Q .non μ, rt := Q } (dstart nm_count_pieces ds) μ := by
  obtain ⟨v, rfl, hv, q1, q2⟩ := h
  exact ⟨v, rfl, hv, fun h => ⟨v, rfl, hv, h, q1 h⟩, fun h => q2 h⟩
theorem script_pieces {v : D} (h : isScript v = true) : 1 ≤ piecesD v ∧ piecesD v ≤ 5 ∧ ringsD v ≤ 12 := by
  obtain ⟨fs, ss, rfl, h1, h2, h3, h4⟩ := script_parts h
  simp only [isFuses, Bool.and_eq_true, decide_eq_true_eq] at h1
  have := List.length_filter_le (isHead "ring") ss
  simp only [piecesD, ringsD, lenD, countD] at *
  omega
theorem pure_good_fact (ds : List D) (μ : MS) (Q : DK) (Ed : DXK) (h : sp_good_fact ds μ Q Ed) : t_good_fact Ed { nx := fun _ μ => Q .non μ, rt := Q } (dstart nm_good_fact ds) μ := by
  obtain ⟨s, v, rfl, hsd, hs, hv, q⟩ := h
  cases v with
  | tup es =>
    match es, hv, q with
    | [], hv, q => exact ⟨hv.eqv dat_nil, bcase_t (by decide +kernel) q⟩
    | x :: r, hv, q =>
      refine ⟨hv.eqv dat_nil, bcase_f (deq_nil x r) ?_⟩
      have hx : Dat x := hv.mem x (by simp)
      refine getK_some (at0 x r) ?_
      cases x with
      | str w =>
        refine getK_some (at0 _ r) ⟨hx.eqv ⟨by decide +kernel, by decide +kernel⟩, bcase_of (fun h => ?_) fun h => ?_⟩
        · have h := in_t (ws := ["out", "left"]) h
          refine ⟨(dat_int _).eqv (dat_int _), ?_⟩
          match r, hv, q with
          | [y], hv, q =>
            have e : isFact s (.tup [.str w, y]) = isWhole y 0 (piecesD s - 1) := by
              show (decide (w ∈ (["out", "left"] : List Str)) && _) = _
              rw [decide_eq_true h, Bool.true_and]
            rw [e] at q
            exact bcase_t (by rw [deq_i]; exact decide_eq_true rfl) ⟨s, rfl, hsd, hs, y, 0, _, rfl, hv.mem y (by simp), q⟩
          | [], hv, q => exact bcase_f (by rw [deq_i]; exact decide_eq_false (by simp)) q
          | [y, z], hv, q =>
            have hn : w ∉ (["before", "at", "after"] : List Str) := by
              rcases List.mem_cons.mp h with rfl | h
              · decide +kernel
              · rw [List.mem_singleton.mp h]; decide +kernel
            have e : isFact s (.tup [.str w, y, z]) = false := by
              show (decide (w ∈ (["before", "at", "after"] : List Str)) && _ && _) = _
              rw [decide_eq_false hn]
              rfl
            rw [e] at q
            exact bcase_f (by rw [deq_i]; exact decide_eq_false (by simp)) q
          | y :: z :: u :: r, hv, q => exact bcase_f (by rw [deq_i]; exact decide_eq_false (by simp only [List.length_cons]; omega)) q
        · have h := in_f (ws := ["out", "left"]) h
          refine getK_some (at0 _ r) ⟨hx.eqv ⟨by decide +kernel, by decide +kernel⟩, ?_⟩
          refine bcase_of (fun h3 => ?_) fun h3 => ?_
          · have h3 := notIn_t (ws := ["before", "at", "after"]) h3
            have e : isFact s (.tup (.str w :: r)) = false := by
              match r with
              | [] => rfl
              | [y] => show (decide (w ∈ (["out", "left"] : List Str)) && _) = _; rw [decide_eq_false h]; rfl
              | [y, z] => show (decide (w ∈ (["before", "at", "after"] : List Str)) && _ && _) = _; rw [decide_eq_false h3]; rfl
              | y :: z :: u :: r => rfl
            rw [e] at q
            exact q
          · have h3 := notIn_f (ws := ["before", "at", "after"]) h3
            refine ⟨(dat_int _).eqv (dat_int _), ?_⟩
            match r, hv, q with
            | [y, z], hv, q =>
              have e : isFact s (.tup [.str w, y, z]) = (isWhole y 0 (ringsD s - 1) && isTime z) := by
                show (decide (w ∈ (["before", "at", "after"] : List Str)) && _ && _) = _
                rw [decide_eq_true h3, Bool.true_and]
              rw [e] at q
              refine bcase_f (by simp [deq]) ⟨s, rfl, hsd, hs, y, 0, _, rfl, hv.mem y (by simp), bcase_of (fun h => ?_) fun h => ?_⟩
              · rw [h] at q; exact ⟨z, rfl, hv.mem z (by simp), q⟩
              · rw [h] at q; exact q
            | [], hv, q => exact bcase_t (len_ne (by simp)) q
            | [y], hv, q =>
              have e : isFact s (.tup [.str w, y]) = false := by show (decide (w ∈ (["out", "left"] : List Str)) && _) = _; rw [decide_eq_false h]; rfl
              rw [e] at q
              exact bcase_t (len_ne (by simp)) q
            | y :: z :: u :: r, hv, q => exact bcase_t (len_ne (by simp only [List.length_cons]; omega)) q
      | non => exact q
      | bl b => exact q
      | int b => exact q
      | tup b => exact q
      | lst b => exact q
      | _ => exact absurd hx.1 (by simp [D.lay])
  | non => exact q
  | bl b => exact q
  | int b => exact q
  | str b => exact q
  | lst b => exact q
  | _ => exact absurd hv.1 (by simp [D.lay])
end
end Li

set_option Elab.async false
set_option linter.all false
set_option maxRecDepth 100000
set_option maxHeartbeats 1000000
/-! Data of bounded size. -/
namespace Li
open PySem PySem.Spec PyProof.Rows L2
variable [Tbl]
def Asc (x : Str) : Prop := ∀ c ∈ x.cps.toList, c < 128
mutual
def fit (n : Nat) : D → Prop
  | .non | .bl _ => True
  | .int i => -(2 ^ n : Int) ≤ i ∧ i ≤ 2 ^ n
  | .str x => x.length ≤ n ∧ Asc x
  | .tup ds | .lst ds => ds.length ≤ n ∧ fits n ds
  | .ref _ | .ty _ | .scr _ => False
def fits (n : Nat) : List D → Prop
  | [] => True
  | d :: ds => fit n d ∧ fits n ds
end
theorem fits_mem {n : Nat} : ∀ {ds : List D}, fits n ds → ∀ d ∈ ds, fit n d
  | [], _, d, h => by cases h
  | x :: xs, l, d, h => by
    simp only [fits] at l
    rcases List.mem_cons.mp h with rfl | h
    · exact l.1
    · exact fits_mem l.2 d h
theorem fits_of {n : Nat} : ∀ {ds : List D}, (∀ d ∈ ds, fit n d) → fits n ds
  | [], _ => by simp only [fits]
  | x :: xs, h => by simp only [fits]; exact ⟨h x List.mem_cons_self, fits_of fun d hd => h d (List.mem_cons_of_mem _ hd)⟩
theorem two_mono {n m : Nat} (h : n ≤ m) : (2 ^ n : Int) ≤ 2 ^ m := by
  have := Nat.pow_le_pow_right (n := 2) (by decide) h
  exact_mod_cast this
mutual
theorem fit_mono {n m : Nat} (h : n ≤ m) : ∀ {d : D}, fit n d → fit m d
  | .non, _ => by simp only [fit]
  | .bl _, _ => by simp only [fit]
  | .int i, q => by
    simp only [fit] at q ⊢
    have := two_mono h
    omega
  | .str x, q => by simp only [fit] at q ⊢; exact ⟨by omega, q.2⟩
  | .tup ds, q => by simp only [fit] at q ⊢; exact ⟨by omega, fits_mono h q.2⟩
  | .lst ds, q => by simp only [fit] at q ⊢; exact ⟨by omega, fits_mono h q.2⟩
  | .ref _, q => by simp only [fit] at q
  | .ty _, q => by simp only [fit] at q
  | .scr _, q => by simp only [fit] at q
theorem fits_mono {n m : Nat} (h : n ≤ m) : ∀ {ds : List D}, fits n ds → fits m ds
  | [], _ => by simp only [fits]
  | d :: ds, q => by simp only [fits] at q ⊢; exact ⟨fit_mono h q.1, fits_mono h q.2⟩
end
theorem asc_ok {x : Str} (h : Asc x) : PyData.strOk x = true := by
  unfold PyData.strOk
  rw [Array.all_eq_true_iff_forall_mem]
  intro c hc
  have := h c (Array.mem_toList_iff.mpr hc)
  simp
  omega
mutual
theorem fit_lay {n : Nat} : ∀ {d : D}, fit n d → d.lay = true
  | .non, _ => rfl
  | .bl _, _ => rfl
  | .int i, q => rfl
  | .str x, q => by simp only [fit] at q; simp only [D.lay]; exact asc_ok q.2
  | .tup ds, q => by simp only [fit] at q; simp only [D.lay]; exact fits_lay q.2
  | .lst ds, q => by simp only [fit] at q; simp only [D.lay]; exact fits_lay q.2
  | .ref _, q => by simp only [fit] at q
  | .ty _, q => by simp only [fit] at q
  | .scr _, q => by simp only [fit] at q
theorem fits_lay {n : Nat} : ∀ {ds : List D}, fits n ds → D.lays ds = true
  | [], _ => by simp only [D.lays]
  | d :: ds, q => by simp only [fits] at q; simp only [D.lays, fit_lay q.1, fits_lay q.2, Bool.and_self]
end
/-- data of size n and depth k -/
structure Fit (n k : Nat) (d : D) : Prop where
  f : fit n d
  d : d.dep ≤ k
theorem Fit.dat {n k : Nat} {d : D} (h : Fit n k d) (hk : k ≤ 40) : Dat d := ⟨fit_lay h.f, by have := h.d; omega⟩
theorem Fit.mono {n k m l : Nat} {d : D} (h : Fit n k d) (h1 : n ≤ m) (h2 : k ≤ l) : Fit m l d := ⟨fit_mono h1 h.f, by have := h.d; omega⟩
theorem fit_tup {n k : Nat} {ds : List D} (hl : ds.length ≤ n) (h : ∀ d ∈ ds, Fit n k d) : Fit n (k + 1) (.tup ds) := ⟨by simp only [fit]; exact ⟨hl, fits_of fun d hd => (h d hd).f⟩, by
  have := deps_of (ds := ds) (n := k) fun d hd => (h d hd).d
  simp only [D.dep]; omega⟩
theorem fit_lst {n k : Nat} {ds : List D} (hl : ds.length ≤ n) (h : ∀ d ∈ ds, Fit n k d) : Fit n (k + 1) (.lst ds) := ⟨by simp only [fit]; exact ⟨hl, fits_of fun d hd => (h d hd).f⟩, by
  have := deps_of (ds := ds) (n := k) fun d hd => (h d hd).d
  simp only [D.dep]; omega⟩
theorem Fit.tup {n k : Nat} {ds : List D} (h : Fit n k (.tup ds)) : ds.length ≤ n ∧ ∀ d ∈ ds, Fit n (k - 1) d := by
  obtain ⟨f, e⟩ := h
  simp only [fit] at f
  simp only [D.dep] at e
  exact ⟨f.1, fun d hd => ⟨fits_mem f.2 d hd, by have := deps_mem (ds := ds) (n := D.deps ds) (Nat.le_refl _) d hd; omega⟩⟩
theorem fit_non {n k : Nat} : Fit n k .non := ⟨by simp only [fit], by simp [D.dep]⟩
theorem fit_bl {n k : Nat} {b : Bool} : Fit n k (.bl b) := ⟨by simp only [fit], by simp [D.dep]⟩
theorem fit_int {n k : Nat} {i : Int} (h1 : -(2 ^ n : Int) ≤ i) (h2 : i ≤ 2 ^ n) : Fit n k (.int i) := ⟨by simp only [fit]; exact ⟨h1, h2⟩, by simp [D.dep]⟩
theorem fit_str {n k : Nat} {x : Str} (h1 : x.length ≤ n) (h2 : Asc x) : Fit n k (.str x) := ⟨by simp only [fit]; exact ⟨h1, h2⟩, by simp [D.dep]⟩
theorem Fit.int {n k : Nat} {i : Int} (h : Fit n k (.int i)) : -(2 ^ n : Int) ≤ i ∧ i ≤ 2 ^ n := by have := h.f; simpa only [fit] using this
theorem Fit.str {n k : Nat} {x : Str} (h : Fit n k (.str x)) : x.length ≤ n ∧ Asc x := by have := h.f; simpa only [fit] using this
instance (x : Str) : Decidable (Asc x) := inferInstanceAs (Decidable (∀ c ∈ x.cps.toList, c < 128))
theorem fit_lit {n k : Nat} {x : Str} (h1 : x.length ≤ 20 := by decide +kernel) (h2 : Asc x := by decide +kernel) (hn : 20 ≤ n := by omega) : Fit n k (.str x) := fit_str (by omega) h2
theorem act_fit {n k : Nat} (hn : 20 ≤ n) (hk : 1 ≤ k) : ∀ {s : Act} {m : Nat}, s.ok m → m ≤ 2 ^ n → Fit n k s.d := by
  intro s m ok hm
  have hm' : (m : Int) ≤ 2 ^ n := by exact_mod_cast hm
  have h0 : (0 : Int) ≤ 2 ^ n := by omega
  have hi : ∀ p : Nat, p < m → Fit n 0 (.int p) := fun p hp => fit_int (by omega) (by omega)
  cases s with
  | light p l =>
    refine (fit_tup (k := 0) (by simp; omega) fun d hd => ?_).mono (Nat.le_refl _) hk
    simp only [List.mem_cons, List.not_mem_nil, or_false] at hd
    rcases hd with rfl | rfl | rfl
    · exact fit_lit
    · exact hi p ok
    · cases l
      · exact fit_lit (x := "right")
      · exact fit_lit (x := "left")
  | spot p =>
    refine (fit_tup (k := 0) (by simp; omega) fun d hd => ?_).mono (Nat.le_refl _) hk
    simp only [List.mem_cons, List.not_mem_nil, or_false] at hd
    rcases hd with rfl | rfl
    · exact fit_lit
    · exact hi p ok
  | quench p =>
    refine (fit_tup (k := 0) (by simp; omega) fun d hd => ?_).mono (Nat.le_refl _) hk
    simp only [List.mem_cons, List.not_mem_nil, or_false] at hd
    rcases hd with rfl | rfl
    · exact fit_lit
    · exact hi p ok
  | wait p =>
    refine (fit_tup (k := 0) (by simp; omega) fun d hd => ?_).mono (Nat.le_refl _) hk
    simp only [List.mem_cons, List.not_mem_nil, or_false] at hd
    rcases hd with rfl | rfl
    · exact fit_lit
    · exact hi p ok
  | first =>
    refine (fit_tup (k := 0) (by simp; omega) fun d hd => ?_).mono (Nat.le_refl _) hk
    simp only [List.mem_cons, List.not_mem_nil, or_false] at hd
    rcases hd with rfl
    exact fit_lit
  | ring =>
    refine (fit_tup (k := 0) (by simp; omega) fun d hd => ?_).mono (Nat.le_refl _) hk
    simp only [List.mem_cons, List.not_mem_nil, or_false] at hd
    rcases hd with rfl
    exact fit_lit
theorem steps_fit {n : Nat} (hn : 20 ≤ n) : ∀ {ss : List Act} {m : Nat}, stepsOk m ss → m + spotsIn ss ≤ 2 ^ n → ∀ s ∈ ss, Fit n 1 s.d
  | [], _, _, _, s, h => by cases h
  | a :: r, m, ⟨h1, h2⟩, hm, s, h => by
    have e : spotsIn (a :: r) = a.adds + spotsIn r := by simp [spotsIn]
    rw [e] at hm
    rcases List.mem_cons.mp h with rfl | h
    · exact act_fit hn (Nat.le_refl _) h1 (by omega)
    · exact steps_fit hn h2 (by omega) s h
theorem scr_fit {s : Scr} (h : s.Ok) : Fit 100 3 s.d := by
  have h5 : (5 : Nat) ≤ 2 ^ 100 := by decide
  refine fit_tup (k := 2) (by simp [Scr.d]) fun d hd => ?_
  simp only [List.mem_cons, List.not_mem_nil, or_false] at hd
  rcases hd with rfl | rfl
  · refine (fit_tup (k := 0) (by have := h.f3; simp; omega) fun d hd => ?_).mono (Nat.le_refl _) (by decide)
    obtain ⟨x, hx, rfl⟩ := List.mem_map.mp hd
    have := h.fu x hx
    exact fit_int (by have : (0 : Int) ≤ 2 ^ 100 := by decide
                      omega) (by have : (60 : Int) ≤ 2 ^ 100 := by decide
                                 omega)
  · refine fit_tup (k := 1) (by have := h.st; simp; omega) fun d hd => ?_
    obtain ⟨x, hx, rfl⟩ := List.mem_map.mp hd
    exact steps_fit (by decide) h.go (by have := h.f3; have := h.sp; omega) x hx
end Li

set_option Elab.async false
set_option linter.all false
set_option maxRecDepth 100000
set_option maxHeartbeats 2000000
namespace Li
open PySem PySem.Spec PyProof.Rows L2
variable [Tbl] [cC : Cls]
theorem countD_cons (w : Str) (d : D) (r : List D) : countD w (d :: r) = (if isHead w d then 1 else 0) + countD w r := by
  unfold countD
  rw [List.filter_cons]
  split <;> simp <;> omega
theorem deq_bl_self (b : Bool) : deq (.bl b) (.bl b) = true := by cases b <;> rfl
theorem isWhole_ok {i lo hi : Int} (h1 : lo ≤ i) (h2 : i ≤ hi) : isWhole (.int i) lo hi = true := by
  show (decide (lo ≤ i) && decide (i ≤ hi)) = true
  rw [decide_eq_true h1, decide_eq_true h2]; rfl
theorem act_isStep {s : Act} {p : Nat} (h : s.ok p) : isStep (p : Int) s.d = true := by
  cases s with
  | light q l =>
    have hq : q < p := h
    show (decide ((Str.ofString "light") = Str.ofString "light") && isWhole (.int q) 0 ((p : Int) - 1) && isWord (sideD l) sides) = true
    rw [decide_eq_true rfl, isWhole_ok (by omega) (by omega)]
    cases l <;> decide +kernel
  | spot q =>
    have hq : q < p := h
    show (decide ((Str.ofString "spot") ∈ (["spot", "quench", "wait"] : List Str)) && isWhole (.int q) 0 ((p : Int) - 1)) = true
    rw [isWhole_ok (by omega) (by omega)]
    decide +kernel
  | quench q =>
    have hq : q < p := h
    show (decide ((Str.ofString "quench") ∈ (["spot", "quench", "wait"] : List Str)) && isWhole (.int q) 0 ((p : Int) - 1)) = true
    rw [isWhole_ok (by omega) (by omega)]
    decide +kernel
  | wait q =>
    have hq : q < p := h
    show (decide ((Str.ofString "wait") ∈ (["spot", "quench", "wait"] : List Str)) && isWhole (.int q) 0 ((p : Int) - 1)) = true
    rw [isWhole_ok (by omega) (by omega)]
    decide +kernel
  | first => show decide ((Str.ofString "first") ∈ (["first", "ring"] : List Str)) = true; decide +kernel
  | ring => show decide ((Str.ofString "ring") ∈ (["first", "ring"] : List Str)) = true; decide +kernel
theorem act_isHead {s : Act} : isHead "spot" s.d = s.isSpot := by
  cases s with
  | light q l => show decide ((Str.ofString "light") = Str.ofString "spot") = false; decide +kernel
  | spot q => show decide ((Str.ofString "spot") = Str.ofString "spot") = true; decide +kernel
  | quench q => show decide ((Str.ofString "quench") = Str.ofString "spot") = false; decide +kernel
  | wait q => show decide ((Str.ofString "wait") = Str.ofString "spot") = false; decide +kernel
  | first => show decide ((Str.ofString "first") = Str.ofString "spot") = false; decide +kernel
  | ring => show decide ((Str.ofString "ring") = Str.ofString "spot") = false; decide +kernel
theorem acts_areSteps : ∀ {ss : List Act} {p : Nat}, stepsOk p ss → areSteps (p : Int) (ss.map Act.d) = true
  | [], _, _ => rfl
  | s :: ss, p, ⟨h1, h2⟩ => by
    have ih := acts_areSteps h2
    rw [List.map_cons]
    unfold areSteps
    rw [act_isStep h1, act_isHead, Bool.true_and]
    unfold Act.adds at ih
    cases h : s.isSpot with
    | true => rw [h] at ih; simpa using ih
    | false => rw [h] at ih; simpa using ih
theorem acts_count : ∀ ss : List Act, countD "spot" (ss.map Act.d) = spotsIn ss
  | [] => rfl
  | s :: ss => by
    rw [List.map_cons, countD_cons, act_isHead, acts_count ss]
    show _ = (List.map Act.adds (s :: ss)).sum
    rw [List.map_cons, List.sum_cons]
    rfl
theorem scr_isScript {s : Scr} (h : s.Ok) : isScript s.d = true := by
  show (isFuses (fusesD s.fuses) && decide ((s.steps.map Act.d).length ≤ 12) && areSteps (s.fuses.map natD).length (s.steps.map Act.d) && decide (countD "spot" (s.steps.map Act.d) ≤ 2)) = true
  have h1 : isFuses (fusesD s.fuses) = true := by
    show (decide (1 ≤ (s.fuses.map natD).length) && decide ((s.fuses.map natD).length ≤ 3) && (s.fuses.map natD).all fun d => isWhole d 1 60) = true
    rw [List.length_map, decide_eq_true h.f1, decide_eq_true h.f3]
    simp only [Bool.true_and, List.all_map, List.all_eq_true]
    intro x hx
    have := h.fu x hx
    exact isWhole_ok (by omega) (by omega)
  rw [h1, List.length_map, List.length_map, decide_eq_true h.st, acts_areSteps h.go, acts_count, decide_eq_true h.sp]
  rfl
theorem vat_keep {a : Addr} {μ μ' : MS} (h : IsVat μ a) (k : ∀ b, μ b ≠ none → μ' b = μ b) : IsVat μ' a := by
  obtain ⟨u, w, e, r⟩ := h
  exact ⟨u, w, by rw [k a (by rw [e]; simp)]; exact e, r⟩
theorem deq_refl_bl (b : Bool) : (!deq (.bl b) (.bl b)) = false := by rw [deq_bl_self]; rfl
end Li

set_option Elab.async false
set_option linter.all false
set_option maxRecDepth 100000
set_option maxHeartbeats 2000000
/-! The checks of the laws. -/
namespace Li
open PySem PySem.Spec PyProof.Rows L2
variable [Tbl] [cC : Cls]
def countS (v : D) (w : Str) : Nat := match v with
  | .tup [_, .tup ss] => countD w ss
  | _ => 0
def sp__law_is_whole : DSp := sp_is_whole
def sp__law_truly : DSp := fun ds μ Q E => ∃ f d : Bool, ds = [.bl f, .bl d] ∧ Q (.bl (deq (.bl f) (.bl d))) μ
def sp__law_pieces_in : DSp := fun ds μ Q E => ∃ v, ds = [v] ∧ Dat v ∧ isScript v = true ∧ Q (.int (piecesD v : Nat)) μ
def sp__law_count : DSp := fun ds μ Q E => ∃ v w, ds = [v, .str w] ∧ Dat (.str w) ∧ Dat v ∧ isScript v = true ∧ Q (.int (countS v w : Nat)) μ
def sp__law_lowest : DSp := fun ds μ Q E => ∃ a b : Int, ds = [.int a, .int b] ∧ DivOk b ∧ Q (.tup [.int (a / (Int.gcd a b : Nat)), .int (b / (Int.gcd a b : Nat))]) μ
def sp__law_is_fraction : DSp := fun ds μ Q E => ∃ v most, ds = [v, .int most] ∧ Dat v ∧ most < 2 ^ 1000 ∧ Q (.bl (isFrac v 0 most most)) μ
def sp__law_is_fuses : DSp := fun ds μ Q E => ∃ v, ds = [v] ∧ Dat v ∧ Q (.bl (isFuses v)) μ
def sp__law_is_step : DSp := fun ds μ Q E => ∃ p v, ds = [.int p, v] ∧ Dat v ∧ Q (.bl (isStep p v)) μ
def sp__law_is_script : DSp := fun ds μ Q E => ∃ v, ds = [v] ∧ Dat v ∧ Q (.bl (isScript v)) μ
def sp__law_is_fact : DSp := fun ds μ Q E => ∃ s v n k, ds = [s, v] ∧ Dat s ∧ isScript s = true ∧ Fit n k v ∧ n ≤ 130 ∧ k ≤ 20 ∧ Q (.bl (isFact s v)) μ
abbrev nm__law_is_whole : List Str := ["value", "low", "high"]
abbrev ps__law_is_whole : List Str := ["value", "low", "high"]
def t__law_is_whole (Ed : DXK) : DTS := (dRet (dAndV (dCB kIsi (dCons (dVar 0) (dCons (dC (.ty "int")) dNil))) (dAndV (dNotV (dCB kIsi (dCons (dVar 0) (dCons (dC (.ty "bool")) dNil)))) (dChain kLe kLe (dVar 1) (dVar 0) (dVar 2)))))
abbrev nm__law_truly : List Str := ["found", "due"]
abbrev ps__law_truly : List Str := ["found", "due"]
def t__law_truly (Ed : DXK) : DTS := (dRet (dAndV (dCB kIsi (dCons (dVar 0) (dCons (dC (.ty "bool")) dNil))) (dBin kEq (dVar 0) (dVar 1))))
abbrev nm__law_pieces_in : List Str := ["script", "step"]
abbrev ps__law_pieces_in : List Str := ["script"]
def t__law_pieces_in (Ed : DXK) : DTS := (dRet (dBin kAdd (dCB kLen (dCons (dBin kIx (dVar 0) (dC (.int 0))) dNil)) (dCB kLen (dCons (dLc (dSeqI (dBin kIx (dVar 0) (dC (.int 1)))) (dName 1) (dTest (dBin kEq (dBin kIx (dVar 1) (dC (.int 0))) (dC (.str "spot")))) (dVar 1) [1]) dNil))))
abbrev nm__law_count : List Str := ["script", "word", "step"]
abbrev ps__law_count : List Str := ["script", "word"]
def t__law_count (Ed : DXK) : DTS := (dRet (dCB kLen (dCons (dLc (dSeqI (dBin kIx (dVar 0) (dC (.int 1)))) (dName 2) (dTest (dBin kEq (dBin kIx (dVar 2) (dC (.int 0))) (dVar 1))) (dVar 2) [2]) dNil)))
abbrev nm__law_lowest : List Str := ["top", "below", "big", "small"]
abbrev ps__law_lowest : List Str := ["top", "below"]
def t__law_lowest (Ed : DXK) : DTS := (dSeq (dPar 2 3 (dCons (dCB kAbs (dCons (dVar 1) dNil)) (dCons (dCB kAbs (dCons (dVar 0) dNil)) dNil))) (dSeq (dWhile (dTest (dBin kGt (dVar 3) (dC (.int 0)))) (dPar 2 3 (dCons (dVar 3) (dCons (dBin kMod (dCB kInt (dCons (dVar 2) dNil)) (dVar 3)) dNil)))) (dSeq (dAsg (dIf (dTest (dBin kGt (dVar 1) (dC (.int 0)))) (dVar 2) (dNeg (dVar 2))) (dName 2)) (dRet (dTup (dCons (dBin kDiv (dVar 0) (dVar 2)) (dCons (dBin kDiv (dVar 1) (dVar 2)) dNil)))))))
abbrev nm__law_is_fraction : List Str := ["value", "most"]
abbrev ps__law_is_fraction : List Str := ["value", "most"]
def t__law_is_fraction (Ed : DXK) : DTS := (dSeq (dIfS (dOr (dNot (dTest (dCB kIsi (dCons (dVar 0) (dCons (dC (.ty "tuple")) dNil))))) (dTest (dBin kNe (dCB kLen (dCons (dVar 0) dNil)) (dC (.int 2))))) (dRet (dC (.bl false))) dNext) (dSeq (dIfS (dOr (dNot (dTest (dCall sp__law_is_whole (dCons (dBin kIx (dVar 0) (dC (.int 0))) (dCons (dC (.int 0)) (dCons (dVar 1) dNil)))))) (dNot (dTest (dCall sp__law_is_whole (dCons (dBin kIx (dVar 0) (dC (.int 1))) (dCons (dC (.int 1)) (dCons (dVar 1) dNil))))))) (dRet (dC (.bl false))) dNext) (dRet (dBin kEq (dCall sp__law_lowest (dCons (dBin kIx (dVar 0) (dC (.int 0))) (dCons (dBin kIx (dVar 0) (dC (.int 1))) dNil))) (dVar 0)))))
abbrev nm__law_is_fuses : List Str := ["value", "fuse"]
abbrev ps__law_is_fuses : List Str := ["value"]
def t__law_is_fuses (Ed : DXK) : DTS := (dSeq (dIfS (dOr (dNot (dTest (dCB kIsi (dCons (dVar 0) (dCons (dC (.ty "tuple")) dNil))))) (dTest (dBin kNotIn (dCB kLen (dCons (dVar 0) dNil)) (dTup (dCons (dC (.int 1)) (dCons (dC (.int 2)) (dCons (dC (.int 3)) dNil))))))) (dRet (dC (.bl false))) dNext) (dRet (dBin kEq (dLc (dSeqI (dVar 0)) (dName 1) (dNot (dTest (dCall sp__law_is_whole (dCons (dVar 1) (dCons (dC (.int 1)) (dCons (dC (.int 60)) dNil)))))) (dVar 1) [1]) (dLst dNil))))
abbrev nm__law_is_step : List Str := ["many", "value"]
abbrev ps__law_is_step : List Str := ["many", "value"]
def t__law_is_step (Ed : DXK) : DTS := (dSeq (dIfS (dOr (dNot (dTest (dCB kIsi (dCons (dVar 1) (dCons (dC (.ty "tuple")) dNil))))) (dOr (dTest (dBin kNotIn (dCB kLen (dCons (dVar 1) dNil)) (dTup (dCons (dC (.int 1)) (dCons (dC (.int 2)) (dCons (dC (.int 3)) dNil)))))) (dNot (dTest (dCB kIsi (dCons (dBin kIx (dVar 1) (dC (.int 0))) (dCons (dC (.ty "str")) dNil))))))) (dRet (dC (.bl false))) dNext) (dSeq (dIfS (dTest (dBin kEq (dCB kLen (dCons (dVar 1) dNil)) (dC (.int 1)))) (dRet (dBin kIn (dBin kIx (dVar 1) (dC (.int 0))) (dTup (dCons (dC (.str "first")) (dCons (dC (.str "ring")) dNil))))) dNext) (dSeq (dIfS (dNot (dTest (dCall sp__law_is_whole (dCons (dBin kIx (dVar 1) (dC (.int 1))) (dCons (dC (.int 0)) (dCons (dBin kSub (dVar 0) (dC (.int 1))) dNil)))))) (dRet (dC (.bl false))) dNext) (dSeq (dIfS (dTest (dBin kEq (dCB kLen (dCons (dVar 1) dNil)) (dC (.int 2)))) (dRet (dBin kIn (dBin kIx (dVar 1) (dC (.int 0))) (dTup (dCons (dC (.str "spot")) (dCons (dC (.str "quench")) (dCons (dC (.str "wait")) dNil)))))) dNext) (dRet (dAndV (dBin kEq (dBin kIx (dVar 1) (dC (.int 0))) (dC (.str "light"))) (dAndV (dCB kIsi (dCons (dBin kIx (dVar 1) (dC (.int 2))) (dCons (dC (.ty "str")) dNil))) (dBin kIn (dBin kIx (dVar 1) (dC (.int 2))) (dTup (dCons (dC (.str "left")) (dCons (dC (.str "right")) dNil)))))))))))
abbrev nm__law_is_script : List Str := ["value", "many", "step"]
abbrev ps__law_is_script : List Str := ["value"]
def t__law_is_script (Ed : DXK) : DTS := (dSeq (dIfS (dOr (dNot (dTest (dCB kIsi (dCons (dVar 0) (dCons (dC (.ty "tuple")) dNil))))) (dOr (dTest (dBin kNe (dCB kLen (dCons (dVar 0) dNil)) (dC (.int 2)))) (dNot (dTest (dCall sp__law_is_fuses (dCons (dBin kIx (dVar 0) (dC (.int 0))) dNil)))))) (dRet (dC (.bl false))) dNext) (dSeq (dIfS (dOr (dNot (dTest (dCB kIsi (dCons (dBin kIx (dVar 0) (dC (.int 1))) (dCons (dC (.ty "tuple")) dNil))))) (dTest (dBin kGt (dCB kLen (dCons (dBin kIx (dVar 0) (dC (.int 1))) dNil)) (dC (.int 12))))) (dRet (dC (.bl false))) dNext) (dSeq (dAsg (dCB kLen (dCons (dBin kIx (dVar 0) (dC (.int 0))) dNil)) (dName 1)) (dSeq (dFor (dSeqI (dBin kIx (dVar 0) (dC (.int 1)))) (dName 2) (dForget [2] (dSeq (dIfS (dNot (dTest (dCall sp__law_is_step (dCons (dVar 1) (dCons (dVar 2) dNil))))) (dRet (dC (.bl false))) dNext) (dAsg (dBin kAdd (dVar 1) (dCB kInt (dCons (dBin kEq (dBin kIx (dVar 2) (dC (.int 0))) (dC (.str "spot"))) dNil))) (dName 1))))) (dRet (dBin kLe (dVar 1) (dBin kAdd (dCB kLen (dCons (dBin kIx (dVar 0) (dC (.int 0))) dNil)) (dC (.int 2)))))))))
abbrev nm__law_is_fact : List Str := ["script", "value"]
abbrev ps__law_is_fact : List Str := ["script", "value"]
def t__law_is_fact (Ed : DXK) : DTS := (dSeq (dIfS (dOr (dNot (dTest (dCB kIsi (dCons (dVar 1) (dCons (dC (.ty "tuple")) dNil))))) (dOr (dTest (dBin kNotIn (dCB kLen (dCons (dVar 1) dNil)) (dTup (dCons (dC (.int 2)) (dCons (dC (.int 3)) dNil))))) (dNot (dTest (dCB kIsi (dCons (dBin kIx (dVar 1) (dC (.int 0))) (dCons (dC (.ty "str")) dNil))))))) (dRet (dC (.bl false))) dNext) (dSeq (dIfS (dTest (dBin kEq (dCB kLen (dCons (dVar 1) dNil)) (dC (.int 2)))) (dRet (dAndV (dBin kIn (dBin kIx (dVar 1) (dC (.int 0))) (dTup (dCons (dC (.str "out")) (dCons (dC (.str "left")) dNil)))) (dCall sp__law_is_whole (dCons (dBin kIx (dVar 1) (dC (.int 1))) (dCons (dC (.int 0)) (dCons (dBin kSub (dCall sp__law_pieces_in (dCons (dVar 0) dNil)) (dC (.int 1))) dNil)))))) dNext) (dSeq (dIfS (dTest (dBin kNotIn (dBin kIx (dVar 1) (dC (.int 0))) (dTup (dCons (dC (.str "before")) (dCons (dC (.str "at")) (dCons (dC (.str "after")) dNil)))))) (dRet (dC (.bl false))) dNext) (dSeq (dIfS (dNot (dTest (dCall sp__law_is_whole (dCons (dBin kIx (dVar 1) (dC (.int 1))) (dCons (dC (.int 0)) (dCons (dBin kSub (dCall sp__law_count (dCons (dVar 0) (dCons (dC (.str "ring")) dNil))) (dC (.int 1))) dNil)))))) (dRet (dC (.bl false))) dNext) (dRet (dAndV (dCall sp__law_is_fraction (dCons (dBin kIx (dVar 1) (dC (.int 2))) (dCons (dBin kPow (dC (.int 10)) (dC (.int 40))) dNil))) (dBin kLe (dBin kIx (dBin kIx (dVar 1) (dC (.int 2))) (dC (.int 0))) (dBin kMul (dC (.int 1000)) (dBin kIx (dBin kIx (dVar 1) (dC (.int 2))) (dC (.int 1)))))))))))
theorem pure__law_is_whole (ds : List D) (μ : MS) (Q : DK) (Ed : DXK) (h : sp__law_is_whole ds μ Q Ed) : t__law_is_whole Ed { nx := fun _ μ => Q .non μ, rt := Q } (dstart nm__law_is_whole ds) μ := pure_is_whole ds μ Q Ed h
theorem pure__law_truly (ds : List D) (μ : MS) (Q : DK) (Ed : DXK) (h : sp__law_truly ds μ Q Ed) : t__law_truly Ed { nx := fun _ μ => Q .non μ, rt := Q } (dstart nm__law_truly ds) μ := by
  obtain ⟨f, d, rfl, q⟩ := h
  exact ⟨⟨rfl, rfl, by simp [D.dep], by simp [D.dep]⟩, q⟩
theorem pure__law_pieces_in (ds : List D) (μ : MS) (Q : DK) (Ed : DXK) (h : sp__law_pieces_in ds μ Q Ed) : t__law_pieces_in Ed { nx := fun _ μ => Q .non μ, rt := Q } (dstart nm__law_pieces_in ds) μ := by
  obtain ⟨v, rfl, hv, hs, q⟩ := h
  obtain ⟨fs, ss, rfl, h1, h2, h3, h4⟩ := script_parts hs
  have hh := heads_of h3 (hv.mem _ (by simp)).mem
  refine lcL_filter (isHead "spot") ss _ (fun d hd A Z a z => ?_) q
  obtain ⟨hd, w, r, rfl⟩ := hh d hd
  exact getK_some (at0 _ _) ⟨(hd.mem _ (by simp)).eqv ⟨by decide +kernel, by decide +kernel⟩, bcase_of (fun h => a ((deq_s _ _).symm.trans h)) fun h => z ((deq_s _ _).symm.trans h)⟩
theorem pure__law_count (ds : List D) (μ : MS) (Q : DK) (Ed : DXK) (h : sp__law_count ds μ Q Ed) : t__law_count Ed { nx := fun _ μ => Q .non μ, rt := Q } (dstart nm__law_count ds) μ := by
  obtain ⟨v, w0, rfl, hw, hv, hs, q⟩ := h
  obtain ⟨fs, ss, rfl, h1, h2, h3, h4⟩ := script_parts hs
  have hh := heads_of h3 (hv.mem _ (by simp)).mem
  refine lcL_filter (isHead w0) ss _ (fun d hd A Z a z => ?_) q
  obtain ⟨hd, w, r, rfl⟩ := hh d hd
  exact getK_some (at0 _ _) ⟨(hd.mem _ (by simp)).eqv hw, bcase_of (fun h => a ((deq_s _ _).symm.trans h)) fun h => z ((deq_s _ _).symm.trans h)⟩
theorem divOk_le {g b : Int} (h : DivOk b) (h0 : 0 < g) (h1 : g ≤ b) : DivOk g := by
  obtain ⟨hb, hl⟩ := h
  refine ⟨h0, ?_⟩
  have h2 : b.natAbs < 2 ^ 9000 := (Nat.log2_lt (by omega)).mp hl
  exact (Nat.log2_lt (by omega)).mpr (by omega)
theorem pure__law_lowest (ds : List D) (μ : MS) (Q : DK) (Ed : DXK) (h : sp__law_lowest ds μ Q Ed) : t__law_lowest Ed { nx := fun _ μ => Q .non μ, rt := Q } (dstart nm__law_lowest ds) μ := by
  obtain ⟨a, b, rfl, hb, q⟩ := h
  refine ⟨fun m ρ μ' => ∃ x y : Nat, m = y ∧ μ' = μ ∧ ρ = [some (.int a), some (.int b), some (.int x), some (.int y)] ∧ Nat.gcd x y = Int.gcd a b, ⟨_, b.natAbs, a.natAbs, rfl, rfl, rfl, Nat.gcd_comm _ _⟩, ?_⟩
  rintro m ρ μ' ⟨x, y, rfl, rfl, rfl, e⟩
  refine bcase_of (fun h1 => ?_) fun h1 => ?_
  · have h1 : (0 : Int) < m := of_decide_eq_true h1
    refine ⟨fun ρ μ'' => ∃ x y' : Nat, y' < m ∧ μ'' = μ' ∧ ρ = [some (.int a), some (.int b), some (.int x), some (.int y')] ∧ Nat.gcd x y' = Int.gcd a b, fun ρ' μ'' ⟨x', y', h, h2, h3, h4⟩ => ⟨y', h, x', y', rfl, h2, h3, h4⟩, ?_⟩
    refine ⟨h1, m, x % m, Nat.mod_lt _ (by omega), rfl, rfl, ?_⟩
    rw [← e, Nat.gcd_comm x m, Nat.gcd_rec m x, Nat.gcd_comm]
  · have h1 : ¬ (0 : Int) < m := of_decide_eq_false h1
    have : m = 0 := by omega
    subst this
    rw [Nat.gcd_zero_right] at e
    subst e
    have hg : 0 < Int.gcd a b := Int.gcd_pos_of_ne_zero_right _ (by have := hb.1; omega)
    have hle : (Int.gcd a b : Int) ≤ b := Int.le_of_dvd hb.1 (Int.gcd_dvd_right ..)
    have hd : DivOk (Int.gcd a b : Nat) := divOk_le hb (by omega) hle
    refine bcase_t (decide_eq_true hb.1) ⟨hd, hd, q⟩
end Li

set_option Elab.async false
set_option linter.all false
set_option maxRecDepth 100000
set_option maxHeartbeats 2000000
/-! The checks of the laws, held to the program's. -/
namespace Li
open PySem PySem.Spec PyProof.Rows L2
variable [Tbl] [cC : Cls]
theorem lowest_same {a b : Int} (hb : 1 ≤ b) : deq (.tup [.int (a / (Int.gcd a b : Nat)), .int (b / (Int.gcd a b : Nat))]) (.tup [.int a, .int b]) = decide (Int.gcd a b = 1) := by
  have hg : 0 < Int.gcd a b := Int.gcd_pos_of_ne_zero_right _ (by omega)
  simp only [deq, deqs]
  by_cases h : Int.gcd a b = 1
  · rw [h]; simp
  · have : b / (Int.gcd a b : Nat) ≠ b := by
      intro e
      have h2 : (2 : Int) ≤ (Int.gcd a b : Nat) := by omega
      have h3 : b / (Int.gcd a b : Nat) < b := Int.ediv_lt_self_of_pos_of_ne_one (by omega) (by omega)
      omega
    simp [h, this]
theorem pure__law_is_fraction (ds : List D) (μ : MS) (Q : DK) (Ed : DXK) (h : sp__law_is_fraction ds μ Q Ed) : t__law_is_fraction Ed { nx := fun _ μ => Q .non μ, rt := Q } (dstart nm__law_is_fraction ds) μ := by
  obtain ⟨v, most, rfl, hv, hm, q⟩ := h
  cases v with
  | tup es =>
    refine ⟨Dat.eqv (dat_int _) (dat_int _), ?_⟩
    match es, hv, q with
    | [], hv, q => exact bcase_t (len_ne (by decide)) q
    | [x], hv, q => exact bcase_t (len_ne (by simp)) q
    | x :: y :: z :: r, hv, q => exact bcase_t (len_ne (by simp only [List.length_cons]; omega)) q
    | [x, y], hv, q =>
      have e2 : isFrac (.tup [x, y]) 0 most most = (isWhole x 0 most && isWhole y 1 most && gcd1 x y) := rfl
      rw [e2] at q
      refine bcase_f (by simp [deq]) ⟨x, 0, most, rfl, hv.mem x (by simp), ?_⟩
      refine bcase_of (fun h => ?_) fun h => ?_
      · have hx : isWhole x 0 most = false := by simpa using h
        rw [hx] at q
        exact q
      · have hx : isWhole x 0 most = true := by simpa using h
        refine ⟨y, 1, most, rfl, hv.mem y (by simp), ?_⟩
        rw [hx] at q
        refine bcase_of (fun h => ?_) fun h => ?_
        · have hy : isWhole y 1 most = false := by simpa using h
          rw [hy] at q
          exact q
        · have hy : isWhole y 1 most = true := by simpa using h
          obtain ⟨a, rfl⟩ := isWhole_int hx
          obtain ⟨b, rfl⟩ := isWhole_int hy
          have hy' : 1 ≤ b ∧ b ≤ most := by simpa [isWhole] using hy
          have hb : DivOk b := ⟨by omega, by
            have h1 : b.natAbs < 2 ^ 1000 := by omega
            exact Nat.lt_of_lt_of_le ((Nat.log2_lt (by omega)).mpr h1) (by decide)⟩
          refine ⟨a, b, rfl, hb, ⟨by simp [D.lay, D.lays], hv.1, by simp [D.dep, D.deps], by have := hv.2; omega⟩, ?_⟩
          rw [lowest_same hy'.1]
          rw [hy] at q
          exact q
  | non => exact q
  | bl b => exact q
  | str b => exact q
  | int b => exact q
  | lst b => exact q
  | _ => exact absurd hv.1 (by simp [D.lay])
theorem any_int (i : Int) (js : List Int) : ((js.map D.int).any fun z => deq z (.int i)) = decide (i ∈ js) := by
  induction js with
  | nil => simp
  | cons j js ih =>
    simp only [List.map_cons, List.any_cons, ih, deq_i, List.mem_cons]
    by_cases h : i = j
    · subst h; simp
    · simp [h, Ne.symm h]
theorem nin_t {i : Int} {js : List Int} (h : (true != ((js.map D.int).any fun z => deq z (.int i))) = true) : i ∉ js := by
  rw [any_int] at h; simpa using h
theorem nin_f {i : Int} {js : List Int} (h : (true != ((js.map D.int).any fun z => deq z (.int i))) = false) : i ∈ js := by
  rw [any_int] at h; simpa using h
theorem pure__law_is_fuses (ds : List D) (μ : MS) (Q : DK) (Ed : DXK) (h : sp__law_is_fuses ds μ Q Ed) : t__law_is_fuses Ed { nx := fun _ μ => Q .non μ, rt := Q } (dstart nm__law_is_fuses ds) μ := by
  obtain ⟨v, rfl, hv, q⟩ := h
  cases v with
  | tup es =>
    refine ⟨(dat_int _).eqv ⟨by decide, by decide⟩, bcase_of (fun h => ?_) fun h => ?_⟩
    · have h := nin_t (js := [1, 2, 3]) h
      simp only [List.mem_cons, List.not_mem_nil, or_false, not_or] at h
      have e : isFuses (.tup es) = false := by
        show (decide (1 ≤ es.length) && decide (es.length ≤ 3) && _) = _
        by_cases h1 : 1 ≤ es.length
        · have h3 : ¬ es.length ≤ 3 := by omega
          rw [decide_eq_false h3, Bool.and_false]; rfl
        · rw [decide_eq_false h1]; rfl
      rw [e] at q
      exact q
    · have h := nin_f (js := [1, 2, 3]) h
      simp only [List.mem_cons, List.not_mem_nil, or_false] at h
      have e : isFuses (.tup es) = es.all fun d => isWhole d 1 60 := by
        show (decide (1 ≤ es.length) && decide (es.length ≤ 3) && _) = _
        rw [decide_eq_true (by omega : 1 ≤ es.length), decide_eq_true (by omega : es.length ≤ 3)]; rfl
      rw [e] at q
      refine lcL_filter (fun d => !isWhole d 1 60) es _ (fun d hd A Z a z => ⟨d, 1, 60, rfl, hv.mem d hd, bcase_of a z⟩) ?_
      rw [← deq_filter] at q
      exact ⟨Dat.list fun d hd => hv.mem d (List.mem_filter.mp hd).1, q⟩
  | non => exact q
  | bl b => exact q
  | int b => exact q
  | str b => exact q
  | lst b => exact q
  | _ => exact absurd hv.1 (by simp [D.lay])
theorem isStep_long {p : Int} {x y z u : D} {r : List D} : isStep p (.tup (x :: y :: z :: u :: r)) = false := by
  unfold isStep; split <;> first | rfl | (rename_i h; cases h)
theorem isStep_ns {p : Int} {x : D} {r : List D} (h : ∀ w, x ≠ .str w) : isStep p (.tup (x :: r)) = false := by
  unfold isStep; split <;> first | rfl | (rename_i e; cases e; exact absurd rfl (h _))
theorem pure__law_is_step (ds : List D) (μ : MS) (Q : DK) (Ed : DXK) (h : sp__law_is_step ds μ Q Ed) : t__law_is_step Ed { nx := fun _ μ => Q .non μ, rt := Q } (dstart nm__law_is_step ds) μ := by
  obtain ⟨p, v, rfl, hv, q⟩ := h
  cases v with
  | tup es =>
    refine ⟨(dat_int _).eqv ⟨by decide, by decide⟩, bcase_of (fun h => ?_) fun h => ?_⟩
    · have h := nin_t (js := [1, 2, 3]) h
      simp only [List.mem_cons, List.not_mem_nil, or_false, not_or] at h
      have e : isStep p (.tup es) = false := by
        match es, h with
        | [], _ => rfl
        | [x], h => simp at h
        | [x, y], h => simp at h
        | [x, y, z], h => simp at h
        | x :: y :: z :: u :: r, _ => exact isStep_long
      rw [e] at q
      exact q
    · have h := nin_f (js := [1, 2, 3]) h
      simp only [List.mem_cons, List.not_mem_nil, or_false] at h
      match es, h, hv, q with
      | [], h, hv, q => simp at h
      | x :: y :: z :: u :: r, h, hv, q => simp only [List.length_cons] at h; omega
      | [x], _, hv, q =>
        have hx : Dat x := hv.mem x (by simp)
        cases x with
        | str w =>
          refine ⟨(dat_int _).eqv (dat_int _), bcase_t (by rw [deq_i]; exact decide_eq_true rfl) ⟨hx.eqv ⟨by decide +kernel, by decide +kernel⟩, ?_⟩⟩
          have e : isStep p (.tup [.str w]) = (false != ((([("first" : Str), "ring"]).map D.str).any fun z => deq z (.str w))) := by rw [any_str, Bool.false_bne]; rfl
          rw [e] at q
          exact q
        | non => exact q
        | bl b => exact q
        | int b => exact q
        | tup b => exact q
        | lst b => exact q
        | _ => exact absurd hx.1 (by simp [D.lay])
      | [x, y], _, hv, q =>
        have hx : Dat x := hv.mem x (by simp)
        cases x with
        | str w =>
          have e : isStep p (.tup [.str w, y]) = (decide (w ∈ (["spot", "quench", "wait"] : List Str)) && isWhole y 0 (p - 1)) := rfl
          refine ⟨(dat_int _).eqv (dat_int _), bcase_f (by rw [deq_i]; exact decide_eq_false (by simp)) ⟨y, 0, p - 1, rfl, hv.mem y (by simp), bcase_of (fun h2 => ?_) fun h2 => ?_⟩⟩
          · have h2 : isWhole y 0 (p - 1) = false := by simpa using h2
            rw [e, h2, Bool.and_false] at q
            exact q
          · have h2 : isWhole y 0 (p - 1) = true := by simpa using h2
            rw [e, h2, Bool.and_true] at q
            refine ⟨(dat_int _).eqv (dat_int _), bcase_t (by rw [deq_i]; exact decide_eq_true rfl) ⟨hx.eqv ⟨by decide +kernel, by decide +kernel⟩, ?_⟩⟩
            have e3 : decide (w ∈ (["spot", "quench", "wait"] : List Str)) = (false != ((([("spot" : Str), "quench", "wait"]).map D.str).any fun z => deq z (.str w))) := by rw [any_str, Bool.false_bne]
            rw [e3] at q
            exact q
        | non => exact q
        | bl b => exact q
        | int b => exact q
        | tup b => exact q
        | lst b => exact q
        | _ => exact absurd hx.1 (by simp [D.lay])
      | [x, y, z], _, hv, q =>
        have hx : Dat x := hv.mem x (by simp)
        cases x with
        | str w =>
          have e : isStep p (.tup [.str w, y, z]) = (decide (w = "light") && isWhole y 0 (p - 1) && isWord z sides) := rfl
          refine ⟨(dat_int _).eqv (dat_int _), bcase_f (by rw [deq_i]; exact decide_eq_false (by simp)) ⟨y, 0, p - 1, rfl, hv.mem y (by simp), bcase_of (fun h2 => ?_) fun h2 => ?_⟩⟩
          · have h2 : isWhole y 0 (p - 1) = false := by simpa using h2
            rw [e, h2, Bool.and_false] at q
            exact q
          · have h2 : isWhole y 0 (p - 1) = true := by simpa using h2
            rw [e, h2, Bool.and_true] at q
            refine ⟨(dat_int _).eqv (dat_int _), bcase_f (by rw [deq_i]; exact decide_eq_false (by simp)) ⟨hx.eqv ⟨by decide +kernel, by decide +kernel⟩, bcase_of (fun h3 => ?_) fun h3 => ?_⟩⟩
            · have h3 : w = "light" := of_decide_eq_true ((deq_s _ _).symm.trans h3)
              rw [decide_eq_true h3, Bool.true_and] at q
              have hz : Dat z := hv.mem z (by simp)
              cases z with
              | str u =>
                refine ⟨hz.eqv ⟨by decide +kernel, by decide +kernel⟩, ?_⟩
                rw [show isWord (.str u) sides = (false != (sides.any fun z => deq z (.str u))) by rw [Bool.false_bne]; rfl] at q
                exact q
              | non => exact q
              | bl b => exact q
              | int b => exact q
              | tup b => exact q
              | lst b => exact q
              | _ => exact absurd hz.1 (by simp [D.lay])
            · have h3 : w ≠ "light" := of_decide_eq_false ((deq_s _ _).symm.trans h3)
              rw [decide_eq_false h3] at q
              have e4 : deq (.str w) (.str "light") = false := (deq_s _ _).trans (decide_eq_false h3)
              exact q
        | non => exact q
        | bl b => exact q
        | int b => exact q
        | tup b => exact q
        | lst b => exact q
        | _ => exact absurd hx.1 (by simp [D.lay])
  | non => exact q
  | bl b => exact q
  | int b => exact q
  | str b => exact q
  | lst b => exact q
  | _ => exact absurd hv.1 (by simp [D.lay])
end Li

set_option Elab.async false
set_option linter.all false
set_option maxRecDepth 100000
set_option maxHeartbeats 2000000
namespace Li
open PySem PySem.Spec PyProof.Rows L2
variable [Tbl] [cC : Cls]
theorem pure__law_is_script (ds : List D) (μ : MS) (Q : DK) (Ed : DXK) (h : sp__law_is_script ds μ Q Ed) : t__law_is_script Ed { nx := fun _ μ => Q .non μ, rt := Q } (dstart nm__law_is_script ds) μ := by
  obtain ⟨v, rfl, hv, q⟩ := h
  cases v with
  | tup es =>
    refine ⟨(dat_int _).eqv (dat_int _), ?_⟩
    match es, hv, q with
    | [], hv, q => exact bcase_t (len_ne (by decide)) q
    | [x], hv, q => exact bcase_t (len_ne (by simp)) q
    | x :: y :: z :: r, hv, q =>
      have e : isScript (.tup (x :: y :: z :: r)) = false := by unfold isScript; split <;> first | rfl | (rename_i h; cases h)
      rw [e] at q
      exact bcase_t (len_ne (by simp only [List.length_cons]; omega)) q
    | [x, y], hv, q =>
      refine bcase_f (by simp [deq]) ⟨x, rfl, hv.mem x (by simp), bcase_of (fun h => ?_) fun h => ?_⟩
      · have h : isFuses x = false := by simpa using h
        have e : isScript (.tup [x, y]) = false := by
          unfold isScript
          split
          · rename_i h'; cases h'; rw [h]; rfl
          · rfl
        rw [e] at q
        exact q
      · have h : isFuses x = true := by simpa using h
        have hy : Dat y := hv.mem y (by simp)
        cases x with
        | tup fs =>
          cases y with
          | tup ss =>
            refine bcase_of (fun h2 => ?_) fun h2 => ?_
            · have h2 : ¬ ss.length ≤ 12 := by have h2 : (12 : Int) < ss.length := of_decide_eq_true h2; omega
              have e : isScript (.tup [.tup fs, .tup ss]) = false := by
                show (isFuses (.tup fs) && decide (ss.length ≤ 12) && _ && _) = _
                rw [decide_eq_false h2, Bool.and_false]; rfl
              rw [e] at q
              exact q
            · have h2 : ss.length ≤ 12 := by have h2 : ¬ (12 : Int) < ss.length := of_decide_eq_false h2; omega
              have e : isScript (.tup [.tup fs, .tup ss]) = (areSteps fs.length ss && decide (countD "spot" ss ≤ 2)) := by
                show (isFuses (.tup fs) && decide (ss.length ≤ 12) && _ && _) = _
                rw [decide_eq_true h2, h]; rfl
              rw [e] at q
              refine forL_ind (fun r ρ μ' => ∃ c : Nat, μ' = μ ∧ areSteps ((fs.length : Int) + c) r = areSteps fs.length ss ∧ c + countD "spot" r = countD "spot" ss ∧ (∀ d ∈ r, Dat d) ∧ ρ = [some (.tup [.tup fs, .tup ss]), some (.int ((fs.length : Int) + c)), none]) ?_ ?_ _ _ _ ⟨0, rfl, by simp, by simp, hy.mem, by simp; rfl⟩
              · rintro d r ρ μ' N ⟨c, rfl, e1, e2, hd, rfl⟩ hN
                have hd0 := hd d (by simp)
                refine ⟨_, d, rfl, hd0, bcase_of (fun h3 => ?_) fun h3 => ?_⟩
                · have h3 : isStep ((fs.length : Int) + c) d = false := by simpa using h3
                  have e3 : areSteps fs.length ss = false := by rw [← e1]; simp [areSteps, h3]
                  rw [e3] at q
                  exact q
                · have h3 : isStep ((fs.length : Int) + c) d = true := by simpa using h3
                  obtain ⟨w, r', rfl⟩ := headed_of h3
                  have e4 : areSteps ((fs.length : Int) + c) (.tup (.str w :: r') :: r) = areSteps (if isHead "spot" (.tup (.str w :: r')) then (fs.length : Int) + c + 1 else (fs.length : Int) + c) r := by simp only [areSteps, h3, Bool.true_and]
                  rw [e4] at e1
                  rw [countD_cons] at e2
                  refine getK_some (at0 _ _) ⟨(hd0.mem _ (by simp)).eqv ⟨by decide +kernel, by decide +kernel⟩, ?_⟩
                  have es : deq (.str w) (.str "spot") = isHead "spot" (.tup (.str w :: r')) := deq_s _ _
                  cases hh : isHead "spot" (.tup (.str w :: r')) with
                  | true =>
                    rw [hh] at e1 e2 es
                    have n := hN [some (.tup [.tup fs, .tup ss]), some (.int ((fs.length : Int) + (c + 1 : Nat))), none] μ' ⟨c + 1, rfl, by rw [← e1]; congr 1, by simp at e2; omega, fun d hd' => hd d (List.mem_cons_of_mem _ hd'), rfl⟩
                    rw [show (fs.length : Int) + (c + 1 : Nat) = (fs.length : Int) + c + 1 by omega] at n
                    show N (([some (.tup [.tup fs, .tup ss]), some (.int ((fs.length : Int) + c + (if deq (.str w) (.str "spot") then 1 else 0))), none])) μ'
                    rw [es]
                    exact n
                  | false =>
                    rw [hh] at e1 e2 es
                    have n := hN [some (.tup [.tup fs, .tup ss]), some (.int ((fs.length : Int) + c)), none] μ' ⟨c, rfl, by rw [← e1]; rfl, by simp at e2; omega, fun d hd' => hd d (List.mem_cons_of_mem _ hd'), rfl⟩
                    show N (([some (.tup [.tup fs, .tup ss]), some (.int ((fs.length : Int) + c + (if deq (.str w) (.str "spot") then 1 else 0))), none])) μ'
                    rw [es]
                    simpa using n
              · rintro ρ μ' ⟨c, rfl, e1, e2, _, rfl⟩
                have e1 : areSteps fs.length ss = true := by rw [← e1]; rfl
                have e2 : countD "spot" ss = c := by rw [← e2]; simp [countD]
                have e5 : decide (countD "spot" ss ≤ 2) = decide ((fs.length : Int) + c ≤ (fs.length : Int) + 2) := decide_eq_decide.mpr (by omega)
                rw [e1, Bool.true_and, e5] at q
                exact q
          | non => exact q
          | bl b => exact q
          | int b => exact q
          | str b => exact q
          | lst b => exact q
          | _ => exact absurd hy.1 (by simp [D.lay])
        | _ => cases h
  | non => exact q
  | bl b => exact q
  | int b => exact q
  | str b => exact q
  | lst b => exact q
  | _ => exact absurd hv.1 (by simp [D.lay])
theorem isFact_long {s x y z u : D} {r : List D} : isFact s (.tup (x :: y :: z :: u :: r)) = false := by
  unfold isFact; split <;> first | rfl | (rename_i h; cases h)
theorem isWhole_cut {v : D} {lo a b : Int} (h : ∀ i, v = .int i → i ≤ a) (hab : a ≤ b) : isWhole v lo b = isWhole v lo a := by
  cases v with
  | int i =>
    have := h i rfl
    show (decide (lo ≤ i) && decide (i ≤ b)) = (decide (lo ≤ i) && decide (i ≤ a))
    rw [decide_eq_true (by omega : i ≤ b), decide_eq_true this]
  | _ => rfl
theorem frac_ints {v : D} {lo hi be : Int} (h : isFrac v lo hi be = true) : ∃ a b, v = .tup [.int a, .int b] := by
  unfold isFrac at h
  split at h
  · rename_i x y
    have h1 : isWhole x lo hi = true := by cases e : isWhole x lo hi with
      | true => rfl
      | false => rw [e] at h; cases h
    have h2 : isWhole y 1 be = true := by cases e : isWhole y 1 be with
      | true => rfl
      | false => rw [e, Bool.and_false] at h; cases h
    obtain ⟨a, rfl⟩ := isWhole_int h1
    obtain ⟨b, rfl⟩ := isWhole_int h2
    exact ⟨a, b, rfl⟩
  · cases h
theorem isTime_cut {n k : Nat} {v : D} (h : Fit n k v) (hn : n ≤ 130) : isTime v = (isFrac v 0 (10 ^ 40) (10 ^ 40) && tupUnder v) := by
  have hb : (2 ^ n : Int) ≤ 10 ^ 40 := Int.le_trans (two_mono hn) (by decide)
  unfold isTime
  congr 1
  unfold isFrac
  split
  · rename_i x y
    obtain ⟨_, he⟩ := h.tup
    have hx : ∀ i, x = .int i → i ≤ 10 ^ 40 := fun i e => by subst e; have := (he (.int i) (by simp)).int; omega
    have hy : ∀ i, y = .int i → i ≤ 10 ^ 40 := fun i e => by subst e; have := (he (.int i) (by simp)).int; omega
    rw [isWhole_cut hx (by decide), isWhole_cut hy (by decide)]
  · rfl
theorem pure__law_is_fact (ds : List D) (μ : MS) (Q : DK) (Ed : DXK) (h : sp__law_is_fact ds μ Q Ed) : t__law_is_fact Ed { nx := fun _ μ => Q .non μ, rt := Q } (dstart nm__law_is_fact ds) μ := by
  obtain ⟨s, v, n, k, rfl, hsd, hs, hf, hn, hk, q⟩ := h
  have hv : Dat v := hf.dat (by omega)
  cases v with
  | tup es =>
    refine ⟨(dat_int _).eqv ⟨by decide, by decide⟩, bcase_of (fun h => ?_) fun h => ?_⟩
    · have h := nin_t (js := [2, 3]) h
      simp only [List.mem_cons, List.not_mem_nil, or_false, not_or] at h
      have e : isFact s (.tup es) = false := by
        match es, h with
        | [], _ => rfl
        | [x], h => unfold isFact; split <;> first | rfl | (rename_i h; cases h)
        | [x, y], h => simp at h
        | [x, y, z], h => simp at h
        | x :: y :: z :: u :: r, _ => exact isFact_long
      rw [e] at q
      exact q
    · have h := nin_f (js := [2, 3]) h
      simp only [List.mem_cons, List.not_mem_nil, or_false] at h
      match es, h, hv, q, hf with
      | [], h, hv, q, hf => simp at h
      | [x], h, hv, q, hf => simp at h
      | x :: y :: z :: u :: r, h, hv, q, hf => simp only [List.length_cons] at h; omega
      | [x, y], _, hv, q, hf =>
        have hx : Dat x := hv.mem x (by simp)
        cases x with
        | str w =>
          have e : isFact s (.tup [.str w, y]) = (decide (w ∈ (["out", "left"] : List Str)) && isWhole y 0 (piecesD s - 1)) := rfl
          rw [e] at q
          refine ⟨(dat_int _).eqv (dat_int _), bcase_t (by rw [deq_i]; exact decide_eq_true rfl) ⟨hx.eqv ⟨by decide +kernel, by decide +kernel⟩, bcase_of (fun h2 => ?_) fun h2 => ?_⟩⟩
          · have h2 := in_t (ws := ["out", "left"]) h2
            rw [decide_eq_true h2, Bool.true_and] at q
            exact ⟨s, rfl, hsd, hs, y, 0, _, rfl, hv.mem y (by simp), q⟩
          · have h2' := in_f (ws := ["out", "left"]) h2
            rw [decide_eq_false h2'] at q
            exact q
        | non => exact q
        | bl b => exact q
        | int b => exact q
        | tup b => exact q
        | lst b => exact q
        | _ => exact absurd hx.1 (by simp [D.lay])
      | [x, y, z], _, hv, q, hf =>
        have hx : Dat x := hv.mem x (by simp)
        cases x with
        | str w =>
          have hz : Dat z := hv.mem z (by simp)
          have hzf := hf.tup.2 z (by simp)
          have e : isFact s (.tup [.str w, y, z]) = (decide (w ∈ (["before", "at", "after"] : List Str)) && isWhole y 0 (ringsD s - 1) && isTime z) := rfl
          rw [e] at q
          refine ⟨(dat_int _).eqv (dat_int _), bcase_f (by rw [deq_i]; exact decide_eq_false (by simp)) ⟨hx.eqv ⟨by decide +kernel, by decide +kernel⟩, bcase_of (fun h2 => ?_) fun h2 => ?_⟩⟩
          · have h2 := notIn_t (ws := ["before", "at", "after"]) h2
            rw [decide_eq_false h2] at q
            exact q
          · have h2 := notIn_f (ws := ["before", "at", "after"]) h2
            rw [decide_eq_true h2, Bool.true_and] at q
            refine ⟨s, "ring", rfl, ⟨by decide +kernel, by simp [D.dep]⟩, hsd, hs, y, 0, _, rfl, hv.mem y (by simp), bcase_of (fun h3 => ?_) fun h3 => ?_⟩
            · have h3 : isWhole y 0 ((countS s "ring" : Nat) - 1) = false := by simpa using h3
              rw [show (ringsD s : Nat) = countS s "ring" from rfl, h3] at q
              exact q
            · have h3 : isWhole y 0 ((countS s "ring" : Nat) - 1) = true := by simpa using h3
              rw [show (ringsD s : Nat) = countS s "ring" from rfl, h3, Bool.true_and, isTime_cut hzf hn] at q
              refine ⟨⟨by decide, by decide, by decide⟩, z, 10 ^ 40, rfl, hz, by decide, bcase_of (fun h4 => ?_) fun h4 => ?_⟩
              · rw [h4, Bool.true_and] at q
                obtain ⟨a, b, rfl⟩ := frac_ints h4
                exact ⟨mulOk_l (by decide) (by decide), q⟩
              · rw [h4] at q
                exact q
        | non => exact q
        | bl b => exact q
        | int b => exact q
        | tup b => exact q
        | lst b => exact q
        | _ => exact absurd hx.1 (by simp [D.lay])
  | non => exact q
  | bl b => exact q
  | int b => exact q
  | str b => exact q
  | lst b => exact q
  | _ => exact absurd hv.1 (by simp [D.lay])
end Li

set_option Elab.async false
set_option linter.all false
set_option maxRecDepth 100000
set_option maxHeartbeats 2000000
/-! Odd values, values bent. -/
namespace Li
open PySem PySem.Spec PyProof.Rows L2
variable [Tbl]
def spK__law_odd (K : Nat) : DSp := fun ds μ Q E => ∃ (a : Addr) (k : Nat), ds = [.ref a, .int k] ∧ k < K ∧ k ≤ 2 ∧ IsVat μ a ∧ ∀ μ' d, Vats a μ μ' → Fit 100 (k + 1) d → Q d μ'
def spK__law_bent (K : Nat) : DSp := fun ds μ Q E => ∃ (a : Addr) (n k : Nat) (v : D), ds = [.ref a, v] ∧ v.dep < K ∧ Fit n k v ∧ 100 ≤ n ∧ n ≤ 1000 ∧ k ≤ 20 ∧ IsVat μ a ∧ ∀ μ' d, Vats a μ μ' → Fit (n + 2) (k + 2) d → Q d μ'
abbrev sp__law_odd : DSp := spK__law_odd 3
abbrev sp__law_bent : DSp := spK__law_bent 21
abbrev nm__law_odd : List Str := ["vat", "depth", "some", "row", "part"]
abbrev ps__law_odd : List Str := ["vat", "depth"]
def t__law_odd (spr : DSp) (Ed : DXK) : DTS := (dSeq (dAsg (dLst (dCons (dC .non) (dCons (dC (.bl true)) (dCons (dC (.bl false)) (dCons (dC (.int 0)) (dCons (dC (.int 1)) (dCons (dC (.int 2)) (dCons (dC (.int 60)) (dCons (dC (.int 61)) (dCons (dNeg (dC (.int 1))) (dCons (dBin kPow (dC (.int 10)) (dC (.int 30))) (dCons (dC (.str "")) (dCons (dC (.str "left")) (dCons (dC (.str "light")) (dCons (dC (.str "out")) (dCons (dC (.str "at")) dNil)))))))))))))))) (dName 2)) (dSeq (dAsg (dBin kAdd (dVar 2) (dLst (dCons (dTup dNil) (dCons (dLst dNil) (dCons (dTup (dCons (dC (.int 60)) dNil)) (dCons (dTup (dCons (dC (.int 30)) (dCons (dC (.int 1)) dNil))) (dCons (dTup (dCons (dC (.str "ring")) dNil)) (dCons (dTup (dCons (dC (.str "first")) dNil)) (dCons (dTup (dCons (dC (.str "wait")) (dCons (dC (.int 0)) dNil))) (dCons (dTup (dCons (dC (.int 2)) (dCons (dC (.int 4)) dNil))) dNil)))))))))) (dName 2)) (dSeq (dAsg (dBin kAdd (dVar 2) (dLst (dCons (dTup (dCons (dC (.str "spot")) (dCons (dC (.int 0)) dNil))) (dCons (dTup (dCons (dC (.str "light")) (dCons (dC (.int 0)) (dCons (dC (.str "left")) dNil)))) dNil)))) (dName 2)) (dSeq (dIfS (dOr (dTest (dBin kEq (dVar 1) (dC (.int 0)))) (dTest (dBin kLt (dCall sp__law_under (dCons (dVar 0) (dCons (dC (.int 9)) dNil))) (dC (.int 6))))) (dRet (dCall sp__law_some (dCons (dVar 0) (dCons (dVar 2) dNil)))) dNext) (dSeq (dAsg (dLc (dRange1 (dCons (dCall sp__law_under (dCons (dVar 0) (dCons (dC (.int 4)) dNil))) dNil)) (dName 4) dYes (dCall spr (dCons (dVar 0) (dCons (dBin kSub (dVar 1) (dC (.int 1))) dNil))) [4]) (dName 3)) (dRet (dIf (dTest (dBin kEq (dCall sp__law_under (dCons (dVar 0) (dCons (dC (.int 3)) dNil))) (dC (.int 0)))) (dVar 3) (dCB kTuple (dCons (dVar 3) dNil)))))))))
abbrev nm__law_bent : List Str := ["vat", "value", "near", "at", "way"]
abbrev ps__law_bent : List Str := ["vat", "value"]
def t__law_bent (spr : DSp) (Ed : DXK) : DTS := (dSeq (dIfS (dOr (dNot (dTest (dCB kIsi (dCons (dVar 1) (dCons (dC (.ty "tuple")) dNil))))) (dOr (dTest (dBin kEq (dVar 1) (dTup dNil))) (dTest (dBin kEq (dCall sp__law_under (dCons (dVar 0) (dCons (dC (.int 7)) dNil))) (dC (.int 0)))))) (dSeq (dAsg (dLst (dCons (dCall sp__law_odd (dCons (dVar 0) (dCons (dC (.int 1)) dNil))) (dCons (dCall sp__law_odd (dCons (dVar 0) (dCons (dC (.int 1)) dNil))) dNil))) (dName 2)) (dSeq (dIfS (dTest (dCB kIsi (dCons (dVar 1) (dCons (dC (.ty "str")) dNil)))) (dAsg (dBin kAdd (dVar 2) (dLst (dCons (dC (.str "left")) (dCons (dC (.str "right")) (dCons (dC (.str "wait")) (dCons (dC (.str "spot")) (dCons (dSl (dVar 1) dNoPart (dPart (dNeg (dC (.int 1))))) (dCons (dM0 kUpper (dVar 1)) (dCons (dC (.str "before")) dNil))))))))) (dName 2)) (dIfS (dTest (dCB kIsi (dCons (dVar 1) (dCons (dC (.ty "int")) dNil)))) (dAsg (dBin kAdd (dVar 2) (dLst (dCons (dBin kAddB (dVar 1) (dC (.int 1))) (dCons (dBin kSubB (dVar 1) (dC (.int 1))) (dCons (dNotI (dVar 1)) (dCons (dCB kStr (dCons (dVar 1) dNil)) (dCons (dBin kMulB (dC (.int 2)) (dVar 1)) dNil))))))) (dName 2)) dNext)) (dRet (dCall sp__law_some (dCons (dVar 0) (dCons (dVar 2) dNil)))))) dNext) (dSeq (dPar 3 4 (dCons (dCall sp__law_under (dCons (dVar 0) (dCons (dCB kLen (dCons (dVar 1) dNil)) dNil))) (dCons (dCall sp__law_under (dCons (dVar 0) (dCons (dC (.int 9)) dNil))) dNil))) (dSeq (dIfS (dTest (dBin kEq (dVar 4) (dC (.int 0)))) (dRet (dBin kAdd (dSl (dVar 1) dNoPart (dPart (dVar 3))) (dSl (dVar 1) (dPart (dBin kAdd (dVar 3) (dC (.int 1)))) dNoPart))) dNext) (dSeq (dIfS (dTest (dBin kEq (dVar 4) (dC (.int 1)))) (dRet (dBin kAdd (dSl (dVar 1) dNoPart (dPart (dBin kAdd (dVar 3) (dC (.int 1))))) (dSl (dVar 1) (dPart (dVar 3)) dNoPart))) dNext) (dSeq (dIfS (dTest (dBin kEq (dVar 4) (dC (.int 2)))) (dRet (dRevT (dVar 1))) dNext) (dSeq (dIfS (dTest (dBin kEq (dVar 4) (dC (.int 3)))) (dRet (dCB kList (dCons (dVar 1) dNil))) dNext) (dRet (dBin kAdd (dBin kAdd (dSl (dVar 1) dNoPart (dPart (dVar 3))) (dTup (dCons (dCall spr (dCons (dVar 0) (dCons (dBin kIx (dVar 1) (dVar 3)) dNil))) dNil))) (dSl (dVar 1) (dPart (dBin kAdd (dVar 3) (dC (.int 1)))) dNoPart)))))))))
def oddL : List D := [.non, .bl true, .bl false, .int 0, .int 1, .int 2, .int 60, .int 61, .int (-1), .int (10 ^ 30), .str "", .str "left", .str "light", .str "out", .str "at",
  .tup [], .lst [], .tup [.int 60], .tup [.int 30, .int 1], .tup [.str "ring"], .tup [.str "first"], .tup [.str "wait", .int 0], .tup [.int 2, .int 4], .tup [.str "spot", .int 0], .tup [.str "light", .int 0, .str "left"]]
theorem oddL_fit : ∀ d ∈ oddL, Fit 100 1 d := by
  intro d hd
  have c1 : (100 : Int) ≤ 2 ^ 100 := by decide
  have c2 : (10 ^ 30 : Int) ≤ 2 ^ 100 := by decide
  have i : ∀ {k : Nat} {z : Int}, -100 ≤ z → z ≤ 10 ^ 30 → Fit 100 k (.int z) := fun {k z} h1 h2 => fit_int (by omega) (by omega)
  have t : ∀ {ds : List D}, ds.length ≤ 100 → (∀ d ∈ ds, Fit 100 0 d) → Fit 100 1 (.tup ds) := fun h1 h2 => fit_tup h1 h2
  simp only [oddL, List.mem_cons, List.not_mem_nil, or_false] at hd
  rcases hd with rfl | rfl | rfl | rfl | rfl | rfl | rfl | rfl | rfl | rfl | rfl | rfl | rfl | rfl | rfl | rfl | rfl | rfl | rfl | rfl | rfl | rfl | rfl | rfl | rfl
  · exact fit_non
  · exact fit_bl
  · exact fit_bl
  · exact i (by decide) (by decide)
  · exact i (by decide) (by decide)
  · exact i (by decide) (by decide)
  · exact i (by decide) (by decide)
  · exact i (by decide) (by decide)
  · exact i (by decide) (by decide)
  · exact i (by decide) (by decide)
  · exact fit_lit
  · exact fit_lit
  · exact fit_lit
  · exact fit_lit
  · exact fit_lit
  · exact t (by decide) (by simp)
  · exact fit_lst (k := 0) (by decide) (by simp)
  · exact t (by decide) (by simp only [List.mem_cons, List.not_mem_nil, or_false]; rintro d rfl; exact i (by decide) (by decide))
  · exact t (by decide) (by simp only [List.mem_cons, List.not_mem_nil, or_false]; rintro d (rfl | rfl) <;> exact i (by decide) (by decide))
  · exact t (by decide) (by simp only [List.mem_cons, List.not_mem_nil, or_false]; rintro d rfl; exact fit_lit)
  · exact t (by decide) (by simp only [List.mem_cons, List.not_mem_nil, or_false]; rintro d rfl; exact fit_lit)
  · exact t (by decide) (by simp only [List.mem_cons, List.not_mem_nil, or_false]; rintro d (rfl | rfl); exact fit_lit; exact i (by decide) (by decide))
  · exact t (by decide) (by simp only [List.mem_cons, List.not_mem_nil, or_false]; rintro d (rfl | rfl) <;> exact i (by decide) (by decide))
  · exact t (by decide) (by simp only [List.mem_cons, List.not_mem_nil, or_false]; rintro d (rfl | rfl); exact fit_lit; exact i (by decide) (by decide))
  · exact t (by decide) (by simp only [List.mem_cons, List.not_mem_nil, or_false]; rintro d (rfl | rfl | rfl); exact fit_lit; exact i (by decide) (by decide); exact fit_lit)
theorem pure__law_odd (K : Nat) (ds : List D) (μ : MS) (Q : DK) (Ed : DXK) (h : spK__law_odd (K + 1) ds μ Q Ed) : t__law_odd (spK__law_odd K) Ed { nx := fun _ μ => Q .non μ, rt := Q } (dstart nm__law_odd ds) μ := by
  obtain ⟨a, k, rfl, hk, hk2, hv, q⟩ := h
  refine ⟨⟨by decide, by decide, by decide⟩, by decide, by decide, ?_⟩
  have some_ : ∀ μ1, Vats a μ μ1 → (dRet (dCall sp__law_some (dCons (dVar 0) (dCons (dVar 2) dNil)))) { nx := fun _ μ => Q .non μ, rt := Q } [some (.ref a), some (.int k), some (.lst oddL), none, none] μ1 := fun μ1 v1 =>
    ⟨a, oddL, rfl, v1.vat, by simp [oddL], by simp [oddL], fun μ2 d v2 hd => q μ2 d (v1.trans v2) ((oddL_fit d hd).mono (Nat.le_refl _) (by omega))⟩
  have rest : ∀ μ1, Vats a μ μ1 → k < K + 1 → k ≠ 0 → (dSeq (dAsg (dLc (dRange1 (dCons (dCall sp__law_under (dCons (dVar 0) (dCons (dC (.int 4)) dNil))) dNil)) (dName 4) dYes (dCall (spK__law_odd K) (dCons (dVar 0) (dCons (dBin kSub (dVar 1) (dC (.int 1))) dNil))) [4]) (dName 3)) (dRet (dIf (dTest (dBin kEq (dCall sp__law_under (dCons (dVar 0) (dCons (dC (.int 3)) dNil))) (dC (.int 0)))) (dVar 3) (dCB kTuple (dCons (dVar 3) dNil)))))
      { nx := fun _ μ => Q .non μ, rt := Q } [some (.ref a), some (.int k), some (.lst oddL), none, none] μ1 := by
    intro μ1 v1 hkK hk0
    refine ⟨a, 4, rfl, v1.vat, by decide, by decide, fun μ2 r v2 h0 h1 => ?_⟩
    refine ⟨by omega, by omega, ?_⟩
    refine lcL_all (fun μ' => Vats a μ μ') (fun d => Fit 100 k d) _ μ2 _ (v1.trans v2) (fun d hd μ3 v3 A Z hA hZ => ?_) fun row μ3 v3 hl hrow => ?_
    · obtain ⟨j, rfl⟩ : ∃ j, k = j + 1 := ⟨k - 1, by omega⟩
      have e : ((j + 1 : Nat) : Int) - 1 = (j : Nat) := by omega
      show spK__law_odd K [.ref a, .int (((j + 1 : Nat) : Int) - 1)] μ3 A noX
      rw [e]
      exact ⟨a, j, rfl, by omega, by omega, v3.vat, fun μ4 d v4 hd => hA d μ4 (v3.trans v4) hd⟩
    · rw [intsD_length] at hl
      have hl4 : row.length ≤ 100 := by omega
      refine ⟨a, 3, rfl, v3.vat, by decide, by decide, fun μ4 r3 v4 _ _ => ?_⟩
      refine ⟨(dat_int _).eqv (dat_int _), bcase_of (fun _ => ?_) fun _ => ?_⟩
      · exact q μ4 _ (v3.trans v4) (fit_lst hl4 hrow)
      · exact q μ4 _ (v3.trans v4) (fit_tup hl4 hrow)
  refine ⟨(dat_int _).eqv (dat_int _), bcase_of (fun _ => some_ μ (Vats.refl hv)) fun h0 => ?_⟩
  have h0 : ¬ (k : Int) = 0 := by rw [deq_i] at h0; exact of_decide_eq_false h0
  refine ⟨a, 9, rfl, hv, by decide, by decide, fun μ1 r v1 _ _ => bcase_of (fun _ => some_ μ1 v1) fun _ => rest μ1 v1 hk (by omega)⟩
end Li

set_option Elab.async false
set_option linter.all false
set_option maxRecDepth 100000
set_option maxHeartbeats 2000000
/-! Values bent. -/
namespace Li
open PySem PySem.Spec PyProof.Rows L2
variable [Tbl]
def t__bent_near : DTS := (dSeq (dAsg (dLst (dCons (dCall sp__law_odd (dCons (dVar 0) (dCons (dC (.int 1)) dNil))) (dCons (dCall sp__law_odd (dCons (dVar 0) (dCons (dC (.int 1)) dNil))) dNil))) (dName 2)) (dSeq (dIfS (dTest (dCB kIsi (dCons (dVar 1) (dCons (dC (.ty "str")) dNil)))) (dAsg (dBin kAdd (dVar 2) (dLst (dCons (dC (.str "left")) (dCons (dC (.str "right")) (dCons (dC (.str "wait")) (dCons (dC (.str "spot")) (dCons (dSl (dVar 1) dNoPart (dPart (dNeg (dC (.int 1))))) (dCons (dM0 kUpper (dVar 1)) (dCons (dC (.str "before")) dNil))))))))) (dName 2)) (dIfS (dTest (dCB kIsi (dCons (dVar 1) (dCons (dC (.ty "int")) dNil)))) (dAsg (dBin kAdd (dVar 2) (dLst (dCons (dBin kAddB (dVar 1) (dC (.int 1))) (dCons (dBin kSubB (dVar 1) (dC (.int 1))) (dCons (dNotI (dVar 1)) (dCons (dCB kStr (dCons (dVar 1) dNil)) (dCons (dBin kMulB (dC (.int 2)) (dVar 1)) dNil))))))) (dName 2)) dNext)) (dRet (dCall sp__law_some (dCons (dVar 0) (dCons (dVar 2) dNil))))))
def t__bent_parts (spr : DSp) : DTS := (dSeq (dPar 3 4 (dCons (dCall sp__law_under (dCons (dVar 0) (dCons (dCB kLen (dCons (dVar 1) dNil)) dNil))) (dCons (dCall sp__law_under (dCons (dVar 0) (dCons (dC (.int 9)) dNil))) dNil))) (dSeq (dIfS (dTest (dBin kEq (dVar 4) (dC (.int 0)))) (dRet (dBin kAdd (dSl (dVar 1) dNoPart (dPart (dVar 3))) (dSl (dVar 1) (dPart (dBin kAdd (dVar 3) (dC (.int 1)))) dNoPart))) dNext) (dSeq (dIfS (dTest (dBin kEq (dVar 4) (dC (.int 1)))) (dRet (dBin kAdd (dSl (dVar 1) dNoPart (dPart (dBin kAdd (dVar 3) (dC (.int 1))))) (dSl (dVar 1) (dPart (dVar 3)) dNoPart))) dNext) (dSeq (dIfS (dTest (dBin kEq (dVar 4) (dC (.int 2)))) (dRet (dRevT (dVar 1))) dNext) (dSeq (dIfS (dTest (dBin kEq (dVar 4) (dC (.int 3)))) (dRet (dCB kList (dCons (dVar 1) dNil))) dNext) (dRet (dBin kAdd (dBin kAdd (dSl (dVar 1) dNoPart (dPart (dVar 3))) (dTup (dCons (dCall spr (dCons (dVar 0) (dCons (dBin kIx (dVar 1) (dVar 3)) dNil))) dNil))) (dSl (dVar 1) (dPart (dBin kAdd (dVar 3) (dC (.int 1)))) dNoPart))))))))
theorem asc_up : ∀ c, c < 128 → (Unicode.upperOf c).length = 1 ∧ ∀ d ∈ Unicode.upperOf c, d < 128 := by decide +kernel
theorem upper_fit {n k : Nat} {x : Str} (h : Fit n k (.str x)) : Fit n k (.str (Txt.upper x)) := by
  obtain ⟨h1, h2⟩ := h.str
  have e : (Txt.upper x).cps.toList = (x.cps.toList.map Unicode.upperOf).flatten := by
    show (placed x fun _ c => Unicode.upperOf c).toList = _
    unfold placed
    rw [Array.toList_flatten]
    congr 1
    apply List.ext_getElem?
    intro i
    simp [Array.getElem?_toList]
    cases x.cps[i]? <;> simp
  refine fit_str ?_ fun c hc => ?_
  · show (Txt.upper x).cps.size ≤ n
    rw [← Array.length_toList, e, List.length_flatten, List.map_map]
    have : ∀ l : List Nat, (∀ c ∈ l, c < 128) → (l.map (List.length ∘ Unicode.upperOf)).sum = l.length := by
      intro l
      induction l with
      | nil => intro _; rfl
      | cons c l ih =>
        intro hl
        rw [List.map_cons, List.sum_cons, ih fun d hd => hl d (by simp [hd])]
        have := (asc_up c (hl c (by simp))).1
        simp only [Function.comp, List.length_cons]
        omega
    rw [this _ h2, Array.length_toList]
    exact h1
  · rw [e] at hc
    obtain ⟨l, hl, hc⟩ := List.mem_flatten.mp hc
    obtain ⟨d, hd, rfl⟩ := List.mem_map.mp hl
    exact (asc_up d (h2 d hd)).2 c hc
theorem cutS_fit {n k : Nat} {x : Str} {lo hi : Option Int} (h : Fit n k (.str x)) : Fit n k (.str (cutS x lo hi)) := by
  obtain ⟨h1, h2⟩ := h.str
  refine fit_str ?_ fun c hc => ?_
  · show (cutS x lo hi).cps.size ≤ n
    unfold cutS
    rw [List.size_toArray, List.length_take, List.length_drop, Array.length_toList]
    have : x.cps.size ≤ n := h1
    omega
  · unfold cutS at hc
    exact h2 c (List.mem_of_mem_drop (List.mem_of_mem_take (by simpa using hc)))
theorem intStr_fit {n k : Nat} {i : Int} (h1 : -(2 ^ n : Int) ≤ i) (h2 : i ≤ 2 ^ n) : Fit (n + 2) k (.str (toString i)) := by
  have dig : ∀ m : Nat, m ≤ 2 ^ n → (Nat.toDigits 10 m).length ≤ n + 1 := fun m hm => by
    refine (Nat.length_toDigits_le_iff (by decide) (by omega)).mpr ?_
    have h1 : 2 ^ n < 10 ^ (n + 1) := by
      have a : 2 ^ n ≤ 10 ^ n := Nat.pow_le_pow_left (by decide) n
      have b : 10 ^ n < 10 ^ (n + 1) := Nat.pow_lt_pow_right (by decide) (by omega)
      omega
    omega
  have asc : ∀ m : Nat, ∀ c ∈ Nat.toDigits 10 m, c.toNat < 128 := fun m c hc => by
    have := Nat.isDigit_of_mem_toDigits (by decide) (by decide) hc
    have hb : c.val ≤ 57 := by
      have h := this
      simp only [Char.isDigit, Bool.and_eq_true, decide_eq_true_eq] at h
      exact h.2
    have : c.val.toNat ≤ 57 := by exact_mod_cast hb
    show c.val.toNat < 128
    omega
  have two : ((2 ^ n : Nat) : Int) = 2 ^ n := by norm_cast
  have key : (toString i : String).toList.length ≤ n + 2 ∧ ∀ c ∈ (toString i : String).toList, c.toNat < 128 := by
    show i.repr.toList.length ≤ n + 2 ∧ ∀ c ∈ i.repr.toList, c.toNat < 128
    rw [Int.repr_eq_if]
    split
    · rw [Nat.toList_repr]
      exact ⟨by have := dig i.toNat (by omega); omega, asc _⟩
    · rw [String.toList_append, Nat.toList_repr]
      refine ⟨by have := dig (-i).toNat (by omega); simp; omega, fun c hc => ?_⟩
      rcases List.mem_append.mp hc with hc | hc
      · have : c = '-' := by simpa using hc
        subst this; decide
      · exact asc _ c hc
  have e : (toString i : Str) = ⟨((toString i : String).toList.map Char.toNat).toArray⟩ := Str.ofString_eq_toList _
  rw [e]
  refine fit_str ?_ fun c hc => ?_
  · show (((toString i : String).toList.map Char.toNat).toArray).size ≤ n + 2
    rw [List.size_toArray, List.length_map]
    exact key.1
  · have hc : c ∈ (toString i : String).toList.map Char.toNat := by simpa using hc
    obtain ⟨d, hd, rfl⟩ := List.mem_map.mp hc
    exact key.2 d hd
end Li

set_option Elab.async false
set_option linter.all false
set_option maxRecDepth 100000
set_option maxHeartbeats 2000000
namespace Li
open PySem PySem.Spec PyProof.Rows L2
variable [Tbl]
theorem cut_to {ds : List D} {k : Nat} : cut ds none (some (k : Int)) = ds.take k := by
  unfold cut
  rw [HT.sIx_none, HT.sIx_nat, List.drop_zero, Nat.sub_zero]
  by_cases h : k ≤ ds.length
  · rw [Nat.min_eq_left h]
  · rw [Nat.min_eq_right (by omega), List.take_of_length_le (Nat.le_refl _), List.take_of_length_le (by omega)]
theorem cut_from {ds : List D} {k : Nat} : cut ds (some (k : Int)) none = ds.drop k := by
  unfold cut
  rw [HT.sIx_none, HT.sIx_nat]
  by_cases h : k ≤ ds.length
  · rw [Nat.min_eq_left h, List.take_of_length_le (by rw [List.length_drop]; omega)]
  · rw [Nat.min_eq_right (by omega), List.drop_eq_nil_of_le (by omega), List.drop_eq_nil_of_le (by omega), List.take_nil]
theorem bent_near {a : Addr} {n k : Nat} {v : D} {μ : MS} {Q : DK} (hf : Fit n k v) (hn : 100 ≤ n) (hn2 : n ≤ 1000) (q : ∀ μ' d, Vats a μ μ' → Fit (n + 2) (k + 2) d → Q d μ') :
    ∀ (N : DPS) μ1, Vats a μ μ1 → t__bent_near { nx := N, rt := Q } [some (.ref a), some v, none, none, none] μ1 := by
  intro N μ1 v1
  refine ⟨a, 1, rfl, by decide, by decide, v1.vat, fun μ2 d1 v2 h1 => ?_⟩
  refine ⟨a, 1, rfl, by decide, by decide, v2.vat, fun μ3 d2 v3 h2 => ?_⟩
  have v13 := (v1.trans v2).trans v3
  have h1 : Fit (n + 2) (k + 2) d1 := h1.mono (by omega) (by omega)
  have h2 : Fit (n + 2) (k + 2) d2 := h2.mono (by omega) (by omega)
  have fin : ∀ xs : List D, (∀ d ∈ xs, Fit (n + 2) (k + 2) d) → xs ≠ [] → xs.length ≤ 1000 → (dRet (dCall sp__law_some (dCons (dVar 0) (dCons (dVar 2) dNil)))) { nx := fun _ _ => False, rt := Q } [some (.ref a), some v, some (.lst xs), none, none] μ3 := fun xs hx h0 hl =>
    ⟨a, xs, rfl, v13.vat, h0, hl, fun μ4 d v4 hd => q μ4 d (v13.trans v4) (hx d hd)⟩
  have two : ∀ d ∈ [d1, d2], Fit (n + 2) (k + 2) d := by simp only [List.mem_cons, List.not_mem_nil, or_false]; rintro d (rfl | rfl) <;> assumption
  have hs : (7 : Nat) ≤ sizeLine := by rw [sizeLine_eq]; decide
  have pw : (2 : Int) ^ (n + 2) = 4 * 2 ^ n := by rw [Int.pow_add]; omega
  have p1 : (1 : Int) ≤ 2 ^ n := by have := two_mono (Nat.zero_le n); simpa using this
  cases v with
  | str x =>
    have hx : Fit (n + 2) (k + 2) (.str x) := hf.mono (by omega) (by omega)
    refine ⟨by have := hf.str.1; rw [sizeLine_eq]; omega, by have := hf.str.1; omega, ?_⟩
    refine ⟨by rw [sizeLine_eq]; simp, fin _ (fun d hd => ?_) (by simp) (by simp)⟩
    rcases List.mem_append.mp hd with hd | hd
    · exact two d hd
    · simp only [List.mem_cons, List.not_mem_nil, or_false] at hd
      rcases hd with rfl | rfl | rfl | rfl | rfl | rfl | rfl
      · exact fit_lit
      · exact fit_lit
      · exact fit_lit
      · exact fit_lit
      · exact cutS_fit hx
      · exact upper_fit hx
      · exact fit_lit
  | int i =>
    have hi := hf.int
    refine ⟨?_, mulOk_l (by decide) (by decide), by rw [sizeLine_eq]; simp, fin _ (fun d hd => ?_) (by simp) (by simp)⟩
    · have : i.natAbs ≤ 2 ^ n := by
        have two : ((2 ^ n : Nat) : Int) = 2 ^ n := by norm_cast
        omega
      have h3 : i.natAbs < 2 ^ 1001 := Nat.lt_of_le_of_lt this (Nat.pow_lt_pow_right (by decide) (by omega))
      by_cases h0 : i.natAbs = 0
      · rw [h0]; decide
      · exact Nat.lt_of_lt_of_le ((Nat.log2_lt h0).mpr h3) (by decide)
    rcases List.mem_append.mp hd with hd | hd
    · exact two d hd
    · simp only [List.mem_cons, List.not_mem_nil, or_false] at hd
      rcases hd with rfl | rfl | rfl | rfl | rfl
      · exact fit_int (by omega) (by omega)
      · exact fit_int (by omega) (by omega)
      · exact fit_bl
      · exact intStr_fit hi.1 hi.2
      · exact fit_int (by omega) (by omega)
  | bl b =>
    refine ⟨by rw [sizeLine_eq]; simp, fin _ (fun d hd => ?_) (by simp) (by simp)⟩
    rcases List.mem_append.mp hd with hd | hd
    · exact two d hd
    · simp only [List.mem_cons, List.not_mem_nil, or_false] at hd
      rcases hd with rfl | rfl | rfl | rfl | rfl
      · cases b <;> exact fit_int (by simp [b2i]; omega) (by simp [b2i]; omega)
      · cases b <;> exact fit_int (by simp [b2i]; omega) (by simp [b2i]; omega)
      · exact fit_bl
      · cases b
        · exact fit_lit (x := "False")
        · exact fit_lit (x := "True")
      · cases b <;> exact fit_int (by simp [b2i]; omega) (by simp [b2i]; omega)
  | non => exact fin _ two (by simp) (by simp)
  | tup ds => exact fin _ two (by simp) (by simp)
  | lst ds => exact fin _ two (by simp) (by simp)
  | _ => exact absurd hf.f (by simp [fit])
theorem bent_parts {a : Addr} {n k K : Nat} {es : List D} {μ : MS} {Q : DK} (hK : (D.tup es).dep < K + 1) (hf : Fit n k (.tup es)) (h0 : es ≠ []) (hn : 100 ≤ n) (hn2 : n ≤ 1000) (hk2 : k ≤ 20) (q : ∀ μ' d, Vats a μ μ' → Fit (n + 2) (k + 2) d → Q d μ') :
    ∀ (N : DPS) μ1, Vats a μ μ1 → t__bent_parts (spK__law_bent K) { nx := N, rt := Q } [some (.ref a), some (.tup es), none, none, none] μ1 := by
  intro N μ1 v1
  obtain ⟨hl, he⟩ := hf.tup
  have hk : 1 ≤ k := by have := hf.d; simp only [D.dep] at this; omega
  have hp : 0 < es.length := List.length_pos_iff.mpr h0
  have hs : sizeLine = 16777216 := sizeLine_eq
  refine ⟨a, es.length, rfl, v1.vat, by omega, by omega, fun μ2 at_ v2 a0 a1 => ?_⟩
  obtain ⟨j, rfl⟩ : ∃ j : Nat, at_ = j := ⟨at_.toNat, by omega⟩
  have hj : j < es.length := by omega
  refine ⟨a, 9, rfl, v2.vat, by decide, by decide, fun μ3 way v3 w0 w1 => ?_⟩
  have v13 := (v1.trans v2).trans v3
  have put : ∀ (xs : List D) μ4, Vats a μ μ4 → xs.length ≤ n + 2 → (∀ d ∈ xs, Fit (n + 2) (k + 1) d) → Q (.tup xs) μ4 := fun xs μ4 v4 h1 h2 => q μ4 _ v4 (fit_tup h1 h2)
  have sub : ∀ d ∈ es, Fit (n + 2) (k + 1) d := fun d hd => (he d hd).mono (by omega) (by omega)
  refine ⟨(dat_int _).eqv (dat_int _), bcase_of (fun _ => ?_) fun _ => ?_⟩
  · show (cut es none (some (j : Int))).length + (cut es (some ((j : Int) + 1)) none).length ≤ sizeLine ∧ Q (.tup (cut es none (some (j : Int)) ++ cut es (some ((j : Int) + 1)) none)) μ3
    rw [show (j : Int) + 1 = ((j + 1 : Nat) : Int) by omega, cut_to, cut_from]
    refine ⟨by rw [List.length_take, List.length_drop]; omega, put _ _ v13 (by rw [List.length_append, List.length_take, List.length_drop]; omega) fun d hd => ?_⟩
    rcases List.mem_append.mp hd with hd | hd
    · exact sub d (List.mem_of_mem_take hd)
    · exact sub d (List.mem_of_mem_drop hd)
  refine ⟨(dat_int _).eqv (dat_int _), bcase_of (fun _ => ?_) fun _ => ?_⟩
  · show (cut es none (some ((j : Int) + 1))).length + (cut es (some (j : Int)) none).length ≤ sizeLine ∧ Q (.tup (cut es none (some ((j : Int) + 1)) ++ cut es (some (j : Int)) none)) μ3
    rw [show (j : Int) + 1 = ((j + 1 : Nat) : Int) by omega, cut_to, cut_from]
    refine ⟨by rw [List.length_take, List.length_drop]; omega, put _ _ v13 (by rw [List.length_append, List.length_take, List.length_drop]; omega) fun d hd => ?_⟩
    rcases List.mem_append.mp hd with hd | hd
    · exact sub d (List.mem_of_mem_take hd)
    · exact sub d (List.mem_of_mem_drop hd)
  refine ⟨(dat_int _).eqv (dat_int _), bcase_of (fun _ => ?_) fun _ => ?_⟩
  · exact put _ _ v13 (by rw [List.length_reverse]; omega) fun d hd => sub d (List.mem_reverse.mp hd)
  refine ⟨(dat_int _).eqv (dat_int _), bcase_of (fun _ => ?_) fun _ => ?_⟩
  · exact q μ3 _ v13 (fit_lst (by omega) sub)
  · refine getK_some (d := es[j]) (atI_nat (List.getElem?_eq_getElem hj)) ?_
    have hm : es[j] ∈ es := List.getElem_mem hj
    refine ⟨a, n, k - 1, es[j], rfl, ?_, he _ hm, hn, hn2, by omega, v13.vat, fun μ4 d v4 hd => ?_⟩
    · have := deps_mem (ds := es) (n := D.deps es) (Nat.le_refl _) _ hm
      simp only [D.dep] at hK
      omega
    · show (cut es none (some (j : Int))).length + 1 ≤ sizeLine ∧ ((cut es none (some (j : Int)) ++ [d]).length + (cut es (some ((j : Int) + 1)) none).length ≤ sizeLine ∧ Q (.tup (cut es none (some (j : Int)) ++ [d] ++ cut es (some ((j : Int) + 1)) none)) μ4)
      rw [show (j : Int) + 1 = ((j + 1 : Nat) : Int) by omega, cut_to, cut_from]
      refine ⟨by rw [List.length_take]; omega, by rw [List.length_append, List.length_take, List.length_drop]; simp; omega, put _ _ (v13.trans v4) (by simp only [List.length_append, List.length_take, List.length_drop, List.length_cons, List.length_nil]; omega) fun e hd2 => ?_⟩
      rcases List.mem_append.mp hd2 with hd2 | hd2
      · rcases List.mem_append.mp hd2 with hd2 | hd2
        · exact sub e (List.mem_of_mem_take hd2)
        · rw [List.mem_singleton.mp hd2]; exact hd.mono (Nat.le_refl _) (by omega)
      · exact sub e (List.mem_of_mem_drop hd2)
theorem pure__law_bent (K : Nat) (ds : List D) (μ : MS) (Q : DK) (Ed : DXK) (h : spK__law_bent (K + 1) ds μ Q Ed) : t__law_bent (spK__law_bent K) Ed { nx := fun _ μ => Q .non μ, rt := Q } (dstart nm__law_bent ds) μ := by
  obtain ⟨a, n, k, v, rfl, hK, hf, hn, hn2, hk2, hv, q⟩ := h
  have near := bent_near hf hn hn2 q
  have dv : Dat v := hf.dat (by omega)
  cases v with
  | tup es =>
    refine ⟨dv.eqv dat_nil, bcase_of (fun h => ?_) fun h => ?_⟩
    · exact near _ μ (Vats.refl hv)
    · have h0 : es ≠ [] := fun z => by subst z; exact absurd h (by decide +kernel)
      refine ⟨a, 7, rfl, hv, by decide, by decide, fun μ1 r v1 _ _ => ⟨(dat_int _).eqv (dat_int _), bcase_of (fun _ => ?_) fun _ => ?_⟩⟩
      · exact near _ μ1 v1
      · exact bent_parts hK hf h0 hn hn2 hk2 q _ μ1 v1
  | non => exact near _ μ (Vats.refl hv)
  | bl b => exact near _ μ (Vats.refl hv)
  | int b => exact near _ μ (Vats.refl hv)
  | str b => exact near _ μ (Vats.refl hv)
  | lst b => exact near _ μ (Vats.refl hv)
  | _ => exact absurd hf.f (by simp [fit])
end Li

set_option Elab.async false
set_option linter.all false
set_option maxRecDepth 100000
set_option maxHeartbeats 1000000
/-! A def as a value, held by a local name, and called. -/
namespace Li
open PySem PySem.Spec PyProof.Rows L2
variable [Tbl]
/-- where the defs stand -/
class Fad where
  adr : Str → Addr
/-- x(..), the local x holding one of some defs -/
def dCallV (i : Nat) (tb : List (Addr × DSp)) (Ed : DXK) (t : DTA) : DTE := fun ρ μ Q => ∃ p ∈ tb, ρ[i]? = some (some (.ref p.1)) ∧ t ρ μ fun ds μ1 => p.2 ds μ1 Q Ed
/-- each is a def that keeps its promise -/
structure FnV (P : Program) (w : World) (K : PySem.W.Frag) (mg : Str → Option Value) (base : Heap) (k : Nat) (f : Addr) (sp : DSp) : Prop where
  ex : ∃ j fd ps, j ≤ k ∧ PySem.W.keepIn K (.ref f) = true ∧ Binds K fd ps [] ∧ DFn P w K mg base j f fd ps sp
theorem FnV.of {P : Program} {w : World} {K : PySem.W.Frag} {mg : Str → Option Value} {base : Heap} {k j : Nat} {f : Addr} {x : Str} {ps : List Str} {sp : DSp} (F : FnX P w K mg base x j ps sp) (g : mg x = some (.ref f)) (h : j ≤ k) : FnV P w K mg base k f sp := by
  obtain ⟨f', fd, h1, h2, h3, h4⟩ := F.ex
  rw [g] at h1
  cases h1
  exact ⟨j, fd, ps, h, h2, h3, h4⟩
section
variable {P : Program} {w : World} {K : PySem.W.Frag} {mg : Str → Option Value} {base : Heap} {k : Nat}
theorem fnv_nil : ∀ q ∈ ([] : List (Addr × DSp)), FnV P w K mg base k q.1 q.2 := fun _ h => nomatch h
theorem fnv_cons {f : Addr} {sp : DSp} {tb : List (Addr × DSp)} (h : FnV P w K mg base k f sp) (t : ∀ q ∈ tb, FnV P w K mg base k q.1 q.2) : ∀ q ∈ (f, sp) :: tb, FnV P w K mg base k q.1 q.2 := fun q hq => by
  rcases List.mem_cons.mp hq with rfl | hq
  · exact h
  · exact t q hq
end
section
variable {X : Cx} {B : Ent} {k n i : Nat} {E : XK} {Ed : DXK} {x : Str} {p pos : Pos} {e : Expr} {es : List Expr} {t : DTA} {tb : List (Addr × DSp)}
theorem de_callV (F : ∀ q ∈ tb, FnV X.prog X.w X.K X.mg X.base k q.1 q.2) (hr : Room k X.A) (hx : Passes (L2N.CX X.prog X.w) X E) (hE : ClE X.K B.F B.μ B.H Ed E)
    (ha : DAn X B (e :: es) n t) (hN : X.N[i]? = some x := by rfl) (hv : Vis X.env.scope x := by first | exact Or.inl rfl | exact Or.inr (Or.inl rfl) | exact Or.inr (Or.inr rfl)) (hdb : (x == ("__debug__" : Str)) = false := by decide) (hcd : (x == ("__classdict__" : Str)) = false := by decide) (he : starEach (e :: es) X.env = (false, eval e X.env) :: starEach es X.env := by rfl) (hpl : (backTo pos (starEach es X.env)).any (·.1) = false := by rfl) :
    DE X B (.Call (.Name x p) (e :: es) [] pos) (dCallV i tb Ed t) := by
  refine ⟨fun pins s σ H Q I ⟨F0, ρ, μ, Qd, sB, ok, rs, ⟨q, hq, hi, ht⟩, cl⟩ => ?_⟩
  obtain ⟨j, fd, ps, hj, hk, hb, G⟩ := (F q hq).ex
  refine (pe_callL (i := i) (f := q.1) (dvs := []) (E := E) G (hr.mono hj) hN hv hk hb .nil hx ha hdb hcd he hpl).run pins s σ H Q I ⟨?_, F0, ρ, μ, _, sB, ok, rs, ht, fun F1 ds μ1 vs H1 s1 ok1 r1 l1 t1 => ?_⟩
  · obtain ⟨v, hv', r⟩ := rs.at_ i _ hi
    rw [rep_ref.mp r] at hv'
    exact hv'
  · show LSp X.K q.2 (vs ++ []) H1 Q E
    rw [List.append_nil]
    exact ⟨F1, μ1, ds, Qd, Ed, ok1, r1, t1, cl.mono s1, hE.mono (Ent.to.trans sB s1)⟩
end
end Li

set_option Elab.async false
set_option linter.all false
set_option maxRecDepth 100000
set_option maxHeartbeats 1000000
/-! Errors in order: what the functions refuse. -/
namespace Li
open PySem PySem.Spec PyProof.Rows L2
variable [Tbl] [cC : Cls] [fA : Fad]
def noD : DSp := fun _ _ _ _ => False
def sp_worth : DSp := noD
def sp_way_of : DSp := noD
/-- no script: refused -/
def bad0 : DSp := fun ds μ Q E => ∃ v, ds = [v] ∧ Dat v ∧ isScript v = false ∧ E (.ref cC.InvalidScript) none μ
def bad1 : DSp := fun ds μ Q E => ∃ v w, ds = [v, w] ∧ Dat v ∧ isScript v = false ∧ E (.ref cC.InvalidScript) none μ
def sp_courses : DSp := bad0
def sp_sure_rings : DSp := bad0
def sp_needless : DSp := bad0
def sp_script_text : DSp := bad0
def sp_case : DSp := bad1
def sp_can_ring : DSp := bad1
def sp_minutes_with : DSp := bad1
def sp_is_possible : DSp := bad1
def bad2s : DSp := fun ds μ Q E => ∃ s t, ds = [s, t] ∧ Dat s ∧ (isScript s = false → E (.ref cC.InvalidScript) none μ) ∧ (isScript s = true → Dat t ∧ isScript t = false ∧ E (.ref cC.InvalidScript) none μ)
def sp_alike : DSp := bad2s
def sp_parting : DSp := bad2s
def badIx : DSp := fun ds μ Q E => ∃ s i, ds = [s, i] ∧ Dat s ∧ (isScript s = false → E (.ref cC.InvalidScript) none μ) ∧ (isScript s = true → i = .int (-1) ∧ E (.ref cC.InvalidIndex) none μ)
def sp_ring_bounds : DSp := badIx
def sp_left_bounds : DSp := badIx
def badMin : DSp := fun ds μ Q E => ∃ s m, ds = [s, m] ∧ Dat s ∧ (isScript s = false → E (.ref cC.InvalidScript) none μ) ∧ (isScript s = true → ∃ es, m = .tup es ∧ es.length = 3 ∧ E (.ref cC.InvalidMinutes) none μ)
def sp_need_state : DSp := badMin
def sp_rings : DSp := badMin
def sp_left : DSp := badMin
def sp_course : DSp := badMin
def sp_state_with : DSp := fun ds μ Q E => ∃ s es, ds = [s, .tup es] ∧ Dat s ∧ isScript s = true ∧ es.length = 3 ∧ Q .non μ
def sp_need_index : DSp := fun ds μ Q E => ∃ i n : Int, ds = [.int i, .int n] ∧ (i < 0 ∨ n ≤ i) ∧ E (.ref cC.InvalidIndex) none μ
def BadFacts (s v : D) : Prop := ∀ fs, v = .tup fs → 6 < fs.length ∨ ∃ f ∈ fs, isFact s f = false
def sp_need_facts : DSp := fun ds μ Q E => ∃ s v, ds = [s, v] ∧ Dat s ∧ isScript s = true ∧ Dat v ∧ ((BadFacts s v ∧ E (.ref cC.InvalidFacts) none μ) ∨ (v = .tup [] ∧ Q .non μ))
def sp_fits : DSp := fun ds μ Q E => ∃ s v, ds = [s, v] ∧ Dat s ∧ (isScript s = false → E (.ref cC.InvalidScript) none μ) ∧ (isScript s = true → Dat v ∧ BadFacts s v ∧ E (.ref cC.InvalidFacts) none μ)
def sp_spot_bounds : DSp := fun ds μ Q E => ∃ s i f, ds = [s, i, f] ∧ Dat s ∧ (isScript s = false → E (.ref cC.InvalidScript) none μ) ∧ (isScript s = true → i = .int 2 ∧ E (.ref cC.InvalidIndex) none μ)
def sp_surely : DSp := fun ds μ Q E => ∃ s v f, ds = [s, v, f] ∧ Dat s ∧ (isScript s = false → E (.ref cC.InvalidScript) none μ) ∧ (isScript s = true → Dat v ∧ ((BadFacts s v ∧ E (.ref cC.InvalidFacts) none μ) ∨ (v = .tup [] ∧ Dat f ∧ isFact s f = false ∧ E (.ref cC.InvalidFacts) none μ)))
abbrev nm_courses : List Str := ["script", "state"]
abbrev ps_courses : List Str := ["script"]
def t_courses (Ed : DXK) : DTS := (dSeq (dDrop (dCallX sp_need_script Ed (dCons (dVar 0) dNil))) dNever)
abbrev nm_sure_rings : List Str := ["script"]
abbrev ps_sure_rings : List Str := ["script"]
def t_sure_rings (Ed : DXK) : DTS := (dSeq (dDrop (dCallX sp_need_script Ed (dCons (dVar 0) dNil))) dNever)
abbrev nm_needless : List Str := ["script", "fuses", "steps", "found", "at", "other"]
abbrev ps_needless : List Str := ["script"]
def t_needless (Ed : DXK) : DTS := (dSeq (dDrop (dCallX sp_need_script Ed (dCons (dVar 0) dNil))) dNever)
abbrev nm_script_text : List Str := ["script"]
abbrev ps_script_text : List Str := ["script"]
def t_script_text (Ed : DXK) : DTS := (dSeq (dDrop (dCallX sp_need_script Ed (dCons (dVar 0) dNil))) dNever)
abbrev nm_case : List Str := ["script", "way", "state"]
abbrev ps_case : List Str := ["script", "way"]
def t_case (Ed : DXK) : DTS := (dSeq (dDrop (dCallX sp_need_script Ed (dCons (dVar 0) dNil))) dNever)
abbrev nm_can_ring : List Str := ["script", "times"]
abbrev ps_can_ring : List Str := ["script", "times"]
def t_can_ring (Ed : DXK) : DTS := (dSeq (dDrop (dCallX sp_need_script Ed (dCons (dVar 0) dNil))) dNever)
abbrev nm_minutes_with : List Str := ["script", "times"]
abbrev ps_minutes_with : List Str := ["script", "times"]
def t_minutes_with (Ed : DXK) : DTS := (dSeq (dDrop (dCallX sp_need_script Ed (dCons (dVar 0) dNil))) dNever)
abbrev nm_is_possible : List Str := ["script", "value"]
abbrev ps_is_possible : List Str := ["script", "value"]
def t_is_possible (Ed : DXK) : DTS := (dSeq (dDrop (dCallX sp_need_script Ed (dCons (dVar 0) dNil))) dNever)
abbrev nm_alike : List Str := ["one", "other"]
abbrev ps_alike : List Str := ["one", "other"]
def t_alike (Ed : DXK) : DTS := (dSeq (dDrop (dCallX sp_need_script Ed (dCons (dVar 0) dNil))) (dSeq (dDrop (dCallX sp_need_script Ed (dCons (dVar 1) dNil))) dNever))
abbrev nm_parting : List Str := ["one", "other"]
abbrev ps_parting : List Str := ["one", "other"]
def t_parting (Ed : DXK) : DTS := (dSeq (dDrop (dCallX sp_need_script Ed (dCons (dVar 0) dNil))) (dSeq (dDrop (dCallX sp_need_script Ed (dCons (dVar 1) dNil))) dNever))
abbrev nm_need_index : List Str := ["index", "many"]
abbrev ps_need_index : List Str := ["index", "many"]
def t_need_index (Ed : DXK) : DTS := (dIfS (dNot (dTest (dCall sp_is_whole (dCons (dVar 0) (dCons (dC (.int 0)) (dCons (dBin kSub (dVar 1) (dC (.int 1))) dNil)))))) (dRaise cC.InvalidIndex Ed) dNext)
abbrev nm_ring_bounds : List Str := ["script", "index", "states", "state"]
abbrev ps_ring_bounds : List Str := ["script", "index"]
def t_ring_bounds (Ed : DXK) : DTS := (dSeq (dDrop (dCallX sp_need_script Ed (dCons (dVar 0) dNil))) (dSeq (dDrop (dCallX sp_need_index Ed (dCons (dVar 1) (dCons (dCall sp_rings_of (dCons (dVar 0) dNil)) dNil)))) dNever))
abbrev nm_left_bounds : List Str := ["script", "piece", "states", "state"]
abbrev ps_left_bounds : List Str := ["script", "piece"]
def t_left_bounds (Ed : DXK) : DTS := (dSeq (dDrop (dCallX sp_need_script Ed (dCons (dVar 0) dNil))) (dSeq (dDrop (dCallX sp_need_index Ed (dCons (dVar 1) (dCons (dCall sp_pieces_of (dCons (dVar 0) dNil)) dNil)))) dNever))
abbrev nm_state_with : List Str := ["script", "minutes", "one", "some", "state"]
abbrev ps_state_with : List Str := ["script", "minutes"]
def t_state_with (Ed : DXK) : DTS := (dSeq (dIfS (dOr (dNot (dTest (dCB kIsi (dCons (dVar 1) (dCons (dC (.ty "tuple")) dNil))))) (dTest (dBin kNe (dCB kLen (dCons (dVar 1) dNil)) (dCall sp_spots_of (dCons (dBin kIx (dVar 0) (dC (.int 1))) dNil))))) (dRet (dC .non)) dNext) dNever)
abbrev nm_need_state : List Str := ["script", "minutes", "state"]
abbrev ps_need_state : List Str := ["script", "minutes"]
def t_need_state (Ed : DXK) : DTS := (dSeq (dDrop (dCallX sp_need_script Ed (dCons (dVar 0) dNil))) (dSeq (dAsg (dCall sp_state_with (dCons (dVar 0) (dCons (dVar 1) dNil))) (dName 2)) (dSeq (dIfS (dTest (dBin kIs (dVar 2) (dC .non))) (dRaise cC.InvalidMinutes Ed) dNext) dNever)))
abbrev nm_rings : List Str := ["script", "minutes", "time"]
abbrev ps_rings : List Str := ["script", "minutes"]
def t_rings (Ed : DXK) : DTS := (dRet (dLc (dSeqI (dBin kIx (dCallX sp_need_state Ed (dCons (dVar 0) (dCons (dVar 1) dNil))) (dC (.int 3)))) (dName 2) dYes (dCall sp_worth (dCons (dVar 2) (dCons (dVar 1) dNil))) [2]))
abbrev nm_left : List Str := ["script", "minutes", "piece"]
abbrev ps_left : List Str := ["script", "minutes"]
def t_left (Ed : DXK) : DTS := (dRet (dLc (dSeqI (dBin kIx (dCallX sp_need_state Ed (dCons (dVar 0) (dCons (dVar 1) dNil))) (dC (.int 1)))) (dName 2) dYes (dCall sp_worth (dCons (dBin kIx (dVar 2) (dC (.int 0))) (dCons (dVar 1) dNil))) [2]))
abbrev nm_course : List Str := ["script", "minutes"]
abbrev ps_course : List Str := ["script", "minutes"]
def t_course (Ed : DXK) : DTS := (dRet (dCall sp_way_of (dCons (dCallX sp_need_state Ed (dCons (dVar 0) (dCons (dVar 1) dNil))) dNil)))
abbrev nm_need_facts : List Str := ["script", "facts", "fact"]
abbrev ps_need_facts : List Str := ["script", "facts"]
def t_need_facts (Ed : DXK) : DTS := (dSeq (dIfS (dOr (dNot (dTest (dCB kIsi (dCons (dVar 1) (dCons (dC (.ty "tuple")) dNil))))) (dTest (dBin kGt (dCB kLen (dCons (dVar 1) dNil)) (dC (.int 6))))) (dRaise cC.InvalidFacts Ed) dNext) (dIfS (dTest (dBin kNe (dLc (dSeqI (dVar 1)) (dName 2) (dNot (dTest (dCall sp_good_fact (dCons (dVar 0) (dCons (dVar 2) dNil))))) (dVar 2) [2]) (dLst dNil))) (dRaise cC.InvalidFacts Ed) dNext))
abbrev nm_fits : List Str := ["script", "facts", "found"]
abbrev ps_fits : List Str := ["script", "facts"]
def t_fits (Ed : DXK) : DTS := (dSeq (dDrop (dCallX sp_need_script Ed (dCons (dVar 0) dNil))) (dSeq (dDrop (dCallX sp_need_facts Ed (dCons (dVar 0) (dCons (dVar 1) dNil)))) dNever))
abbrev nm_spot_bounds : List Str := ["script", "index", "facts", "found", "conditions"]
abbrev ps_spot_bounds : List Str := ["script", "index", "facts"]
def t_spot_bounds (Ed : DXK) : DTS := (dSeq (dDrop (dCallX sp_need_script Ed (dCons (dVar 0) dNil))) (dSeq (dDrop (dCallX sp_need_index Ed (dCons (dVar 1) (dCons (dCall sp_spots_of (dCons (dBin kIx (dVar 0) (dC (.int 1))) dNil)) dNil)))) dNever))
abbrev nm_surely : List Str := ["script", "facts", "fact", "good", "bad", "word"]
abbrev ps_surely : List Str := ["script", "facts", "fact"]
def t_surely (Ed : DXK) : DTS := (dSeq (dDrop (dCallX sp_need_script Ed (dCons (dVar 0) dNil))) (dSeq (dDrop (dCallX sp_need_facts Ed (dCons (dVar 0) (dCons (dVar 1) dNil)))) (dSeq (dIfS (dNot (dTest (dCall sp_good_fact (dCons (dVar 0) (dCons (dVar 2) dNil))))) (dRaise cC.InvalidFacts Ed) dNext) dNever)))
section
variable (ds : List D) (μ : MS) (Q : DK) (Ed : DXK)
theorem need_bad {v : D} {K : DK} (hv : Dat v) (h : isScript v = false) (q : Ed (.ref cC.InvalidScript) none μ) : sp_need_script [v] μ K Ed := ⟨v, rfl, hv, fun z => (by rw [h] at z; cases z), fun _ => q⟩
theorem pure_courses (h : sp_courses ds μ Q Ed) : t_courses Ed { nx := fun _ μ => Q .non μ, rt := Q } (dstart nm_courses ds) μ := by
  obtain ⟨v, rfl, hv, h, q⟩ := h
  exact ⟨v, rfl, hv, fun z => (by rw [h] at z; cases z), fun _ => q⟩
theorem pure_sure_rings (h : sp_sure_rings ds μ Q Ed) : t_sure_rings Ed { nx := fun _ μ => Q .non μ, rt := Q } (dstart nm_sure_rings ds) μ := by
  obtain ⟨v, rfl, hv, h, q⟩ := h
  exact ⟨v, rfl, hv, fun z => (by rw [h] at z; cases z), fun _ => q⟩
theorem pure_needless (h : sp_needless ds μ Q Ed) : t_needless Ed { nx := fun _ μ => Q .non μ, rt := Q } (dstart nm_needless ds) μ := by
  obtain ⟨v, rfl, hv, h, q⟩ := h
  exact ⟨v, rfl, hv, fun z => (by rw [h] at z; cases z), fun _ => q⟩
theorem pure_script_text (h : sp_script_text ds μ Q Ed) : t_script_text Ed { nx := fun _ μ => Q .non μ, rt := Q } (dstart nm_script_text ds) μ := by
  obtain ⟨v, rfl, hv, h, q⟩ := h
  exact ⟨v, rfl, hv, fun z => (by rw [h] at z; cases z), fun _ => q⟩
theorem pure_case (h : sp_case ds μ Q Ed) : t_case Ed { nx := fun _ μ => Q .non μ, rt := Q } (dstart nm_case ds) μ := by
  obtain ⟨v, w, rfl, hv, h, q⟩ := h
  exact ⟨v, rfl, hv, fun z => (by rw [h] at z; cases z), fun _ => q⟩
theorem pure_can_ring (h : sp_can_ring ds μ Q Ed) : t_can_ring Ed { nx := fun _ μ => Q .non μ, rt := Q } (dstart nm_can_ring ds) μ := by
  obtain ⟨v, w, rfl, hv, h, q⟩ := h
  exact ⟨v, rfl, hv, fun z => (by rw [h] at z; cases z), fun _ => q⟩
theorem pure_minutes_with (h : sp_minutes_with ds μ Q Ed) : t_minutes_with Ed { nx := fun _ μ => Q .non μ, rt := Q } (dstart nm_minutes_with ds) μ := by
  obtain ⟨v, w, rfl, hv, h, q⟩ := h
  exact ⟨v, rfl, hv, fun z => (by rw [h] at z; cases z), fun _ => q⟩
theorem pure_is_possible (h : sp_is_possible ds μ Q Ed) : t_is_possible Ed { nx := fun _ μ => Q .non μ, rt := Q } (dstart nm_is_possible ds) μ := by
  obtain ⟨v, w, rfl, hv, h, q⟩ := h
  exact ⟨v, rfl, hv, fun z => (by rw [h] at z; cases z), fun _ => q⟩
theorem pure_alike (h : sp_alike ds μ Q Ed) : t_alike Ed { nx := fun _ μ => Q .non μ, rt := Q } (dstart nm_alike ds) μ := by
  obtain ⟨s, t, rfl, hs, q1, q2⟩ := h
  refine ⟨s, rfl, hs, fun z => ?_, q1⟩
  obtain ⟨ht, h, q⟩ := q2 z
  exact ⟨t, rfl, ht, fun z => (by rw [h] at z; cases z), fun _ => q⟩
theorem pure_parting (h : sp_parting ds μ Q Ed) : t_parting Ed { nx := fun _ μ => Q .non μ, rt := Q } (dstart nm_parting ds) μ := by
  obtain ⟨s, t, rfl, hs, q1, q2⟩ := h
  refine ⟨s, rfl, hs, fun z => ?_, q1⟩
  obtain ⟨ht, h, q⟩ := q2 z
  exact ⟨t, rfl, ht, fun z => (by rw [h] at z; cases z), fun _ => q⟩
theorem isWhole_no {i lo hi : Int} (h : i < lo ∨ hi < i) : isWhole (.int i) lo hi = false := by
  show (decide (lo ≤ i) && decide (i ≤ hi)) = false
  rcases h with h | h
  · rw [decide_eq_false (by omega : ¬ lo ≤ i)]; rfl
  · rw [decide_eq_false (by omega : ¬ i ≤ hi), Bool.and_false]
theorem pure_need_index (h : sp_need_index ds μ Q Ed) : t_need_index Ed { nx := fun _ μ => Q .non μ, rt := Q } (dstart nm_need_index ds) μ := by
  obtain ⟨i, n, rfl, h, q⟩ := h
  refine ⟨.int i, 0, n - 1, rfl, dat_int _, bcase_t ?_ q⟩
  rw [isWhole_no (by omega)]; rfl
theorem pure_ring_bounds (h : sp_ring_bounds ds μ Q Ed) : t_ring_bounds Ed { nx := fun _ μ => Q .non μ, rt := Q } (dstart nm_ring_bounds ds) μ := by
  obtain ⟨s, i, rfl, hs, q1, q2⟩ := h
  refine ⟨s, rfl, hs, fun z => ?_, q1⟩
  obtain ⟨rfl, q⟩ := q2 z
  exact ⟨s, rfl, hs, z, -1, _, rfl, .inl (by decide), q⟩
theorem pure_left_bounds (h : sp_left_bounds ds μ Q Ed) : t_left_bounds Ed { nx := fun _ μ => Q .non μ, rt := Q } (dstart nm_left_bounds ds) μ := by
  obtain ⟨s, i, rfl, hs, q1, q2⟩ := h
  refine ⟨s, rfl, hs, fun z => ?_, q1⟩
  obtain ⟨rfl, q⟩ := q2 z
  exact ⟨s, rfl, hs, z, -1, _, rfl, .inl (by decide), q⟩
end
end Li

set_option Elab.async false
set_option linter.all false
set_option maxRecDepth 100000
set_option maxHeartbeats 1000000
/-! Errors in order: minutes, facts. -/
namespace Li
open PySem PySem.Spec PyProof.Rows L2
variable [Tbl] [cC : Cls] [fA : Fad]
section
variable (ds : List D) (μ : MS) (Q : DK) (Ed : DXK)
theorem pure_state_with (h : sp_state_with ds μ Q Ed) : t_state_with Ed { nx := fun _ μ => Q .non μ, rt := Q } (dstart nm_state_with ds) μ := by
  obtain ⟨s, es, rfl, hs, hi, hl, q⟩ := h
  obtain ⟨fs, ss, rfl, h1, h2, h3, h4⟩ := script_parts hi
  have hd : ∀ d ∈ ss, Headed d := heads_of h3 fun d hd => (hs.mem (.tup ss) (by simp)).mem d hd
  refine ⟨ss, rfl, hd, Dat.eqv (dat_int _) (dat_int _), bcase_t ?_ q⟩
  show (!deq (.int (es.length : Nat)) (.int (countD "spot" ss : Nat))) = true
  simp only [deq]
  simp
  omega
theorem need_min {s m : D} {K : DK} (h : badMin [s, m] μ Q Ed) : sp_need_state [s, m] μ K Ed := by
  obtain ⟨s', m', e, hs, q1, q2⟩ := h
  cases e
  exact ⟨s, m, rfl, hs, q1, q2⟩
theorem pure_need_state (h : sp_need_state ds μ Q Ed) : t_need_state Ed { nx := fun _ μ => Q .non μ, rt := Q } (dstart nm_need_state ds) μ := by
  obtain ⟨s, m, rfl, hs, q1, q2⟩ := h
  refine ⟨s, rfl, hs, fun z => ?_, q1⟩
  obtain ⟨es, rfl, hl, q⟩ := q2 z
  exact ⟨s, es, rfl, hs, z, hl, q⟩
theorem pure_rings (h : sp_rings ds μ Q Ed) : t_rings Ed { nx := fun _ μ => Q .non μ, rt := Q } (dstart nm_rings ds) μ := by
  obtain ⟨s, m, rfl, hs, q1, q2⟩ := h
  exact ⟨s, m, rfl, hs, q1, q2⟩
theorem pure_left (h : sp_left ds μ Q Ed) : t_left Ed { nx := fun _ μ => Q .non μ, rt := Q } (dstart nm_left ds) μ := by
  obtain ⟨s, m, rfl, hs, q1, q2⟩ := h
  exact ⟨s, m, rfl, hs, q1, q2⟩
theorem pure_course (h : sp_course ds μ Q Ed) : t_course Ed { nx := fun _ μ => Q .non μ, rt := Q } (dstart nm_course ds) μ := by
  obtain ⟨s, m, rfl, hs, q1, q2⟩ := h
  exact ⟨s, m, rfl, hs, q1, q2⟩
theorem pure_need_facts (h : sp_need_facts ds μ Q Ed) : t_need_facts Ed { nx := fun _ μ => Q .non μ, rt := Q } (dstart nm_need_facts ds) μ := by
  obtain ⟨s, v, rfl, hs, hi, hv, h⟩ := h
  have bad : (∀ es, v ≠ .tup es) → Ed (.ref cC.InvalidFacts) none μ := fun hn => by
    rcases h with ⟨_, q⟩ | ⟨e, _⟩
    · exact q
    · exact absurd e (hn _)
  cases v with
  | tup es =>
    have lc : ¬ (6 : Int) < (es.length : Nat) → lcL (dName 2) (dNot (dTest (dCall sp_good_fact (dCons (dVar 0) (dCons (dVar 2) dNil))))) (dVar 2) [some s, some (.tup es), none] es μ fun r μ2 => okEq (.lst r) (.lst []) ∧ bcase (!deq (.lst r) (.lst [])) (Ed (.ref cC.InvalidFacts) none μ2) (Q .non μ2) := by
      intro h6
      refine lcL_filter (fun d => !isFact s d) es _ (fun d hd A Z a z => ⟨s, d, rfl, hs, hi, hv.mem d hd, bcase_of a z⟩) ?_
      refine ⟨Dat.list fun d hd => hv.mem d (List.mem_filter.mp hd).1, ?_⟩
      rw [deq_filter]
      rcases h with ⟨hb, q⟩ | ⟨e, q⟩
      · refine bcase_of (fun _ => q) fun h => ?_
        have h : es.all (isFact s) = true := by simpa using h
        rcases hb es rfl with hb | ⟨f, hf, hb⟩
        · omega
        · rw [List.all_eq_true.mp h f hf] at hb; cases hb
      · cases e
        exact bcase_f rfl q
    refine bcase_of (fun h6 => ?_) fun h6 => ?_
    · have h6 : (6 : Int) < (es.length : Nat) := of_decide_eq_true h6
      rcases h with ⟨hb, q⟩ | ⟨e, q⟩
      · exact q
      · cases e
        simp at h6
    · exact lc (of_decide_eq_false h6)
  | non => exact bad fun _ z => by cases z
  | bl b => exact bad fun _ z => by cases z
  | str b => exact bad fun _ z => by cases z
  | int b => exact bad fun _ z => by cases z
  | lst b => exact bad fun _ z => by cases z
  | _ => exact absurd hv.1 (by simp [D.lay])
theorem pure_fits (h : sp_fits ds μ Q Ed) : t_fits Ed { nx := fun _ μ => Q .non μ, rt := Q } (dstart nm_fits ds) μ := by
  obtain ⟨s, v, rfl, hs, q1, q2⟩ := h
  refine ⟨s, rfl, hs, fun z => ?_, q1⟩
  obtain ⟨hv, hb, q⟩ := q2 z
  exact ⟨s, v, rfl, hs, z, hv, .inl ⟨hb, q⟩⟩
theorem pure_spot_bounds (h : sp_spot_bounds ds μ Q Ed) : t_spot_bounds Ed { nx := fun _ μ => Q .non μ, rt := Q } (dstart nm_spot_bounds ds) μ := by
  obtain ⟨s, i, f, rfl, hs, q1, q2⟩ := h
  refine ⟨s, rfl, hs, fun z => ?_, q1⟩
  obtain ⟨rfl, q⟩ := q2 z
  obtain ⟨fs, ss, rfl, h1, h2, h3, h4⟩ := script_parts z
  have hd : ∀ d ∈ ss, Headed d := heads_of h3 fun d hd => (hs.mem (.tup ss) (by simp)).mem d hd
  exact ⟨ss, rfl, hd, 2, _, rfl, .inr (by omega), q⟩
theorem pure_surely (h : sp_surely ds μ Q Ed) : t_surely Ed { nx := fun _ μ => Q .non μ, rt := Q } (dstart nm_surely ds) μ := by
  obtain ⟨s, v, f, rfl, hs, q1, q2⟩ := h
  refine ⟨s, rfl, hs, fun z => ?_, q1⟩
  obtain ⟨hv, h⟩ := q2 z
  rcases h with ⟨hb, q⟩ | ⟨rfl, hf, hn, q⟩
  · exact ⟨s, v, rfl, hs, z, hv, .inl ⟨hb, q⟩⟩
  · refine ⟨s, _, rfl, hs, z, hv, .inr ⟨rfl, ?_⟩⟩
    refine ⟨s, f, rfl, hs, z, hf, ?_⟩
    rw [hn]
    exact q
end
end Li

set_option Elab.async false
set_option linter.all false
set_option maxRecDepth 100000
set_option maxHeartbeats 1000000
/-! A dict whose keys are nested tuples, all values True: {}, d[key] = True, list(d). -/
namespace Li
open PySem PySem.Spec PyProof.Rows L2

/-! ### data as keys -/
mutual
def nk : D → NestedKey
  | .non => .none
  | .bl b => .num (if b = true then 1 else 0)
  | .int i => .num i
  | .str x => .text x
  | .tup ds => .tup (nks ds)
  | .lst _ => .none
  | .ref _ => .none
  | .ty _ => .none
  | .scr _ => .none
def nks : List D → List NestedKey
  | [] => []
  | d :: ds => nk d :: nks ds
end
mutual
/-- may be a part of a key -/
def kyb : D → Bool
  | .non => true
  | .bl _ => true
  | .int _ => true
  | .str _ => true
  | .tup ds => kybs ds
  | .lst _ => false
  | .ref _ => false
  | .ty _ => false
  | .scr _ => false
def kybs : List D → Bool
  | [] => true
  | d :: ds => kyb d && kybs ds
end
section
variable {X : Cx} {pins : List (Addr × Obj)} {σ : L2.St} {H F : Hp} {s : Shared}
mutual
theorem nested_is (I : Inv X pins σ H s) (e : Same F H) : ∀ (d : D) (v : V) (u : Value), kyb d = true → Rep X.K F d v → RelV v u → NestedIs s.heap (nk d) u
  | .non, v, u, _, r, ru => by
    obtain rfl := rep_non.mp r
    cases ru
    simp only [nk]; exact .none
  | .bl b, v, u, _, r, ru => by
    obtain rfl := rep_bl.mp r
    cases ru
    simp only [nk]; exact .bool rfl
  | .int i, v, u, _, r, ru => by
    obtain rfl := rep_int.mp r
    obtain ⟨t, rfl⟩ := (show ∃ t, u = Value.int i t from ru)
    simp only [nk]; exact .int i t
  | .str x, v, u, _, r, ru => by
    obtain rfl := rep_str.mp r
    obtain ⟨t, rfl⟩ := (show ∃ t, u = Value.str x t from ru)
    simp only [nk]; exact .text x t
  | .tup ds, v, u, k, r, ru => by
    obtain ⟨a, vs, rfl, h1, h2⟩ := rep_tup.mp r
    obtain rfl : u = Value.ref a := ru
    obtain ⟨its, rv, ⟨o, ho, hc, n, hd⟩, _⟩ := I.tuple (same_sqT e h1)
    simp only [nk]
    exact .tup ho hc hd (nested_all I e ds vs its (by simpa only [kyb] using k) h2 rv)
  | .lst _, _, _, k, _, _ => by simp [kyb] at k
  | .ref _, _, _, k, _, _ => by simp [kyb] at k
  | .ty _, _, _, k, _, _ => by simp [kyb] at k
  | .scr _, _, _, k, _, _ => by simp [kyb] at k
theorem nested_all (I : Inv X pins σ H s) (e : Same F H) : ∀ (ds : List D) (vs : List V) (us : List Value), kybs ds = true → Reps X.K F ds vs → Vals vs us → NestedAll s.heap (nks ds) us
  | [], vs, us, _, r, ru => by
    obtain rfl := reps_nil.mp r
    cases ru
    simp only [nks]; exact .nil
  | d :: ds, vs, us, k, r, ru => by
    obtain ⟨v, q, rfl, r1, r2⟩ := reps_cons.mp r
    cases ru with
    | cons h t =>
      have k' : kyb d = true ∧ kybs ds = true := by simpa [kybs] using k
      simp only [nks]
      exact .cons (nested_is I e d v _ k'.1 r1 h) (nested_all I e ds q _ k'.2 r2 t)
end
end

/-! ### the object -/
def ndPut (xs : List (NestedKey × Addr)) (k : NestedKey) (b : Addr) : List (NestedKey × Addr) := if k ∈ xs.map (·.1) then xs else xs ++ [(k, b)]
def ndAt (w : World) (a : Addr) (xs : List (NestedKey × Addr)) (h : Heap) : Prop := ∃ o es ep, h.get? a = some o ∧ o.ExactDict ∧ o.data = .dict es ep ∧
  es.toList = xs.map (fun x => (⟨x.1.hash w, .ref x.2, .bool true⟩ : DictEntry)) ∧ xs.length ≤ sizeLine ∧ (a == sysModules) = false ∧ (xs.map (·.1)).Nodup
def ndO (w : World) (a : Addr) (xs : List (NestedKey × Addr)) : HO := .ext (ndAt w a xs)
def xs3 (xs : List (NestedKey × Addr)) : List (NestedKey × Addr × Value) := xs.map fun x => (x.1, x.2, .bool true)
theorem xs3_keys (xs : List (NestedKey × Addr)) : (xs3 xs).map (·.1) = xs.map (·.1) := by
  unfold xs3; rw [List.map_map]; rfl
theorem xs3_put (xs : List (NestedKey × Addr)) (k : NestedKey) (b : Addr) : storedH (xs3 xs) k b (.bool true) = xs3 (ndPut xs k b) := by
  unfold storedH ndPut
  have hat : (atKey (xs3 xs) k).isSome = decide (k ∈ xs.map (·.1)) := by
    unfold atKey xs3
    induction xs with
    | nil => rfl
    | cons x xs ih =>
      simp only [List.map_cons, List.find?_cons]
      by_cases hx : x.1 = k
      · subst hx; simp
      · rw [decide_eq_false hx]
        simp only [ih, List.mem_cons]
        by_cases hm : k ∈ xs.map (·.1)
        · simp [hm]
        · simp [hm, Ne.symm hx]
  rw [hat]
  by_cases hm : k ∈ xs.map (·.1)
  · rw [if_pos (decide_eq_true hm), if_pos hm]
    unfold xs3
    rw [List.map_map]
    refine List.map_congr_left fun x _ => ?_
    simp only [Function.comp, putAt]
    split <;> rfl
  · rw [if_neg (by simpa using hm), if_neg hm]
    unfold xs3
    rw [List.map_append]; rfl
theorem ndO_ok {P : Program} {w : World} {H : Hp} {h : Heap} {a : Addr} {xs : List (NestedKey × Addr)} (x : ndAt w a xs h) : ObjOk P w H h a (ndO w a xs) := by
  refine ⟨x, ?_, fun h1 h2 ⟨o, es, ep, e, r⟩ k => ⟨o, es, ep, k o e, r⟩⟩
  obtain ⟨o, es, ep, e, _⟩ := x
  exact ⟨o, e⟩
theorem ndO_at {P : Program} {w : World} {H : Hp} {h : Heap} {a : Addr} {xs : List (NestedKey × Addr)} (x : ObjOk P w H h a (ndO w a xs)) : ndAt w a xs h := x.1
theorem ndAt_of {P : Program} {w : World} {h : Heap} {a : Addr} {xs : List (NestedKey × Addr)} (x : ndAt w a xs h) (hk : ∀ x ∈ xs, (nestedKind P w).is h x.1 x.2) : h.DictOfH (nestedKind P w) a (xs3 xs) := by
  obtain ⟨o, es, ep, e, h1, h2, h3, _, _, h4⟩ := x
  refine ⟨o, es, ep, e, h1, h2, ?_, fun y hy => ?_, by rw [xs3_keys]; exact h4⟩
  · rw [h3]; unfold xs3; rw [List.map_map]; rfl
  · unfold xs3 at hy
    obtain ⟨z, hz, rfl⟩ := List.mem_map.mp hy
    exact hk z hz
theorem of_ndAt {P : Program} {w : World} {h : Heap} {a : Addr} {xs : List (NestedKey × Addr)} (x : h.DictOfH (nestedKind P w) a (xs3 xs)) (hl : xs.length ≤ sizeLine) (hs : (a == sysModules) = false) : ndAt w a xs h := by
  obtain ⟨o, es, ep, e, h1, h2, h3, _, h4⟩ := x
  refine ⟨o, es, ep, e, h1, h2, ?_, hl, hs, by rw [xs3_keys] at h4; exact h4⟩
  rw [h3]; unfold xs3; rw [List.map_map]; rfl
/-- no code object -/
theorem ndO_code {w : World} {a : Addr} {xs : List (NestedKey × Addr)} {c : Addr} {q : Str} : ndO w a xs ≠ LamX.CodeO c q := fun z => by
  unfold ndO LamX.CodeO at z
  have e := HO.ext.inj z
  let ob : Obj := { cls := .none, data := .fields #[.none, .str q 0] }
  let h : Heap := { objs := Array.replicate (a + c + 1) ob }
  have get : ∀ b, b ≤ a + c → h.get? b = some ob := fun b hb => by
    unfold Heap.get?
    have : h.objs[b]? = some ob := by
      show (Array.replicate (a + c + 1) ob)[b]? = some ob
      rw [Array.getElem?_replicate, if_pos (Nat.lt_succ_of_le hb)]
    rw [this]
  have h2 : ∃ (oc : Obj) (vs : Array Value) (t : Tok), h.get? c = some oc ∧ oc.data = .fields vs ∧ vs[1]? = some (.str q t) := ⟨ob, _, 0, get c (Nat.le_add_left c a), rfl, rfl⟩
  have h1 : ndAt w a xs h := by rw [congrFun e h]; exact h2
  obtain ⟨o, es, ep, e1, _, e2, _⟩ := h1
  rw [get a (Nat.le_add_right a c)] at e1
  cases e1
  cases e2

/-! ### rules -/
section
variable {X : Cx} {pos pos' : Pos} {o i value : Expr} {td ty tv : TE}
def tNdNew (w : World) : TE := fun _ H Q => ∀ p, H p = none → Q (.ref p) (upd H p (ndO w p []))
theorem pe_ndNew : PE X (.Dict [] [] pos) (tNdNew X.w) := ⟨fun pins s σ H Q I h => by
  refine wpAny_Dict_empty ⟨.ref s.heap.objs.size, upd H s.heap.objs.size (ndO X.w s.heap.objs.size []), ?_, rfl, h _ (I.hok.fresh (Nat.le_refl _))⟩
  refine I.laid (t' := s.toks) (fun b u q => Heap.get?_push_of_some _ q) (Nat.le_refl _) (ndO_ok ?_)
  exact ⟨_, #[], 0, Heap.get?_push_size _ rfl, ⟨rfl, rfl, rfl⟩, rfl, rfl, Nat.zero_le _, beq_eq_false_iff_ne.mpr (Ne.symm (Nat.ne_of_lt I.big)), List.nodup_nil⟩⟩
/-- in every heap that is told so, the object at b is the key k -/
def KeyH (X : Cx) (H : Hp) (k : NestedKey) (b : Addr) : Prop := ∀ (pins : List (Addr × Obj)) (σ : L2.St) (s : Shared), Inv X pins σ H s → (nestedKind X.prog X.w).is s.heap k b
def sNdPut (X : Cx) (td ty tv : TE) : TS := fun D σ H => tv σ H fun v H1 => td σ H1 fun x H2 => ty σ H2 fun y H3 => ∃ a b k xs, v = .bl true ∧ x = .ref a ∧ y = .ref b ∧ H3 a = some (ndO X.w a xs) ∧ xs.length < sizeLine ∧
  KeyH X H3 k b ∧ (∀ z ∈ xs, KeyH X H3 z.1 z.2) ∧ D.nx σ (upd H3 a (ndO X.w a (ndPut xs k b)))
theorem length_ndPut (xs : List (NestedKey × Addr)) (k : NestedKey) (b : Addr) : (ndPut xs k b).length ≤ xs.length + 1 := by
  unfold ndPut; split <;> simp
theorem ps_ndPut (hu : X.A.units + 9 < cLine) (ho : PE X o td) (hi : PE X i ty) (hv : PE X value tv) (hs : swapsWith value (some (.Subscript o i pos')) pos.line X.env = pure false) :
    PS X (.Assign [.Subscript o i pos'] value pos) (sNdPut X td ty tv) := by
  refine ⟨fun pins s σ H D I h => ?_⟩
  refine wpAny_Assign_Subscript (thn (hv.run pins s σ H _ I h) fun r s1 ⟨v, H1, I1, rv, q1⟩ => ?_) hs
  refine thn (ho.run pins s1 σ H1 _ I1 q1) fun u s2 ⟨x, H2, I2, rx, q2⟩ => ?_
  refine thn (hi.run pins s2 σ H2 _ I2 q2) fun iv s3 ⟨y, H3, I3, ry, a, b, k, xs, ev, ex, ey, ha, hl, hkb, hks, q3⟩ => ?_
  subst ev ex ey
  obtain rfl : r = Value.bool true := rv
  obtain rfl : u = Value.ref a := rx
  obtain rfl : iv = Value.ref b := ry
  have hat := ndO_at (I3.hok a _ ha)
  have hsys : (a == sysModules) = false := by obtain ⟨_, _, _, _, _, _, _, _, z, _⟩ := hat; exact z
  have hd := ndAt_of (P := X.prog) hat fun z hz => hks z hz pins σ s3 I3
  refine wpAny_setItem_heap (knd := nestedKind X.prog X.w) (k := k) (hsz := by unfold xs3; rw [List.length_map]; omega) (show X.A.in1.units + 8 < cLine from hu) (hkb pins σ s3 I3) hd fun h' hm' hs' => ?_
  rw [xs3_put] at hm'
  have hat' := of_ndAt (P := X.prog) hm' (by have := length_ndPut xs k b; omega) hsys
  refine ⟨σ, _, I3.write (x := a) (e := a) (o := ndO X.w a (ndPut xs k b)) (by rw [ha]; exact True.intro) (.inl rfl) (fun c q hc z => (hs'.2 c hc).trans z) ?_ (ndO_ok hat'), q3⟩
  obtain ⟨q, _, _, hq, _⟩ := hat'
  exact ⟨q, hq⟩
theorem refsV : ∀ bs : List Addr, Vals (bs.map V.ref) (bs.map Value.ref)
  | [] => .nil
  | b :: r => .cons rfl (refsV r)
def rNdList (w : World) : List V → Hp → VK → Prop := fun vs H Q => ∃ d xs, vs = [V.ref d] ∧ H d = some (ndO w d xs) ∧ ∀ p, H p = none → Q (.ref p) (upd H p (.lst (xs.map fun x => V.ref x.2)))
theorem cr_ndList (hc : X.calm = true) : CallR X (.type "list") (rNdList X.w) := by
  intro pins s σ H vs us Q I rv ⟨d, xs, ev, hd, q⟩
  subst ev
  obtain ⟨u, rfl, ru⟩ := rv.one
  obtain rfl : u = Value.ref d := ru
  obtain ⟨ob, es, ep, e1, e2, e3, e4, hl, hsys, hn⟩ := ndO_at (I.hok d _ hd)
  have hsz : es.size = xs.length := by rw [← Array.length_toList, e4, List.length_map]
  refine PySem.W.kdl_call (kdl_raw hsys e2 e3) (I.ok.hd hc) e1 (by omega) fun h' tk acc c' keep hS hit => ?_
  have hlen : acc.toList.length = xs.length := by rw [Array.length_toList, hit.1, hsz]
  have items : acc.toList = (xs.map fun x => x.2).map Value.ref := by
    refine List.ext_getElem (by simp [hlen]) fun j h1 h2 => ?_
    have hj : acc.toList[j]? = some acc.toList[j] := List.getElem?_eq_getElem h1
    obtain ⟨en, hen, hv⟩ := hit.2 j acc.toList[j] (by rw [← Array.getElem?_toList]; exact hj)
    have hjx : j < xs.length := by omega
    have : es.toList[j]? = some (⟨(xs[j]).1.hash X.w, .ref (xs[j]).2, .bool true⟩ : DictEntry) := by
      rw [e4, List.getElem?_map, List.getElem?_eq_getElem hjx]; rfl
    rw [Array.getElem?_toList, hen] at this
    cases this
    rw [hv]
    simp
  refine ⟨.ref s.heap.objs.size, upd H s.heap.objs.size (.lst (xs.map fun x => V.ref x.2)), I.laid keep (Nat.le_refl _) ?_, rfl, q _ (I.hok.fresh (Nat.le_refl _))⟩
  refine ⟨by rw [List.length_map]; exact hl, acc.toList, c', ?_, by rw [Array.toArray_toList]; exact hS⟩
  rw [items, show (xs.map fun x => V.ref x.2) = (xs.map fun x => x.2).map V.ref by rw [List.map_map]; rfl]
  exact refsV _
end
end Li

set_option Elab.async false
set_option linter.all false
set_option maxRecDepth 100000
set_option maxHeartbeats 1000000
/-! found = {}; for ..: found[key] = True; return list(found): over data. -/
namespace Li
open PySem PySem.Spec PyProof.Rows L2
variable [Tbl]
theorem tabs_nd {T : List (Addr × Str)} {H : Hp} {p : Addr} {o : HO} {w : World} {xs : List (NestedKey × Addr)} (t : LamX.Tabs T H) (h : H p = some (ndO w p xs)) : LamX.Tabs T (upd H p o) := fun q hq => by
  obtain ⟨ps, h1, h2, h3⟩ := t q hq
  refine ⟨ps, ?_, h2, fun pos cv hc => ?_⟩
  · rw [upd_ne]
    · exact h1
    · intro z; rw [z, h] at h1; cases h1
  · obtain ⟨c, e1, e2⟩ := h3 pos cv hc
    refine ⟨c, e1, ?_⟩
    rw [upd_ne]
    · exact e2
    · intro z; rw [z, h] at e2; exact ndO_code (Option.some.inj e2)
section
variable {K : PySem.W.Frag} {F : Hp} {μ : MS} {H : Hp} {p : Addr} {o : HO}
theorem Ok.beside (ok : Ok K F μ H) (hF : F p = none) (hm : μ p = none) (ht : LamX.Tabs Tbl.T (upd H p o)) : Ok K F μ (upd H p o) := by
  have ne : ∀ {a m}, μ a = some m → a ≠ p := fun {a m} e z => by subst z; rw [hm] at e; cases e
  refine ⟨fun b u q => by rw [upd_ne (ne_of_none q hF)]; exact ok.sub b u q, fun a ds e => ?_, fun a C fs e => ?_, ht, ok.ntb⟩
  · obtain ⟨h1, vs, h2, h3⟩ := ok.lst a ds e
    exact ⟨h1, vs, by rw [upd_ne (ne e)]; exact h2, h3⟩
  · obtain ⟨h1, dx, vfs, h2, h3⟩ := ok.ins a C fs e
    exact ⟨h1, dx, vfs, by rw [upd_ne (ne e)]; exact h2, h3⟩
theorem RelS.hide {ρ : DSt} {σ : L2.St} (r : RelS K F ρ σ) (i : Nat) (x : Option V) : RelS K F (ρ.set i none) (σ.set i x) := by
  refine ⟨by rw [List.length_set, List.length_set, r.len], fun j d h => ?_⟩
  by_cases hj : i = j
  · subst hj
    by_cases hl : i < ρ.length
    · rw [List.getElem?_set_self hl] at h; cases h
    · rw [List.getElem?_eq_none (by rw [List.length_set]; omega)] at h; cases h
  · rw [List.getElem?_set_ne hj] at h ⊢
    exact r.at_ j d h
end
theorem wipe_out {σ : L2.St} {j : Nat} : ∀ {vs : List Nat}, j ∉ vs → (wipe σ vs)[j]? = σ[j]?
  | [], _ => rfl
  | v :: vs, h => by
    simp only [List.mem_cons, not_or] at h
    simp only [wipe]
    rw [List.getElem?_set_ne (Ne.symm h.1)]
    exact wipe_out h.2
/-- a target that stores in some slots only -/
structure STg (X : Cx) (B : Ent) (vs : List Nat) (tg : Expr) (td : DTG) : Prop where
  ex : ∃ tv : TG, PG X tg tv ∧ (∀ v σ H Q, tv v σ H Q → tv v σ H fun σ2 H2 => wipe σ2 vs = wipe σ vs ∧ Q σ2 H2) ∧ (∀ v σ H Q, LG X.K B td v σ H Q → tv v σ H Q) ∧ ∀ v σ H (Q Q' : L2.St → Hp → Prop), (∀ σ H, Q σ H → Q' σ H) → tv v σ H Q → tv v σ H Q'
theorem gNms_mono : ∀ {is : List Nat} {xs : List V} {σ : L2.St} {H : Hp} {Q Q' : L2.St → Hp → Prop}, (∀ σ H, Q σ H → Q' σ H) → gNms is xs σ H Q → gNms is xs σ H Q'
  | [], _, _, _, _, _, m, ⟨e, q⟩ => ⟨e, m _ _ q⟩
  | i :: is, _, _, _, _, _, m, ⟨v, r, e, q⟩ => ⟨v, r, e, gNms_mono m q⟩
theorem stg_tup {X : Cx} {B : Ent} {vs : List Nat} {tg : Expr} {n : Nat} (is : List Nat) (h : PG X tg (gTup X.K n (gNms is))) (hi : ∀ i ∈ is, i ∈ vs := by decide) : STg X B vs tg (dGTup n (dNms is)) :=
  ⟨gTup X.K n (gNms is), h, fun v σ H Q ⟨a, xs, e, h1, h2, q⟩ => ⟨a, xs, e, h1, h2, gNms_stays hi q⟩, (fun v σ H Q ⟨F, d, ρ, μ, Qd, sB, ok, rs, rd, t, cl⟩ => by
    unfold dGTup at t
    split at t
    · rename_i ds
      obtain ⟨a, ws, rfl, h1, h2⟩ := rep_tup.mp rd
      cases e : (ds.length == n) with
      | false => rw [e] at t; exact t.elim
      | true =>
        rw [e] at t
        exact ⟨a, ws, rfl, ok.sqT h1, by rw [← h2.length]; exact eq_of_beq e, gNms_of ⟨F, ds, ρ, μ, Qd, sB, ok, rs, h2, t, cl⟩⟩
    · exact t.elim), fun v σ H Q Q' m ⟨a, xs, e, h1, h2, q⟩ => ⟨a, xs, e, h1, h2, gNms_mono m q⟩⟩
def insD (acc : List D) (k : D) : List D := if nk k ∈ acc.map nk then acc else acc ++ [k]
/-- a tuple that may be a key -/
def isKey (k : D) : Prop := kyb k = true ∧ (nk k).depth ≤ 8 ∧ ∃ ks, k = .tup ks
def kyL (g : DTG) (te : DTE) : List D → List D → DSt → MS → (List D → MS → Prop) → Prop
  | [], acc, _, μ, Q => Q acc μ
  | d :: ds, acc, ρ, μ, Q => g d ρ μ fun ρ2 μ2 => te ρ2 μ2 fun k μ3 => isKey k ∧ kyL g te ds (insD acc k) ρ2 μ3 Q
def dKeys (i : Nat) (ti : DTI) (g : DTG) (te : DTE) : DTS := fun DD ρ μ => i < ρ.length ∧ ti (ρ.set i none) μ fun ds μ1 => kyL g te ds [] (ρ.set i none) μ1 fun r μ2 => DD.rt (.lst r) μ2
/-- the dict's keys are these data -/
structure Keyed (K : PySem.W.Frag) (F : Hp) (acc : List D) (xs : List (NestedKey × Addr)) : Prop where
  fst : xs.map (·.1) = acc.map nk
  rep : Reps K F acc (xs.map fun x => V.ref x.2)
  key : ∀ d ∈ acc, isKey d
theorem Keyed.mono {K : PySem.W.Frag} {F F' : Hp} {acc : List D} {xs : List (NestedKey × Addr)} (h : Keyed K F acc xs) (e : Same F F') : Keyed K F' acc xs := ⟨h.fst, h.rep.mono e, h.key⟩
theorem Keyed.length {K : PySem.W.Frag} {F : Hp} {acc : List D} {xs : List (NestedKey × Addr)} (h : Keyed K F acc xs) : xs.length = acc.length := by
  have := congrArg List.length h.fst
  simpa using this
theorem Keyed.put {K : PySem.W.Frag} {F : Hp} {acc : List D} {xs : List (NestedKey × Addr)} (h : Keyed K F acc xs) {k : D} {b : Addr} (hk : isKey k) (r : Rep K F k (.ref b)) : Keyed K F (insD acc k) (ndPut xs (nk k) b) := by
  unfold insD ndPut
  rw [h.fst]
  by_cases hm : nk k ∈ acc.map nk
  · rw [if_pos hm, if_pos hm]; exact h
  · rw [if_neg hm, if_neg hm]
    refine ⟨by rw [List.map_append, List.map_append, h.fst]; rfl, ?_, fun d hd => ?_⟩
    · rw [List.map_append]
      exact h.rep.append (.cons r (reps_nil.mpr rfl))
    · rcases List.mem_append.mp hd with hd | hd
      · exact h.key d hd
      · rw [List.mem_singleton.mp hd]; exact hk
theorem keyed_get {K : PySem.W.Frag} {F : Hp} : ∀ {acc : List D} {xs : List (NestedKey × Addr)}, Keyed K F acc xs → ∀ z ∈ xs, ∃ d, isKey d ∧ nk d = z.1 ∧ Rep K F d (.ref z.2)
  | [], [], _, z, hz => by cases hz
  | [], _ :: _, h, _, _ => by have := h.length; simp at this
  | _ :: _, [], _, z, hz => by cases hz
  | d :: acc, x :: xs, h, z, hz => by
    obtain ⟨h1, h2, h3⟩ := h
    obtain ⟨v, r, e, r1, r2⟩ := reps_cons.mp h2
    simp only [List.map_cons, List.cons.injEq] at e h1
    obtain ⟨e1, e2⟩ := e
    rcases List.mem_cons.mp hz with rfl | hz
    · exact ⟨d, h3 d List.mem_cons_self, h1.1.symm, by rw [e1]; exact r1⟩
    · exact keyed_get ⟨h1.2, by rw [e2]; exact r2, fun q hq => h3 q (List.mem_cons_of_mem _ hq)⟩ z hz
theorem keyH_of {X : Cx} {F H : Hp} {d : D} {b : Addr} (e : Same F H) (hk : isKey d) (r : Rep X.K F d (.ref b)) : KeyH X H (nk d) b := fun pins σ s I => ⟨nested_is I e d (.ref b) (.ref b) hk.1 r rfl, hk.2.1⟩
section
variable {X : Cx} {B : Ent} {tg iter key : Expr} {ti : DTI} {g : DTG} {te : DTE} {vs : List Nat} {i : Nat} {x : Str} {p1 p2 p3 p4 p5 p6 p7 p8 p9 p10 p11 p12 : Pos} {j : Nat}
theorem dss_keys (hp : PassesOwn (model X.prog X.w) X.A X.env X.xe) (hc : X.calm = true) (hu : X.A.units + 65 < cLine) (hN : X.N.Nodup) (hi : X.N[i]? = some x) (hx : Loc X.env.scope x) (hv : Vis X.env.scope x) (hd : (x == ("__debug__" : Str)) = false) (hcd : (x == ("__classdict__" : Str)) = false)
    (hf : X.fn x = true ∨ X.env.scope.names.lookup x = some .local) (hit : DI X B tg iter ti) (hg : STg X B vs tg g) (hni : i ∉ vs) (he : DE X B key te) (hgl : Gl X "list") (hml : X.mg "list" = none) (hlen : i < X.N.length)
    (hs : ∀ x, foldedSetIterable iter X.env x = pure x := by intro _; rfl) (hs1 : swapsWith (.Dict [] [] p2) (some (.Name x p1)) p3.line X.env = pure false := by rfl)
    (hs2 : swapsWith (.Constant (.bool true) j p6) (some (.Subscript (.Name x p4) key p5)) p7.line X.env = pure false := by rfl)
    (hst : starEach [Expr.Name x p10] X.env = (false, eval (.Name x p10) X.env) :: starEach [] X.env := by rfl) (hpl : (backTo p11 (starEach [] X.env)).any (·.1) = false := by rfl) :
    DSs X B [.Assign [.Name x p1] (.Dict [] [] p2) p3, .For tg iter [.Assign [.Subscript (.Name x p4) key p5] (.Constant (.bool true) j p6) p7] [] p8, .Return (some (.Call (.Name "list" p9) [.Name x p10] [] p11)) p12] (dKeys i ti g te) := by
  obtain ⟨tv, h1, h2, h3, h4⟩ := hg.ex
  refine PSs.by (pss_cons (ps_set hN hi hx pe_ndNew hs1 hf) (pss_cons (ps_for hp hc hit h1 (pss_one (ps_ndPut (by omega) (pe_var hi hv hd hcd) he pe_bl hs2)) hs)
    (pss_one (ps_ret (pe_callTy (cr_ndList hc) hgl hml (by decide +kernel) (pa_cons (pe_var hi hv hd hcd) pa_nil hst) (by decide) (by decide) hst hpl))))) fun Dn σ H ⟨F, ρ, μ, DD, sB, ok, rs, ⟨hiρ, t⟩, cl⟩ => ?_
  intro p hp0
  have hF := ok.freeF hp0
  have hm := ok.freeM hp0
  have hiσ : i < σ.length := by rw [← rs.len]; exact hiρ
  have s0 : Stp F μ H F μ (upd H p (ndO X.w p [])) := Stp.refl.skip hp0
  have ok0 : Ok X.K F μ (upd H p (ndO X.w p [])) := ok.beside hF hm (tabs_new ok.tab hp0)
  refine ⟨F, ρ.set i none, μ, _, sB.trans s0, ok0, rs.hide i _, t, fun F1 ds μ1 H1 J s1 ok1 hz gv q => ?_⟩
  obtain ⟨hp1, hm1, hF1⟩ := s1.fr p _ upd_same (fun ps z => by cases z) hm
  refine ⟨fun n m σ' H' => m = ds.length - n ∧ n ≤ ds.length ∧ ∃ F' ρ' μ' acc xs, Stp F μ H F' μ' H' ∧ Same F1 F' ∧ Ok X.K F' μ' H' ∧ RelS X.K F' ρ' σ' ∧ σ'[i]? = some (some (.ref p)) ∧ H' p = some (ndO X.w p xs) ∧ F' p = none ∧ μ' p = none ∧ Keyed X.K F' acc xs ∧ acc.length ≤ n ∧
      kyL g te (ds.drop n) acc ρ' μ' (fun r μ2 => DD.rt (.lst r) μ2), ⟨ds.length, by simp, Nat.zero_le _, F1, ρ.set i none, μ1, [], [], s0.trans s1, Same.refl _, ok1, (rs.hide i _).mono s1.s, List.getElem?_set_self hiσ, hp1, hF1 hF, hm1, ⟨rfl, reps_nil.mpr rfl, fun d hd => nomatch hd⟩, Nat.le_refl _, by simpa using q⟩, ?_⟩
  rintro n m σ' H' ⟨rfl, hn, F', ρ', μ', acc, xs, s', e', ok', rs', hσ, hp', hF', hm', ky, hl, q'⟩
  have gi := gv n F' μ' H' e' ok'
  by_cases hlt : n < ds.length
  · obtain ⟨go, step⟩ := gi.1 ds[n] (List.getElem?_eq_getElem hlt)
    rw [List.drop_eq_getElem_cons hlt] at q'
    refine .inr ⟨go, fun σ2 H2 => n + 1 ≤ ds.length ∧ ∃ F' ρ' μ' acc xs, Stp F μ H F' μ' H2 ∧ Same F1 F' ∧ Ok X.K F' μ' H2 ∧ RelS X.K F' ρ' σ2 ∧ σ2[i]? = some (some (.ref p)) ∧ H2 p = some (ndO X.w p xs) ∧ F' p = none ∧ μ' p = none ∧ Keyed X.K F' acc xs ∧ acc.length ≤ n + 1 ∧
      kyL g te (ds.drop (n + 1)) acc ρ' μ' (fun r μ2 => DD.rt (.lst r) μ2), fun σ2 H2 z => ⟨ds.length - (n + 1), by omega, rfl, z.1, z.2⟩, fun y H2 yl => ?_⟩
    obtain ⟨F2, s2, ok2, ry⟩ := step y H2 yl
    refine h4 _ _ _ _ _ ?_ (h2 _ _ _ (fun σ3 H3 => ∃ F3 ρ3 μ3, Stp F2 μ' H2 F3 μ3 H3 ∧ Ok X.K F3 μ3 H3 ∧ RelS X.K F3 ρ3 σ3 ∧ te ρ3 μ3 fun k μ4 => isKey k ∧ kyL g te (ds.drop (n + 1)) (insD acc k) ρ3 μ4 fun r μ2 => DD.rt (.lst r) μ2)
      (h3 _ _ _ _ ⟨F2, ds[n], ρ', μ', _, sB.trans (s'.trans s2), ok2, rs'.mono s2.s, ry, q', fun F3 ρ3 μ3 σ3 H3 s3 ok3 rs3 q3 => ⟨F3, ρ3, μ3, s3, ok3, rs3, q3⟩⟩))
    rintro σ3 H3 ⟨hw, F3, ρ3, μ3, s3, ok3, rs3, q3⟩
    have slot : σ3[i]? = some (some (.ref p)) := by rw [← hσ, ← wipe_out hni, hw, wipe_out hni]
    have s03 := (s'.trans s2).trans s3
    refine ⟨.ref p, slot, F3, ρ3, μ3, _, sB.trans s03, ok3, rs3, q3, fun F4 k μ4 y H4 s4 ok4 rk ⟨hk, q4⟩ => ?_⟩
    have sd := (s2.trans s3).trans s4
    obtain ⟨hp4, hm4, hF4⟩ := sd.fr p _ hp' (fun ps z => by cases z) hm'
    have ky4 := ky.mono sd.s
    obtain ⟨ks, rfl⟩ := hk.2.2
    obtain ⟨b, _, rfl, _, _⟩ := rep_tup.mp rk
    refine ⟨p, b, nk (.tup ks), xs, rfl, rfl, rfl, hp4, by rw [ky4.length]; omega, keyH_of ok4.sub hk rk, fun z hz => ?_, ?_⟩
    · obtain ⟨d, hd1, hd2, hd3⟩ := keyed_get ky4 z hz
      rw [← hd2]
      exact keyH_of ok4.sub hd1 hd3
    · have lenI : (insD acc (.tup ks)).length ≤ n + 1 := by
        unfold insD
        split
        · omega
        · rw [List.length_append, List.length_cons, List.length_nil]; omega
      exact ⟨hlt, F4, ρ3, μ4, insD acc (.tup ks), _, (s03.trans s4).skip hp0, e'.trans sd.s, ok4.beside (hF4 hF') hm4 (tabs_nd ok4.tab hp4), rs3.mono s4.s, slot, upd_same, hF4 hF', hm4, ky4.put hk rk, lenI, q4⟩
  · have e : n = ds.length := by omega
    subst e
    rw [List.drop_length] at q'
    refine .inl ⟨gi.2 (Nat.le_refl _), ?_⟩
    refine ⟨.ref p, hσ, p, xs, rfl, hp', fun p2 hp2 => ?_⟩
    exact cl_lst ok' (cl.rt.mono s') ky.rep q' hp2
end
end Li

set_option Elab.async false
set_option linter.all false
set_option maxRecDepth 100000
set_option maxHeartbeats 1000000
/-! // by a number that may be below 0. -/
namespace Li
open PySem PySem.Spec PyProof.Rows L2
variable [Tbl]
def kFdv : KD := fun x y μ Q => match x, y with
  | .int i, .int j => (j ≠ 0 ∧ j.natAbs.log2 < 9000) ∧ Q (.int (i.fdiv j)) μ
  | _, _ => False
theorem op_fdv {X : Cx} : OpR X (binaryOp .FloorDiv) (rI (fun _ j => j ≠ 0 ∧ j.natAbs.log2 < 9000) fun i j => .int (i.fdiv j)) := opI fun i j _ _ _ _ _ hc q => floordiv_int hc.1 q (.inl (PyProof.noPylong_of_log2 hc.2))
theorem do_fdv {X : Cx} : DOp X (binaryOp .FloorDiv) kFdv := by
  intro pins s σ H v w vv ww Q I rv rw' ⟨F, μ, x, y, Qd, ok, rx, ry, hk, cl⟩
  unfold kFdv at hk
  split at hk
  · obtain rfl := rep_int.mp rx
    obtain rfl := rep_int.mp ry
    exact op_fdv pins s σ H _ _ vv ww Q I rv rw' ⟨_, _, rfl, rfl, hk.1, cl F _ μ _ H (Stp.refl) ok (rep_int.mpr rfl) hk.2⟩
  · exact hk.elim
theorem gives_sub_bb (a b : Bool)   : PySem.Gives (Builtin.«int.__sub__» ⟨[.bool a, .bool b], []⟩) (.int (b2i a - b2i b)) :=
  .of_wp fun M A E s Q h => by
    obtain ⟨hp, g, d, tk, os⟩ := s
    cases a <;> cases b <;> (wp_walk; exact ⟨_, rfl, h⟩)
def kSubBB : KD := fun x y μ Q => match x, y with
  | .bl a, .bl b => Q (.int (b2i a - b2i b)) μ
  | _, _ => False
theorem do_subBB {X : Cx} : DOp X (binaryOp .Sub) kSubBB := by
  intro pins s σ H v w vv ww Q I rv rw' ⟨F, μ, x, y, Qd, ok, rx, ry, hk, cl⟩
  unfold kSubBB at hk
  split at hk
  · rename_i a b
    obtain rfl := rep_bl.mp rx
    obtain rfl := rep_bl.mp ry
    obtain rfl := (show vv = .bool a from rv)
    obtain rfl := (show ww = .bool b from rw')
    refine binaryOp_gives (op := .Sub) (T := "bool") (B := Builtin.«int.__sub__») rfl rfl PySem.F.fills_bool_sub PySem.F.slot_bool_sub PySem.F.entry_int_sub (PySem.F.args_int_sub_2 _ _) (gives_sub_bb a b) trivial ?_
    exact ⟨.int _, H, I.tok _, ⟨_, rfl⟩, cl F _ μ _ H (Stp.refl) ok (rep_int.mpr rfl) hk⟩
  · exact hk.elim
end Li

set_option linter.all false
set_option maxHeartbeats 400000
namespace Li
/-! Amounts (c + a x + b y) / d. -/
structure Amt where
  c : Int
  a : Int
  b : Int
  d : Int
  deriving DecidableEq, Inhabited
namespace Amt
def gcd4 (c a b d : Int) : Nat := Int.gcd (Int.gcd (Int.gcd d c) a) b
def whole (c a b d : Int) : Amt := let g : Int := gcd4 c a b d; ⟨c / g, a / g, b / g, d / g⟩
def plus (m n : Amt) : Amt := whole (m.c * n.d + n.c * m.d) (m.a * n.d + n.a * m.d) (m.b * n.d + n.b * m.d) (m.d * n.d)
def times (m : Amt) (top below : Int) : Amt := whole (m.c * top) (m.a * top) (m.b * top) (m.d * below)
def minus (m n : Amt) : Amt := plus m (times n (-1) 1)
def nothing : Amt := ⟨0, 0, 0, 1⟩
def ux : Amt := ⟨0, 1, 0, 1⟩
def uy : Amt := ⟨0, 0, 1, 1⟩
def num (q : Rat) : Amt := ⟨q.num, 0, 0, q.den⟩
def val (m : Amt) (x y : Rat) : Rat := (m.c + m.a * x + m.b * y) / m.d
/-- in lowest terms -/
structure Low (m : Amt) : Prop where
  pos : 0 < m.d
  low : gcd4 m.c m.a m.b m.d = 1
theorem gcd4_dvd (c a b d : Int) : (gcd4 c a b d : Int) ∣ c ∧ (gcd4 c a b d : Int) ∣ a ∧ (gcd4 c a b d : Int) ∣ b ∧ (gcd4 c a b d : Int) ∣ d := by
  unfold gcd4
  have h1 := Int.gcd_dvd_left (a := (Int.gcd (Int.gcd d c) a : Int)) (b := b)
  have h2 := Int.gcd_dvd_right (a := (Int.gcd (Int.gcd d c) a : Int)) (b := b)
  have h3 := Int.gcd_dvd_left (a := (Int.gcd d c : Int)) (b := a)
  have h4 := Int.gcd_dvd_right (a := (Int.gcd d c : Int)) (b := a)
  have h5 := Int.gcd_dvd_left (a := d) (b := c)
  have h6 := Int.gcd_dvd_right (a := d) (b := c)
  exact ⟨Int.dvd_trans h1 (Int.dvd_trans h3 h6), Int.dvd_trans h1 h4, h2, Int.dvd_trans h1 (Int.dvd_trans h3 h5)⟩
theorem dvd_gcd4 {k c a b d : Int} (h1 : k ∣ c) (h2 : k ∣ a) (h3 : k ∣ b) (h4 : k ∣ d) : k ∣ (gcd4 c a b d : Int) := by
  unfold gcd4
  exact Int.dvd_coe_gcd (Int.dvd_coe_gcd (Int.dvd_coe_gcd h4 h1) h2) h3
theorem gcd4_pos {c a b d : Int} (h : d ≠ 0) : 0 < gcd4 c a b d := by
  rcases Nat.eq_zero_or_pos (gcd4 c a b d) with z | z
  · have := (gcd4_dvd c a b d).2.2.2
    rw [z] at this
    exact absurd (Int.zero_dvd.mp this) h
  · exact z
theorem whole_eqs {c a b d : Int} (h : d ≠ 0) : (whole c a b d).c * gcd4 c a b d = c ∧ (whole c a b d).a * gcd4 c a b d = a ∧ (whole c a b d).b * gcd4 c a b d = b ∧ (whole c a b d).d * gcd4 c a b d = d := by
  obtain ⟨h1, h2, h3, h4⟩ := gcd4_dvd c a b d
  exact ⟨Int.ediv_mul_cancel h1, Int.ediv_mul_cancel h2, Int.ediv_mul_cancel h3, Int.ediv_mul_cancel h4⟩
theorem whole_pos {c a b d : Int} (h : 0 < d) : 0 < (whole c a b d).d := by
  have h1 := (whole_eqs (c := c) (a := a) (b := b) (d := d) (by omega)).2.2.2
  have h2 : (0 : Int) < gcd4 c a b d := by exact_mod_cast gcd4_pos (c := c) (a := a) (b := b) (by omega)
  rw [← h1] at h
  exact Int.pos_of_mul_pos_left h (by omega)
theorem gcd4_mul {c a b d k : Int} (hk : 0 < k) : (gcd4 (c * k) (a * k) (b * k) (d * k) : Int) = gcd4 c a b d * k := by
  unfold gcd4
  have e : ∀ x y : Int, (Int.gcd (x * k) (y * k) : Int) = Int.gcd x y * k := fun x y => by
    rw [Int.gcd_mul_right, Int.natCast_mul, show (k.natAbs : Int) = k by omega]
  rw [e, e, e]
theorem whole_low {c a b d : Int} (h : 0 < d) : Low (whole c a b d) := by
  refine ⟨whole_pos h, ?_⟩
  obtain ⟨h1, h2, h3, h4⟩ := whole_eqs (c := c) (a := a) (b := b) (d := d) (by omega)
  have hg : (0 : Int) < gcd4 c a b d := by exact_mod_cast gcd4_pos (c := c) (a := a) (b := b) (by omega)
  have e := gcd4_mul (c := (whole c a b d).c) (a := (whole c a b d).a) (b := (whole c a b d).b) (d := (whole c a b d).d) hg
  rw [h1, h2, h3, h4] at e
  have : (gcd4 (whole c a b d).c (whole c a b d).a (whole c a b d).b (whole c a b d).d : Int) = 1 := by
    have : (1 : Int) * gcd4 c a b d = gcd4 (whole c a b d).c (whole c a b d).a (whole c a b d).b (whole c a b d).d * gcd4 c a b d := by rw [← e]; omega
    exact (Int.eq_of_mul_eq_mul_right (by omega) this).symm
  exact_mod_cast this
theorem val_whole {c a b d : Int} (h : 0 < d) (x y : Rat) : (whole c a b d).val x y = (c + a * x + b * y) / d := by
  obtain ⟨h1, h2, h3, h4⟩ := whole_eqs (c := c) (a := a) (b := b) (d := d) (by omega)
  have hg : (0 : Int) < gcd4 c a b d := by exact_mod_cast gcd4_pos (c := c) (a := a) (b := b) (by omega)
  have hd := whole_pos (c := c) (a := a) (b := b) h
  generalize whole c a b d = m at *
  generalize (gcd4 c a b d : Int) = g at *
  subst h1 h2 h3 h4
  unfold val
  have hg' : (g : Rat) ≠ 0 := by exact_mod_cast (show g ≠ 0 by omega)
  have hd' : (m.d : Rat) ≠ 0 := by exact_mod_cast (show m.d ≠ 0 by omega)
  simp only [Rat.intCast_mul]
  grind
theorem dval {m : Amt} (h : 0 < m.d) (x y : Rat) : m.val x y * m.d = m.c + m.a * x + m.b * y := by
  unfold val
  have hd' : (m.d : Rat) ≠ 0 := by exact_mod_cast (show m.d ≠ 0 by omega)
  grind
theorem val_plus {m n : Amt} (hm : 0 < m.d) (hn : 0 < n.d) (x y : Rat) : (plus m n).val x y = m.val x y + n.val x y := by
  unfold plus
  rw [val_whole (Int.mul_pos hm hn)]
  unfold val
  have hm' : (m.d : Rat) ≠ 0 := by exact_mod_cast (show m.d ≠ 0 by omega)
  have hn' : (n.d : Rat) ≠ 0 := by exact_mod_cast (show n.d ≠ 0 by omega)
  simp only [Rat.intCast_mul, Rat.intCast_add]
  grind
theorem val_times {m : Amt} (hm : 0 < m.d) {t b : Int} (hb : 0 < b) (x y : Rat) : (times m t b).val x y = m.val x y * (t / b) := by
  unfold times
  rw [val_whole (Int.mul_pos hm hb)]
  unfold val
  have hm' : (m.d : Rat) ≠ 0 := by exact_mod_cast (show m.d ≠ 0 by omega)
  have hb' : (b : Rat) ≠ 0 := by exact_mod_cast (show b ≠ 0 by omega)
  simp only [Rat.intCast_mul]
  grind
theorem plus_low {m n : Amt} (hm : 0 < m.d) (hn : 0 < n.d) : Low (plus m n) := whole_low (Int.mul_pos hm hn)
theorem times_low {m : Amt} (hm : 0 < m.d) {t b : Int} (hb : 0 < b) : Low (times m t b) := whole_low (Int.mul_pos hm hb)
theorem minus_low {m n : Amt} (hm : 0 < m.d) (hn : 0 < n.d) : Low (minus m n) := plus_low hm (times_low hn (by decide)).pos
theorem val_minus {m n : Amt} (hm : 0 < m.d) (hn : 0 < n.d) (x y : Rat) : (minus m n).val x y = m.val x y - n.val x y := by
  unfold minus
  rw [val_plus hm (times_low hn (by decide)).pos, val_times hn (by decide)]
  have : ((-1 : Int) : Rat) / ((1 : Int) : Rat) = -1 := by simp only [Rat.intCast_neg, Rat.intCast_one]; grind
  rw [this]
  grind
theorem low_num (q : Rat) : Low (num q) := by
  refine ⟨by show (0 : Int) < q.den; have := q.den_pos; omega, ?_⟩
  show gcd4 q.num 0 0 q.den = 1
  unfold gcd4
  simp [Int.gcd_comm, Int.gcd]
  have := q.reduced
  rw [Nat.gcd_comm]
  exact this
theorem val_num (q x y : Rat) : (num q).val x y = q := by
  show ((q.num : Rat) + ((0 : Int) : Rat) * x + ((0 : Int) : Rat) * y) / ((q.den : Int) : Rat) = q
  have h : (q.num : Rat) / (((q.den : Int)) : Rat) = q := by rw [← Rat.divInt_eq_div]; exact Rat.num_divInt_den q
  simp only [Rat.intCast_zero]
  grind
theorem val_nothing (x y : Rat) : nothing.val x y = 0 := by
  show (((0 : Int) : Rat) + ((0 : Int) : Rat) * x + ((0 : Int) : Rat) * y) / ((1 : Int) : Rat) = 0
  simp only [Rat.intCast_zero, Rat.intCast_one]; grind
theorem val_ux (x y : Rat) : ux.val x y = x := by
  show (((0 : Int) : Rat) + ((1 : Int) : Rat) * x + ((0 : Int) : Rat) * y) / ((1 : Int) : Rat) = x
  simp only [Rat.intCast_zero, Rat.intCast_one]; grind
theorem val_uy (x y : Rat) : uy.val x y = y := by
  show (((0 : Int) : Rat) + ((0 : Int) : Rat) * x + ((1 : Int) : Rat) * y) / ((1 : Int) : Rat) = y
  simp only [Rat.intCast_zero, Rat.intCast_one]; grind
/-- no unknown number in it: lowest terms are the fraction's own -/
theorem low_const {m : Amt} (h : Low m) (ha : m.a = 0) (hb : m.b = 0) : m = num (m.val 0 0) := by
  obtain ⟨c, a, b, d⟩ := m
  obtain ⟨h1, h2⟩ := h
  simp only at ha hb h1 h2
  subst ha hb
  have e : val ⟨c, 0, 0, d⟩ 0 0 = (c : Rat) / (d : Rat) := by
    show ((c : Rat) + ((0 : Int) : Rat) * 0 + ((0 : Int) : Rat) * 0) / (d : Rat) = _
    simp only [Rat.intCast_zero]; grind
  rw [e]
  obtain ⟨n, rfl⟩ : ∃ n : Nat, d = n := ⟨d.toNat, by omega⟩
  have hc : Nat.Coprime c.natAbs n := by
    unfold gcd4 at h2
    simp [Int.gcd] at h2
    rw [Nat.gcd_comm] at h2
    exact h2
  have hn : n ≠ 0 := by omega
  have : (c : Rat) / ((n : Int) : Rat) = ⟨c, n, hn, hc⟩ := by
    rw [← Rat.divInt_eq_div]
    exact (Rat.num_divInt_den ⟨c, n, hn, hc⟩)
  rw [this]
  rfl
theorem low_nothing : Low nothing := ⟨by decide, by decide⟩
theorem low_ux : Low ux := ⟨by decide, by decide⟩
theorem low_uy : Low uy := ⟨by decide, by decide⟩
theorem low_fuse (n : Int) : Low ⟨n, 0, 0, 1⟩ := ⟨by show (0 : Int) < 1; decide, by show gcd4 n 0 0 1 = 1; unfold gcd4; simp⟩
end Amt
end Li

set_option linter.all false
set_option maxHeartbeats 400000
namespace Li
/-! Systems of linear conditions. -/
@[ext] structure Lrow where
  p0 : Int
  p1 : Int
  p2 : Int
  p3 : Int
  deriving DecidableEq, Inhabited
namespace Lrow
def get (r : Lrow) : Nat → Int
  | 0 => r.p0
  | 1 => r.p1
  | 2 => r.p2
  | _ => r.p3
def scaled (r : Lrow) (k : Int) : Lrow := ⟨k * r.p0, k * r.p1, k * r.p2, k * r.p3⟩
def added (r s : Lrow) : Lrow := ⟨r.p0 + s.p0, r.p1 + s.p1, r.p2 + s.p2, r.p3 + s.p3⟩
def without (r e : Lrow) (i : Nat) : Lrow := added (scaled r (e.get i).natAbs) (scaled e (-(if e.get i > 0 then 1 else -1) * r.get i))
def common (r : Lrow) : Nat := Int.gcd (Int.gcd (Int.gcd r.p0 r.p1) r.p2) r.p3
def lowered (r : Lrow) : Lrow := let g : Int := r.common; if g > 1 then ⟨r.p0 / g, r.p1 / g, r.p2 / g, r.p3 / g⟩ else r
def ev (r : Lrow) (v : Nat → Rat) : Rat := r.p0 + r.p1 * v 1 + r.p2 * v 2 + r.p3 * v 3
end Lrow
def vset (v : Nat → Rat) (i : Nat) (t : Rat) : Nat → Rat := fun j => if j = i then t else v j
namespace Lrow
theorem ev_scaled (r : Lrow) (k : Int) (v) : (r.scaled k).ev v = k * r.ev v := by
  simp only [ev, scaled, Rat.intCast_mul]; grind
theorem ev_added (r s : Lrow) (v) : (r.added s).ev v = r.ev v + s.ev v := by
  simp only [ev, added, Rat.intCast_add]; grind
theorem get_scaled (r : Lrow) (k : Int) (i : Nat) : (r.scaled k).get i = k * r.get i := by
  unfold get scaled; split <;> rfl
theorem get_added (r s : Lrow) (i : Nat) : (r.added s).get i = r.get i + s.get i := by
  unfold get added; split <;> rfl
theorem ev_vset (r : Lrow) (v) {i : Nat} (h : i = 1 ∨ i = 2 ∨ i = 3) (t : Rat) : r.ev (vset v i t) = r.ev (vset v i 0) + r.get i * t := by
  rcases h with rfl | rfl | rfl <;> simp [ev, vset, get] <;> grind
theorem get_without_self (r e : Lrow) {i : Nat} (h : e.get i ≠ 0) : (without r e i).get i = 0 := by
  unfold without
  rw [get_added, get_scaled, get_scaled]
  split
  · have : ((e.get i).natAbs : Int) = e.get i := by omega
    rw [this]; grind
  · have : ((e.get i).natAbs : Int) = -e.get i := by omega
    rw [this]; grind
theorem get_without_zero (r e : Lrow) {i j : Nat} (h1 : r.get j = 0) (h2 : e.get j = 0) : (without r e i).get j = 0 := by
  unfold without
  rw [get_added, get_scaled, get_scaled, h1, h2]; simp
theorem common_dvd (r : Lrow) : (r.common : Int) ∣ r.p0 ∧ (r.common : Int) ∣ r.p1 ∧ (r.common : Int) ∣ r.p2 ∧ (r.common : Int) ∣ r.p3 := by
  unfold common
  have h1 := Int.gcd_dvd_left (a := (Int.gcd (Int.gcd r.p0 r.p1) r.p2 : Int)) (b := r.p3)
  have h2 := Int.gcd_dvd_right (a := (Int.gcd (Int.gcd r.p0 r.p1) r.p2 : Int)) (b := r.p3)
  have h3 := Int.gcd_dvd_left (a := (Int.gcd r.p0 r.p1 : Int)) (b := r.p2)
  have h4 := Int.gcd_dvd_right (a := (Int.gcd r.p0 r.p1 : Int)) (b := r.p2)
  have h5 := Int.gcd_dvd_left (a := r.p0) (b := r.p1)
  have h6 := Int.gcd_dvd_right (a := r.p0) (b := r.p1)
  exact ⟨Int.dvd_trans h1 (Int.dvd_trans h3 h5), Int.dvd_trans h1 (Int.dvd_trans h3 h6), Int.dvd_trans h1 h4, h2⟩
/-- a row is so many times its lowered one -/
theorem lowered_spec (r : Lrow) : ∃ k : Int, 0 < k ∧ r = r.lowered.scaled k := by
  unfold lowered
  simp only
  split
  · rename_i h
    obtain ⟨h1, h2, h3, h4⟩ := common_dvd r
    refine ⟨r.common, by omega, ?_⟩
    unfold scaled
    ext <;> simp only [Int.mul_ediv_cancel' h1, Int.mul_ediv_cancel' h2, Int.mul_ediv_cancel' h3, Int.mul_ediv_cancel' h4]
  · exact ⟨1, by decide, by unfold scaled; ext <;> simp⟩
end Lrow
structure Lcnd where
  row : Lrow
  strict : Bool
  deriving DecidableEq, Inhabited
namespace Lcnd
def holds (c : Lcnd) (v : Nat → Rat) : Prop := if c.strict then 0 < c.row.ev v else c.row.ev v = 0
theorem holds_scale {r s : Lrow} {b : Bool} {v : Nat → Rat} {k : Int} (hk : 0 < k) (h : r.ev v = k * s.ev v) : holds ⟨r, b⟩ v ↔ holds ⟨s, b⟩ v := by
  unfold holds
  have hk' : (0 : Rat) < k := Rat.intCast_pos.mpr hk
  cases b
  · simp only [Bool.false_eq_true, if_false]
    rw [h, Rat.mul_eq_zero]
    constructor
    · rintro (z | z)
      · grind
      · exact z
    · exact .inr
  · simp only [if_true]
    rw [h]
    exact Rat.mul_pos_iff_of_pos_left hk'
end Lcnd
def All (cs : List Lcnd) (v : Nat → Rat) : Prop := ∀ c ∈ cs, c.holds v
def unlike (cs : List Lcnd) : List Lcnd := cs.foldl (fun acc c => if (⟨c.row.lowered, c.strict⟩ : Lcnd) ∈ acc then acc else acc ++ [⟨c.row.lowered, c.strict⟩]) []
theorem mem_unlike_aux : ∀ (cs acc : List Lcnd) (d : Lcnd), d ∈ cs.foldl (fun acc c => if (⟨c.row.lowered, c.strict⟩ : Lcnd) ∈ acc then acc else acc ++ [⟨c.row.lowered, c.strict⟩]) acc ↔ d ∈ acc ∨ ∃ c ∈ cs, d = ⟨c.row.lowered, c.strict⟩
  | [], acc, d => by simp
  | c :: cs, acc, d => by
    rw [List.foldl_cons, mem_unlike_aux cs]
    split
    · rename_i h
      simp only [List.mem_cons, exists_eq_or_imp]
      constructor
      · rintro (h1 | h1)
        · exact .inl h1
        · exact .inr (.inr h1)
      · rintro (h1 | rfl | h1)
        · exact .inl h1
        · exact .inl h
        · exact .inr h1
    · simp only [List.mem_append, List.mem_cons, exists_eq_or_imp, or_assoc, List.not_mem_nil, false_or]
theorem mem_unlike {cs : List Lcnd} {d : Lcnd} : d ∈ unlike cs ↔ ∃ c ∈ cs, d = ⟨c.row.lowered, c.strict⟩ := by
  unfold unlike
  rw [mem_unlike_aux]
  simp
theorem holds_lowered {c : Lcnd} {v : Nat → Rat} : Lcnd.holds ⟨c.row.lowered, c.strict⟩ v ↔ c.holds v := by
  obtain ⟨k, hk, e⟩ := c.row.lowered_spec
  exact (Lcnd.holds_scale (b := c.strict) hk (by rw [← Lrow.ev_scaled, ← e])).symm
theorem all_unlike {cs : List Lcnd} {v : Nat → Rat} : All (unlike cs) v ↔ All cs v := by
  unfold All
  constructor
  · intro h c hc
    exact holds_lowered.mp (h _ (mem_unlike.mpr ⟨c, hc, rfl⟩))
  · intro h d hd
    obtain ⟨c, hc, rfl⟩ := mem_unlike.mp hd
    exact holds_lowered.mpr (h c hc)
theorem lowered_get {r : Lrow} {i : Nat} (h : r.get i = 0) : r.lowered.get i = 0 := by
  obtain ⟨k, hk, e⟩ := r.lowered_spec
  have := congrArg (·.get i) e
  simp only [Lrow.get_scaled, h] at this
  rcases Int.mul_eq_zero.mp this.symm with z | z
  · omega
  · exact z
def lowsOf (cs : List Lcnd) (i : Nat) : List Lrow := (cs.filter fun c => decide (c.row.get i > 0)).map (·.row)
def highsOf (cs : List Lcnd) (i : Nat) : List Lrow := (cs.filter fun c => decide (c.row.get i < 0)).map (·.row)
def crossed (low high : Lrow) (i : Nat) : Lcnd := ⟨(low.scaled (-high.get i)).added (high.scaled (low.get i)), true⟩
def reduced (cs : List Lcnd) (i : Nat) : List Lcnd :=
  match (cs.filter fun c => !c.strict && decide (c.row.get i ≠ 0)).map (·.row) with
  | e :: _ => unlike ((cs.filter fun c => decide (c.row ≠ e) || c.strict).map fun c => ⟨c.row.without e i, c.strict⟩)
  | [] => unlike ((cs.filter fun c => decide (c.row.get i = 0)) ++ (lowsOf cs i).flatMap fun low => (highsOf cs i).map fun high => crossed low high i)
/-! between some and others there is a number -/
theorem between_ex : ∀ (ls hs : List Rat), (∀ l ∈ ls, ∀ h ∈ hs, l < h) → ∃ t : Rat, (∀ l ∈ ls, l < t) ∧ ∀ h ∈ hs, t < h := by
  have hi : ∀ (hs : List Rat), ∃ t : Rat, ∀ h ∈ hs, t < h := fun hs => by
    induction hs with
    | nil => exact ⟨0, by simp⟩
    | cons h hs ih =>
      obtain ⟨t, ht⟩ := ih
      refine ⟨min t (h - 1), fun x hx => ?_⟩
      rcases List.mem_cons.mp hx with rfl | hx
      · rw [Rat.min_def]; split <;> grind
      · have := ht x hx; rw [Rat.min_def]; split <;> grind
  intro ls
  induction ls with
  | nil => intro hs _; obtain ⟨t, h⟩ := hi hs; exact ⟨t, by simp, h⟩
  | cons l ls ih =>
    intro hs h
    obtain ⟨t, h1, h2⟩ := ih hs fun a ha b hb => h a (List.mem_cons_of_mem _ ha) b hb
    -- above l, not below t, and below all of hs
    by_cases hlt : l < t
    · exact ⟨t, fun a ha => by rcases List.mem_cons.mp ha with rfl | ha; exact hlt; exact h1 a ha, h2⟩
    · -- between l and the least of hs
      have key : ∀ (hs : List Rat), (∀ b ∈ hs, l < b) → ∃ u, l < u ∧ ∀ b ∈ hs, u < b := fun hs => by
        induction hs with
        | nil => intro _; exact ⟨l + 1, by grind, by simp⟩
        | cons b hs ih =>
          intro hb
          obtain ⟨u, hu, hu2⟩ := ih fun x hx => hb x (List.mem_cons_of_mem _ hx)
          have hlb := hb b List.mem_cons_self
          refine ⟨min u ((l + b) / 2), by rw [Rat.min_def]; split <;> grind, fun x hx => ?_⟩
          rcases List.mem_cons.mp hx with rfl | hx
          · rw [Rat.min_def]; split <;> grind
          · have := hu2 x hx; rw [Rat.min_def]; split <;> grind
      obtain ⟨u, hu, hu2⟩ := key hs fun b hb => h l List.mem_cons_self b hb
      exact ⟨u, fun a ha => by rcases List.mem_cons.mp ha with rfl | ha; exact hu; have := h1 a ha; grind, hu2⟩
/-- the number at which a row is 0 in place i -/
def rootAt (r : Lrow) (v : Nat → Rat) (i : Nat) : Rat := -(r.ev (vset v i 0)) / r.get i
theorem icast_ne {k : Int} (h : k ≠ 0) : (k : Rat) ≠ 0 := fun z => h (Rat.intCast_eq_zero_iff.mp z)
theorem holds_eq_root {r : Lrow} {v : Nat → Rat} {i : Nat} (hi : i = 1 ∨ i = 2 ∨ i = 3) (h : r.get i ≠ 0) (t : Rat) : r.ev (vset v i t) = 0 ↔ t = rootAt r v i := by
  rw [Lrow.ev_vset r v hi]
  unfold rootAt
  have := icast_ne h
  constructor
  · intro z; grind
  · intro z; subst z; grind
theorem holds_gt_root {r : Lrow} {v : Nat → Rat} {i : Nat} (hi : i = 1 ∨ i = 2 ∨ i = 3) (h : 0 < r.get i) (t : Rat) : 0 < r.ev (vset v i t) ↔ rootAt r v i < t := by
  rw [Lrow.ev_vset r v hi]
  unfold rootAt
  have h' : (0 : Rat) < r.get i := Rat.intCast_pos.mpr h
  rw [Rat.div_lt_iff h']
  constructor <;> intro z <;> grind
theorem holds_lt_root {r : Lrow} {v : Nat → Rat} {i : Nat} (hi : i = 1 ∨ i = 2 ∨ i = 3) (h : r.get i < 0) (t : Rat) : 0 < r.ev (vset v i t) ↔ t < rootAt r v i := by
  rw [Lrow.ev_vset r v hi]
  unfold rootAt
  have h' : (0 : Rat) < -(r.get i : Rat) := by
    have : ((r.get i : Int) : Rat) < 0 := Rat.intCast_neg_iff.mpr h
    grind
  have e : -(r.ev (vset v i 0)) / (r.get i : Rat) = (r.ev (vset v i 0)) / (-(r.get i : Rat)) := by grind
  rw [e, Rat.lt_div_iff h']
  constructor <;> intro z <;> grind
theorem ev_noi {r : Lrow} {v : Nat → Rat} {i : Nat} (hi : i = 1 ∨ i = 2 ∨ i = 3) (h : r.get i = 0) (t : Rat) : r.ev (vset v i t) = r.ev (vset v i 0) := by
  rw [Lrow.ev_vset r v hi, h]; simp; grind
theorem vset_self {v : Nat → Rat} {i : Nat} : vset v i (v i) = v := by
  funext j; unfold vset; split
  · rename_i h; rw [h]
  · rfl
theorem ev_noi' {r : Lrow} {v : Nat → Rat} {i : Nat} (hi : i = 1 ∨ i = 2 ∨ i = 3) (h : r.get i = 0) (t : Rat) : r.ev (vset v i t) = r.ev v := by
  rw [ev_noi hi h]
  have := ev_noi (v := v) hi h (v i)
  rw [vset_self] at this
  exact this.symm
theorem holds_noi {c : Lcnd} {v : Nat → Rat} {i : Nat} (hi : i = 1 ∨ i = 2 ∨ i = 3) (h : c.row.get i = 0) (t : Rat) : c.holds (vset v i t) ↔ c.holds v := by
  unfold Lcnd.holds; rw [ev_noi' hi h]
theorem ev_without {r e : Lrow} {v : Nat → Rat} {i : Nat} (h : e.ev v = 0) : (r.without e i).ev v = ((e.get i).natAbs : Int) * r.ev v := by
  unfold Lrow.without
  rw [Lrow.ev_added, Lrow.ev_scaled, Lrow.ev_scaled, h]; grind
theorem holds_without {r e : Lrow} {b : Bool} {v : Nat → Rat} {i : Nat} (he : e.get i ≠ 0) (h : e.ev v = 0) : Lcnd.holds ⟨r.without e i, b⟩ v ↔ Lcnd.holds ⟨r, b⟩ v :=
  Lcnd.holds_scale (k := ((e.get i).natAbs : Int)) (by omega) (ev_without h)
theorem ev_crossed {l h : Lrow} {v : Nat → Rat} {i : Nat} : (crossed l h i).row.ev v = (-(h.get i : Rat)) * l.ev v + (l.get i : Rat) * h.ev v := by
  unfold crossed
  rw [Lrow.ev_added, Lrow.ev_scaled, Lrow.ev_scaled, Rat.intCast_neg]
theorem get_crossed {l h : Lrow} {i : Nat} : (crossed l h i).row.get i = 0 := by
  unfold crossed
  rw [Lrow.get_added, Lrow.get_scaled, Lrow.get_scaled]; grind
theorem get_crossed_zero {l h : Lrow} {i j : Nat} (h1 : l.get j = 0) (h2 : h.get j = 0) : (crossed l h i).row.get j = 0 := by
  unfold crossed
  rw [Lrow.get_added, Lrow.get_scaled, Lrow.get_scaled, h1, h2]; simp
theorem mem_lows {cs : List Lcnd} {i : Nat} {r : Lrow} : r ∈ lowsOf cs i ↔ ∃ c ∈ cs, 0 < c.row.get i ∧ c.row = r := by
  unfold lowsOf
  simp only [List.mem_map, List.mem_filter, decide_eq_true_eq, and_assoc, gt_iff_lt]
theorem mem_highs {cs : List Lcnd} {i : Nat} {r : Lrow} : r ∈ highsOf cs i ↔ ∃ c ∈ cs, c.row.get i < 0 ∧ c.row = r := by
  unfold highsOf
  simp only [List.mem_map, List.mem_filter, decide_eq_true_eq, and_assoc]
theorem root_lt_iff {l h : Lrow} {v : Nat → Rat} {i : Nat} (hl : 0 < l.get i) (hh : h.get i < 0) : rootAt l v i < rootAt h v i ↔ 0 < (crossed l h i).row.ev (vset v i 0) := by
  rw [ev_crossed]
  unfold rootAt
  have h1 : (0 : Rat) < l.get i := Rat.intCast_pos.mpr hl
  have h2 : (0 : Rat) < -(h.get i : Rat) := by
    have : ((h.get i : Int) : Rat) < 0 := Rat.intCast_neg_iff.mpr hh
    grind
  have e : -(h.ev (vset v i 0)) / (h.get i : Rat) = (h.ev (vset v i 0)) / (-(h.get i : Rat)) := by grind
  rw [e, Rat.lt_div_iff h2, Rat.div_def]
  generalize l.ev (vset v i 0) = p
  generalize h.ev (vset v i 0) = q
  generalize (l.get i : Rat) = a at *
  generalize -(h.get i : Rat) = b at *
  have : -p * a⁻¹ * b = (-p * b) / a := by grind
  rw [this, Rat.div_lt_iff h1]
  constructor <;> intro z <;> grind
/-- no number in place i is needed any more -/
theorem reduced_iff {cs : List Lcnd} {i : Nat} (hi : i = 1 ∨ i = 2 ∨ i = 3) {v : Nat → Rat} : All (reduced cs i) v ↔ ∃ t, All cs (vset v i t) := by
  unfold reduced
  split
  · rename_i e es he
    have hm : e ∈ (cs.filter fun c => !c.strict && decide (c.row.get i ≠ 0)).map (·.row) := by rw [he]; exact List.mem_cons_self
    obtain ⟨ce, hce, rfl⟩ := List.mem_map.mp hm
    obtain ⟨hc, hs⟩ := List.mem_filter.mp hce
    simp only [Bool.and_eq_true, Bool.not_eq_true', decide_eq_true_eq] at hs
    obtain ⟨hs, hg⟩ := hs
    rw [all_unlike]
    have hz : ∀ t, All cs (vset v i t) → t = rootAt ce.row v i := fun t h => by
      have := h ce hc
      unfold Lcnd.holds at this
      rw [hs] at this
      exact (holds_eq_root hi hg t).mp (by simpa using this)
    have he0 : ce.row.ev (vset v i (rootAt ce.row v i)) = 0 := (holds_eq_root hi hg _).mpr rfl
    constructor
    · intro h
      refine ⟨rootAt ce.row v i, fun c hcc => ?_⟩
      by_cases hq : decide (c.row ≠ ce.row) || c.strict
      · have h1 := h _ (List.mem_map.mpr ⟨c, List.mem_filter.mpr ⟨hcc, hq⟩, rfl⟩)
        have h2 := (holds_noi (v := v) hi (Lrow.get_without_self c.row ce.row hg) (rootAt ce.row v i)).mpr h1
        exact (holds_without hg he0).mp h2
      · simp only [Bool.or_eq_true, decide_eq_true_eq, not_or, Decidable.not_not, Bool.not_eq_true] at hq
        unfold Lcnd.holds
        rw [hq.2, hq.1]
        simpa using he0
    · rintro ⟨t, h⟩ d hd
      obtain ⟨c, hcc, rfl⟩ := List.mem_map.mp hd
      have ht := hz t h
      subst ht
      have h1 := (holds_without (b := c.strict) hg he0).mpr (h c (List.mem_filter.mp hcc).1)
      exact (holds_noi hi (Lrow.get_without_self c.row ce.row hg) _).mp h1
  · rename_i he
    have hno : ∀ c ∈ cs, c.strict = true ∨ c.row.get i = 0 := fun c hc => by
      by_cases h1 : c.strict
      · exact .inl h1
      · by_cases h2 : c.row.get i = 0
        · exact .inr h2
        · have : c.row ∈ (cs.filter fun c => !c.strict && decide (c.row.get i ≠ 0)).map (·.row) := List.mem_map.mpr ⟨c, List.mem_filter.mpr ⟨hc, by simp [h1, h2]⟩, rfl⟩
          rw [he] at this; cases this
    rw [all_unlike]
    constructor
    · intro h
      have hlow : ∀ l ∈ (lowsOf cs i).map (rootAt · v i), ∀ u ∈ (highsOf cs i).map (rootAt · v i), l < u := by
        intro l hl u hu
        obtain ⟨r, hr, rfl⟩ := List.mem_map.mp hl
        obtain ⟨s, hs, rfl⟩ := List.mem_map.mp hu
        obtain ⟨c1, _, g1, e1⟩ := mem_lows.mp hr
        obtain ⟨c2, _, g2, e2⟩ := mem_highs.mp hs
        rw [root_lt_iff (by rw [← e1]; exact g1) (by rw [← e2]; exact g2)]
        have := h (crossed r s i) (List.mem_append.mpr (.inr (List.mem_flatMap.mpr ⟨r, hr, List.mem_map.mpr ⟨s, hs, rfl⟩⟩)))
        rw [ev_noi' hi get_crossed]
        unfold Lcnd.holds at this
        exact this
      obtain ⟨t, h1, h2⟩ := between_ex _ _ hlow
      refine ⟨t, fun c hc => ?_⟩
      rcases Int.lt_trichotomy (c.row.get i) 0 with z | z | z
      · have hs : c.strict = true := (hno c hc).resolve_right (by omega)
        unfold Lcnd.holds
        rw [hs]
        exact (holds_lt_root hi z t).mpr (h2 _ (List.mem_map.mpr ⟨c.row, mem_highs.mpr ⟨c, hc, z, rfl⟩, rfl⟩))
      · exact (holds_noi hi z t).mpr (h c (List.mem_append.mpr (.inl (List.mem_filter.mpr ⟨hc, by simp [z]⟩))))
      · have hs : c.strict = true := (hno c hc).resolve_right (by omega)
        unfold Lcnd.holds
        rw [hs]
        exact (holds_gt_root hi z t).mpr (h1 _ (List.mem_map.mpr ⟨c.row, mem_lows.mpr ⟨c, hc, z, rfl⟩, rfl⟩))
    · rintro ⟨t, h⟩ d hd
      rcases List.mem_append.mp hd with hd | hd
      · obtain ⟨hc, hz⟩ := List.mem_filter.mp hd
        exact (holds_noi hi (of_decide_eq_true hz) t).mp (h d hc)
      · obtain ⟨r, hr, hd⟩ := List.mem_flatMap.mp hd
        obtain ⟨s, hs, rfl⟩ := List.mem_map.mp hd
        obtain ⟨c1, m1, g1, rfl⟩ := mem_lows.mp hr
        obtain ⟨c2, m2, g2, rfl⟩ := mem_highs.mp hs
        have hs1 : c1.strict = true := (hno c1 m1).resolve_right (by omega)
        have hs2 : c2.strict = true := (hno c2 m2).resolve_right (by omega)
        have k1 := h c1 m1
        have k2 := h c2 m2
        unfold Lcnd.holds at k1 k2
        rw [hs1] at k1
        rw [hs2] at k2
        have a1 := (holds_gt_root hi g1 t).mp (by simpa using k1)
        have a2 := (holds_lt_root hi g2 t).mp (by simpa using k2)
        have := (root_lt_iff (v := v) g1 g2).mp (by grind)
        rw [ev_noi' hi get_crossed] at this
        exact this
/-- no place i in them -/
def NoAt (cs : List Lcnd) (i : Nat) : Prop := ∀ c ∈ cs, c.row.get i = 0
theorem noAt_unlike {cs : List Lcnd} {i : Nat} (h : NoAt cs i) : NoAt (unlike cs) i := fun d hd => by
  obtain ⟨c, hc, rfl⟩ := mem_unlike.mp hd
  exact lowered_get (h c hc)
theorem reduced_no {cs : List Lcnd} {i : Nat} : NoAt (reduced cs i) i := by
  unfold reduced
  split
  · rename_i e es he
    have hm : e ∈ (cs.filter fun c => !c.strict && decide (c.row.get i ≠ 0)).map (·.row) := by rw [he]; exact List.mem_cons_self
    obtain ⟨ce, hce, rfl⟩ := List.mem_map.mp hm
    obtain ⟨hc, hs⟩ := List.mem_filter.mp hce
    simp only [Bool.and_eq_true, Bool.not_eq_true', decide_eq_true_eq] at hs
    refine noAt_unlike fun d hd => ?_
    obtain ⟨c, hcc, rfl⟩ := List.mem_map.mp hd
    exact Lrow.get_without_self c.row ce.row hs.2
  · refine noAt_unlike fun d hd => ?_
    rcases List.mem_append.mp hd with hd | hd
    · exact of_decide_eq_true (List.mem_filter.mp hd).2
    · obtain ⟨r, hr, hd⟩ := List.mem_flatMap.mp hd
      obtain ⟨s, hs, rfl⟩ := List.mem_map.mp hd
      exact get_crossed
theorem reduced_keep {cs : List Lcnd} {i j : Nat} (h : NoAt cs j) : NoAt (reduced cs i) j := by
  unfold reduced
  split
  · rename_i e es he
    have hm : e ∈ (cs.filter fun c => !c.strict && decide (c.row.get i ≠ 0)).map (·.row) := by rw [he]; exact List.mem_cons_self
    obtain ⟨ce, hce, rfl⟩ := List.mem_map.mp hm
    obtain ⟨hc, hs⟩ := List.mem_filter.mp hce
    refine noAt_unlike fun d hd => ?_
    obtain ⟨c, hcc, rfl⟩ := List.mem_map.mp hd
    exact Lrow.get_without_zero c.row ce.row (h c (List.mem_filter.mp hcc).1) (h ce hc)
  · refine noAt_unlike fun d hd => ?_
    rcases List.mem_append.mp hd with hd | hd
    · exact h d (List.mem_filter.mp hd).1
    · obtain ⟨r, hr, hd⟩ := List.mem_flatMap.mp hd
      obtain ⟨s, hs, rfl⟩ := List.mem_map.mp hd
      obtain ⟨c1, m1, g1, rfl⟩ := mem_lows.mp hr
      obtain ⟨c2, m2, g2, rfl⟩ := mem_highs.mp hs
      exact get_crossed_zero (h c1 m1) (h c2 m2)
def isPlainly (cs : List Lcnd) : Bool := cs.all fun c => if c.strict then decide (0 < c.row.p0) else decide (c.row.p0 = 0)
theorem isPlainly_iff {cs : List Lcnd} (h1 : NoAt cs 1) (h2 : NoAt cs 2) (h3 : NoAt cs 3) (v : Nat → Rat) : isPlainly cs = true ↔ All cs v := by
  unfold isPlainly All
  rw [List.all_eq_true]
  have key : ∀ c ∈ cs, (if c.strict then decide (0 < c.row.p0) else decide (c.row.p0 = 0)) = true ↔ c.holds v := fun c hc => by
    have e : c.row.ev v = c.row.p0 := by
      have a := h1 c hc; have b := h2 c hc; have d := h3 c hc
      simp only [Lrow.get] at a b d
      unfold Lrow.ev
      rw [a, b, d]; simp; grind
    unfold Lcnd.holds
    rw [e]
    cases c.strict
    · simp [Rat.intCast_eq_zero_iff]
    · simp [Rat.intCast_pos]
  exact ⟨fun h c hc => (key c hc).mp (h c hc), fun h c hc => (key c hc).mpr (h c hc)⟩
def isPossible (cs : List Lcnd) : Bool := isPlainly (reduced (reduced cs 2) 1)
/-- x and y as places 1 and 2 -/
def at2 (x y : Rat) : Nat → Rat := fun j => if j = 1 then x else if j = 2 then y else 0
theorem isPossible_iff {cs : List Lcnd} (h3 : NoAt cs 3) : isPossible cs = true ↔ ∃ x y, All cs (at2 x y) := by
  unfold isPossible
  rw [isPlainly_iff reduced_no (reduced_keep reduced_no) (reduced_keep (reduced_keep h3)) (at2 0 0), reduced_iff (.inl rfl)]
  constructor
  · rintro ⟨x, h⟩
    obtain ⟨y, h⟩ := (reduced_iff (.inr (.inl rfl))).mp h
    refine ⟨x, y, ?_⟩
    have : vset (vset (at2 0 0) 1 x) 2 y = at2 x y := by
      funext j; unfold vset at2; grind
    rw [← this]; exact h
  · rintro ⟨x, y, h⟩
    refine ⟨x, (reduced_iff (.inr (.inl rfl))).mpr ⟨y, ?_⟩⟩
    have : vset (vset (at2 0 0) 1 x) 2 y = at2 x y := by
      funext j; unfold vset at2; grind
    rw [this]; exact h
end Li

set_option linter.all false
set_option maxHeartbeats 400000
namespace Li
/-! The pieces of a script, with told minutes, and with unknown ones. -/
/-! ### told minutes -/
structure CP where
  len : Rat
  l : Bool
  r : Bool
  deriving DecidableEq, Inhabited
def CP.fl (p : CP) : Nat := p.l.toNat + p.r.toNat
def CP.out : CP := ⟨0, false, false⟩
def CP.rest (p : CP) : Rat := p.len / p.fl
/-- the first pieces that go out, of those from a place on -/
def firstsFrom (ps : List CP) : Nat → List CP → Option (Rat × List Nat)
  | _, [] => none
  | i, p :: r => match firstsFrom ps (i + 1) r with
    | none => if p.fl > 0 then some (p.rest, [i]) else none
    | some (t, is) => if p.fl > 0 then (if p.rest < t then some (p.rest, [i]) else if p.rest = t then some (t, i :: is) else some (t, is)) else some (t, is)
structure CS where
  pieces : List CP
  clock : Rat
  heard : List Rat
  gone : List (Rat × List Nat)
  deriving DecidableEq, Inhabited
/-- which pieces burn -/
def burning (ps : List CP) : List Nat := (List.range ps.length).filter fun i => decide (0 < (ps.getD i .out).fl)
/-- the least of what is left -/
def leastRest (ps : List CP) : List Nat → Option Rat
  | [] => none
  | i :: r => match leastRest ps r with
    | none => some (ps.getD i .out).rest
    | some t => some (min (ps.getD i .out).rest t)
def goneOf (ps : List CP) (t : Rat) : List Nat := (burning ps).filter fun i => decide ((ps.getD i .out).rest = t)
def burntC (t : Rat) (p : CP) : CP := ⟨p.len - t * p.fl, p.l, p.r⟩
def behindC (ps : List CP) (t : Rat) (gone : List Nat) : List CP := (List.range ps.length).map fun i => if i ∈ gone then .out else burntC t (ps.getD i .out)
def cfirst (s : CS) : CS := match leastRest s.pieces (burning s.pieces) with
  | none => s
  | some t => ⟨behindC s.pieces t (goneOf s.pieces t), s.clock + t, s.heard, s.gone ++ [(s.clock + t, goneOf s.pieces t)]⟩
def flAt (ps : List CP) (i : Nat) : Nat := (ps.getD i .out).fl
def cwait : Nat → Nat → CS → CS
  | 0, _, s => s
  | n + 1, i, s => if flAt s.pieces i = 0 then s else cwait n i (cfirst s)
def clit (p : CP) (left : Bool) : CP := if p.len = 0 then p else ⟨p.len, p.l || left, p.r || !left⟩
def cquench (p : CP) : CP := ⟨p.len, false, false⟩
def csplit (ps : List CP) (i : Nat) (m : Rat) : Option (List CP) :=
  let p := ps.getD i .out
  if p.len = 0 then (if m = 0 then some (ps ++ [.out]) else none)
  else if 0 < m ∧ 0 < p.len - m then some (ps.set i ⟨m, p.l, true⟩ ++ [⟨p.len - m, true, p.r⟩]) else none
/-! ### unknown minutes -/
structure SP where
  len : Amt
  l : Bool
  r : Bool
  deriving DecidableEq, Inhabited
def SP.fl (p : SP) : Nat := p.l.toNat + p.r.toNat
def SP.out : SP := ⟨.nothing, false, false⟩
def SP.at (p : SP) (x y : Rat) : CP := ⟨p.len.val x y, p.l, p.r⟩
structure SS where
  conds : List Lcnd
  pieces : Option (List SP)
  time : Amt
  rings : List Amt
  moments : List (Amt × List Nat)
  spots : Nat
  deriving DecidableEq, Inhabited
def rowOf (m : Amt) : Lrow := ⟨m.c, m.a, m.b, 0⟩
def positive (m : Amt) : Lcnd := ⟨rowOf m, true⟩
def zero (m : Amt) : Lcnd := ⟨rowOf m, false⟩
def sgn (c : Int) : Int := (if c > 0 then 1 else 0) - (if c < 0 then 1 else 0)
def Amt.neg (m : Amt) : Amt := ⟨-m.c, -m.a, -m.b, m.d⟩
def threeOf (cs : List Lcnd) (m : Amt) : List (List Lcnd × Int) := [(cs ++ [positive m], 1), (cs ++ [zero m], 0), (cs ++ [positive m.neg], -1)].filter fun p => isPossible p.1
def answers (cs : List Lcnd) (m : Amt) : List (List Lcnd × Int) :=
  if m.a = 0 ∧ m.b = 0 then [(cs, sgn m.c)]
  else match threeOf cs m with
    | [p] => [(cs, p.2)]
    | ps => ps
def Gd (cs : List Lcnd) (x y : Rat) : Prop := All cs (at2 x y)
theorem gd_append {cs ds : List Lcnd} {x y : Rat} : Gd (cs ++ ds) x y ↔ Gd cs x y ∧ Gd ds x y := by
  unfold Gd All
  simp only [List.mem_append, or_imp, forall_and]
theorem gd_one {c : Lcnd} {x y : Rat} : Gd [c] x y ↔ c.holds (at2 x y) := by
  unfold Gd All; simp
theorem gd_nil {x y : Rat} : Gd [] x y := by unfold Gd All; simp
theorem ev_rowOf {m : Amt} (h : 0 < m.d) (x y : Rat) : (rowOf m).ev (at2 x y) = m.d * m.val x y := by
  have := Amt.dval h x y
  unfold Lrow.ev rowOf at2
  simp
  grind
theorem holds_positive {m : Amt} (h : 0 < m.d) (x y : Rat) : (positive m).holds (at2 x y) ↔ 0 < m.val x y := by
  unfold Lcnd.holds positive
  simp only [if_true]
  rw [ev_rowOf h]
  exact Rat.mul_pos_iff_of_pos_left (Rat.intCast_pos.mpr h)
theorem holds_zero {m : Amt} (h : 0 < m.d) (x y : Rat) : (zero m).holds (at2 x y) ↔ m.val x y = 0 := by
  unfold Lcnd.holds zero
  simp only [Bool.false_eq_true, if_false]
  rw [ev_rowOf h, Rat.mul_eq_zero]
  have := icast_ne (show m.d ≠ 0 by omega)
  grind
theorem val_neg {m : Amt} (x y : Rat) : m.neg.val x y = -m.val x y := by
  unfold Amt.val Amt.neg
  simp only [Rat.intCast_neg]
  grind
theorem noAt_positive {m : Amt} : (positive m).row.get 3 = 0 := rfl
theorem noAt_zero {m : Amt} : (zero m).row.get 3 = 0 := rfl
theorem noAt_append {cs ds : List Lcnd} {i : Nat} (h : NoAt cs i) (g : NoAt ds i) : NoAt (cs ++ ds) i := fun c hc => (List.mem_append.mp hc).elim (h c) (g c)
theorem noAt_one {c : Lcnd} {i : Nat} (h : c.row.get i = 0) : NoAt [c] i := fun d hd => by rw [List.mem_singleton.mp hd]; exact h
def Sat (cs : List Lcnd) : Prop := ∃ x y, Gd cs x y
/-- a number has this sign -/
def HasSign (q : Rat) (s : Int) : Prop := (s = 1 ∧ 0 < q) ∨ (s = 0 ∧ q = 0) ∨ (s = -1 ∧ q < 0)
theorem hasSign_ex (q : Rat) : ∃ s, HasSign q s := by
  unfold HasSign
  by_cases h : 0 < q
  · exact ⟨1, by simp [h]⟩
  · by_cases h2 : q = 0
    · exact ⟨0, by simp [h2]⟩
    · exact ⟨-1, by right; right; exact ⟨rfl, by grind⟩⟩
theorem hasSign_one {q : Rat} {s t : Int} (h : HasSign q s) (g : HasSign q t) : s = t := by
  unfold HasSign at h g; grind
theorem sgn_has {m : Amt} (h : 0 < m.d) (ha : m.a = 0) (hb : m.b = 0) (x y : Rat) : HasSign (m.val x y) (sgn m.c) := by
  have e := Amt.dval h x y
  rw [ha, hb] at e
  have hd : (0 : Rat) < m.d := Rat.intCast_pos.mpr h
  have e : m.val x y * m.d = m.c := by rw [e]; simp; grind
  unfold HasSign sgn
  rcases Int.lt_trichotomy m.c 0 with z | z | z
  · right; right
    have : (m.c : Rat) < 0 := Rat.intCast_neg_iff.mpr z
    refine ⟨by rw [if_neg (by omega), if_pos z]; rfl, ?_⟩
    rw [← e] at this
    exact (Rat.mul_neg_iff_of_pos_right hd).mp this
  · right; left
    rw [z] at e
    refine ⟨by rw [z]; rfl, ?_⟩
    rcases Rat.mul_eq_zero.mp (by rw [e]; rfl) with h | h
    · exact h
    · exact absurd h (by grind)
  · left
    have : (0 : Rat) < m.c := Rat.intCast_pos.mpr z
    refine ⟨by rw [if_pos z, if_neg (by omega)]; rfl, ?_⟩
    rw [← e] at this
    exact (Rat.mul_pos_iff_of_pos_right hd).mp this
theorem mem_three {cs : List Lcnd} {m : Amt} {p : List Lcnd × Int} (h : p ∈ threeOf cs m) : isPossible p.1 = true ∧ ∃ c : Lcnd, p.1 = cs ++ [c] ∧ c.row.get 3 = 0 ∧ (0 < m.d → ∀ x y, c.holds (at2 x y) → HasSign (m.val x y) p.2) ∧ ((c = positive m ∧ p.2 = 1) ∨ (c = zero m ∧ p.2 = 0) ∨ (c = positive m.neg ∧ p.2 = -1)) := by
  unfold threeOf at h
  obtain ⟨h1, h2⟩ := List.mem_filter.mp h
  refine ⟨h2, ?_⟩
  simp only [List.mem_cons, List.not_mem_nil, or_false] at h1
  rcases h1 with rfl | rfl | rfl
  · exact ⟨positive m, rfl, rfl, fun hd x y g => .inl ⟨rfl, (holds_positive hd x y).mp g⟩, .inl ⟨rfl, rfl⟩⟩
  · exact ⟨zero m, rfl, rfl, fun hd x y g => .inr (.inl ⟨rfl, (holds_zero hd x y).mp g⟩), .inr (.inl ⟨rfl, rfl⟩)⟩
  · refine ⟨positive m.neg, rfl, rfl, fun hd x y g => .inr (.inr ⟨rfl, ?_⟩), .inr (.inr ⟨rfl, rfl⟩)⟩
    have := (holds_positive (m := m.neg) hd x y).mp g
    rw [val_neg] at this
    grind
theorem three_cover {cs : List Lcnd} {m : Amt} (hn : NoAt cs 3) (hd : 0 < m.d) {x y : Rat} (g : Gd cs x y) : ∃ p ∈ threeOf cs m, Gd p.1 x y := by
  have key : ∀ (c : Lcnd) (s : Int), c.row.get 3 = 0 → c.holds (at2 x y) → (cs ++ [c], s) ∈ [(cs ++ [positive m], 1), (cs ++ [zero m], 0), (cs ++ [positive m.neg], -1)] → ∃ p ∈ threeOf cs m, Gd p.1 x y := fun c s h3 hc hm => by
    have hg : Gd (cs ++ [c]) x y := gd_append.mpr ⟨g, gd_one.mpr hc⟩
    exact ⟨_, List.mem_filter.mpr ⟨hm, (isPossible_iff (noAt_append hn (noAt_one h3))).mpr ⟨x, y, hg⟩⟩, hg⟩
  obtain ⟨s, hs⟩ := hasSign_ex (m.val x y)
  rcases hs with ⟨_, h⟩ | ⟨_, h⟩ | ⟨_, h⟩
  · exact key (positive m) 1 rfl ((holds_positive hd x y).mpr h) (by simp)
  · exact key (zero m) 0 rfl ((holds_zero hd x y).mpr h) (by simp)
  · exact key (positive m.neg) (-1) rfl ((holds_positive (m := m.neg) hd x y).mpr (by rw [val_neg]; grind)) (by simp)
structure AnsOk (cs : List Lcnd) (m : Amt) (p : List Lcnd × Int) : Prop where
  no : NoAt p.1 3
  imp : ∀ x y, Gd p.1 x y → Gd cs x y ∧ HasSign (m.val x y) p.2
  sat : Sat cs → Sat p.1
theorem answers_ok {cs : List Lcnd} {m : Amt} (hn : NoAt cs 3) (hd : 0 < m.d) : ∀ p ∈ answers cs m, AnsOk cs m p := by
  intro p hp
  unfold answers at hp
  split at hp
  · rename_i h
    rw [List.mem_singleton.mp hp]
    exact ⟨hn, fun x y g => ⟨g, sgn_has hd h.1 h.2 x y⟩, id⟩
  · split at hp
    · rename_i q hq
      rw [List.mem_singleton.mp hp]
      refine ⟨hn, fun x y g => ⟨g, ?_⟩, id⟩
      obtain ⟨r, hr, hg⟩ := three_cover hn hd g
      rw [hq] at hr
      rw [List.mem_singleton.mp hr] at hg
      obtain ⟨_, c, e, _, h, _⟩ := mem_three (show q ∈ threeOf cs m by rw [hq]; exact List.mem_cons_self)
      rw [e] at hg
      exact h hd x y (gd_one.mp (gd_append.mp hg).2)
    · obtain ⟨h1, c, e, h3, h, _⟩ := mem_three hp
      have hno : NoAt p.1 3 := by rw [e]; exact noAt_append hn (noAt_one h3)
      refine ⟨hno, fun x y g => ?_, fun _ => (isPossible_iff hno).mp h1⟩
      rw [e] at g
      exact ⟨(gd_append.mp g).1, h hd x y (gd_one.mp (gd_append.mp g).2)⟩
theorem answers_cover {cs : List Lcnd} {m : Amt} (hn : NoAt cs 3) (hd : 0 < m.d) {x y : Rat} (g : Gd cs x y) : ∃ p ∈ answers cs m, Gd p.1 x y := by
  unfold answers
  split
  · exact ⟨_, List.mem_singleton.mpr rfl, g⟩
  · split
    · exact ⟨_, List.mem_singleton.mpr rfl, g⟩
    · exact three_cover hn hd g
end Li

set_option linter.all false
set_option maxHeartbeats 400000
namespace Li
/-! ### the first pieces that go out -/
theorem leastRest_some {ps : List CP} : ∀ {is : List Nat} {t : Rat}, leastRest ps is = some t ↔ (∃ i ∈ is, (ps.getD i .out).rest = t) ∧ ∀ i ∈ is, t ≤ (ps.getD i .out).rest
  | [], t => by simp [leastRest]
  | i :: r, t => by
    unfold leastRest
    cases e : leastRest ps r with
    | none =>
      have hr : r = [] := by
        cases r with
        | nil => rfl
        | cons j r =>
          unfold leastRest at e
          split at e <;> cases e
      subst hr
      simp only [Option.some.injEq, List.mem_singleton, exists_eq_left, forall_eq]
      constructor
      · intro h; exact ⟨h, by rw [h]; exact Rat.le_refl⟩
      · intro h; exact h.1
    | some u =>
      obtain ⟨⟨j, hj, hju⟩, hu⟩ := (leastRest_some (is := r) (t := u)).mp e
      simp only [Option.some.injEq, List.mem_cons, exists_eq_or_imp, forall_eq_or_imp]
      constructor
      · intro h
        rw [Rat.min_def] at h
        split at h
        · rename_i hle
          subst h
          exact ⟨.inl rfl, Rat.le_refl, fun k hk => Rat.le_trans hle (hu k hk)⟩
        · rename_i hle
          subst h
          exact ⟨.inr ⟨j, hj, hju⟩, by grind, hu⟩
      · rintro ⟨h1, h2, h3⟩
        have a : t ≤ u := by rw [← hju]; exact h3 j hj
        rw [Rat.min_def]
        split
        · rename_i hle
          rcases h1 with h1 | ⟨k, hk, h1⟩
          · exact h1
          · have := hu k hk; grind
        · rename_i hle
          rcases h1 with h1 | ⟨k, hk, h1⟩
          · subst h1; grind
          · have := hu k hk; grind
theorem leastRest_none {ps : List CP} {is : List Nat} : leastRest ps is = none ↔ is = [] := by
  cases is with
  | nil => simp [leastRest]
  | cons i r => unfold leastRest; split <;> simp
def sburning (ps : List SP) : List Nat := (List.range ps.length).filter fun i => decide (0 < (ps.getD i .out).fl)
def gapOf (p q : SP) : Amt := Amt.minus (Amt.times p.len q.fl 1) (Amt.times q.len p.fl 1)
def soonTurn (ps : List SP) (found : List (List Lcnd × List Nat)) (i : Nat) : List (List Lcnd × List Nat) :=
  found.flatMap fun f => (answers f.1 (gapOf (ps.getD i .out) (ps.getD (f.2.headD 0) .out))).map fun a => (a.1, if a.2 > 0 then f.2 else if a.2 = 0 then f.2 ++ [i] else [i])
def soonest (cs : List Lcnd) (ps : List SP) : List (List Lcnd × List Nat) := match sburning ps with
  | [] => [(cs, [])]
  | b :: bs => bs.foldl (soonTurn ps) [(cs, [b])]
structure PInv (cs : List Lcnd) (ps : List SP) : Prop where
  low : ∀ p ∈ ps, p.len.Low
  out : ∀ p ∈ ps, p.len = .nothing → p.l = false ∧ p.r = false
  pos : ∀ p ∈ ps, p.len ≠ .nothing → ∀ x y, Gd cs x y → 0 < p.len.val x y
theorem PInv.mono {cs ds : List Lcnd} {ps : List SP} (h : PInv cs ps) (i : ∀ x y, Gd ds x y → Gd cs x y) : PInv ds ps := ⟨h.low, h.out, fun p hp hn x y g => h.pos p hp hn x y (i x y g)⟩
theorem getD_mem {ps : List SP} {i : Nat} (h : i < ps.length) : ps.getD i .out ∈ ps := by
  rw [List.getD_eq_getElem?_getD, List.getElem?_eq_getElem h]; exact List.getElem_mem h
theorem out_at (x y : Rat) : SP.out.at x y = CP.out := by
  unfold SP.at SP.out CP.out
  rw [Amt.val_nothing]
theorem map_getD {ps : List SP} {x y : Rat} {i : Nat} : (ps.map (·.at x y)).getD i .out = (ps.getD i .out).at x y := by
  rw [List.getD_eq_getElem?_getD, List.getD_eq_getElem?_getD, List.getElem?_map]
  cases ps[i]? with
  | none => simp [out_at]
  | some p => rfl
theorem fl_at (p : SP) (x y : Rat) : (p.at x y).fl = p.fl := rfl
theorem burning_map {ps : List SP} {x y : Rat} : burning (ps.map (·.at x y)) = sburning ps := by
  unfold burning sburning
  rw [List.length_map]
  refine List.filter_congr fun i _ => ?_
  rw [map_getD, fl_at]
theorem mem_sburning {ps : List SP} {i : Nat} : i ∈ sburning ps ↔ i < ps.length ∧ 0 < (ps.getD i .out).fl := by
  unfold sburning
  rw [List.mem_filter, List.mem_range, decide_eq_true_eq]
theorem natCast_pos' {n : Nat} (h : 0 < n) : (0 : Rat) < (n : Rat) := Rat.natCast_pos.mpr h
theorem val_gap {p q : SP} (hp : p.len.Low) (hq : q.len.Low) (x y : Rat) : (gapOf p q).val x y = p.len.val x y * q.fl - q.len.val x y * p.fl := by
  unfold gapOf
  have h1 := Amt.times_low (m := p.len) hp.pos (t := q.fl) (b := 1) (by decide)
  have h2 := Amt.times_low (m := q.len) hq.pos (t := p.fl) (b := 1) (by decide)
  rw [Amt.val_minus h1.pos h2.pos, Amt.val_times hp.pos (by decide), Amt.val_times hq.pos (by decide)]
  simp only [Rat.intCast_natCast, Rat.intCast_one]
  grind
theorem gap_low {p q : SP} (hp : p.len.Low) (hq : q.len.Low) : (gapOf p q).Low := by
  unfold gapOf
  have h1 := Amt.times_low (m := p.len) hp.pos (t := q.fl) (b := 1) (by decide)
  have h2 := Amt.times_low (m := q.len) hq.pos (t := p.fl) (b := 1) (by decide)
  exact Amt.minus_low h1.pos h2.pos
theorem rest_cmp {a b fa fb : Rat} (ha : 0 < fa) (hb : 0 < fb) : (0 < a * fb - b * fa ↔ b / fb < a / fa) ∧ (a * fb - b * fa = 0 ↔ a / fa = b / fb) := by
  constructor
  · rw [Rat.lt_div_iff ha]
    have : b / fb * fa = (b * fa) / fb := by grind
    rw [this, Rat.div_lt_iff hb]
    constructor <;> intro h <;> grind
  · constructor
    · intro h
      have : a * fb = b * fa := by grind
      grind
    · intro h
      have : a = b / fb * fa := by grind
      grind
/-- how the first pieces look, of those that were looked at -/
structure Soon (cs : List Lcnd) (ps : List SP) (done : List Nat) (f : List Lcnd × List Nat) : Prop where
  no : NoAt f.1 3
  sat : Sat cs → Sat f.1
  imp : ∀ x y, Gd f.1 x y → Gd cs x y
  hd : ∃ i r, f.2 = i :: r
  mem : ∀ i ∈ f.2, i ∈ done
  gone : ∀ x y, Gd f.1 x y → (∀ i ∈ done, ((ps.getD (f.2.headD 0) .out).at x y).rest ≤ ((ps.getD i .out).at x y).rest) ∧
    f.2 = done.filter fun i => decide (((ps.getD i .out).at x y).rest = ((ps.getD (f.2.headD 0) .out).at x y).rest)
theorem soon_turn {cs : List Lcnd} {ps : List SP} {done : List Nat} (hp : PInv cs ps) (hb : ∀ j ∈ done, j ∈ sburning ps) {i : Nat} (hi : i ∈ sburning ps) {found : List (List Lcnd × List Nat)}
    (h : ∀ f ∈ found, Soon cs ps done f) : ∀ f ∈ soonTurn ps found i, Soon cs ps (done ++ [i]) f := by
  intro g hg
  unfold soonTurn at hg
  obtain ⟨f, hf, hg⟩ := List.mem_flatMap.mp hg
  obtain ⟨a, ha, rfl⟩ := List.mem_map.mp hg
  obtain ⟨no, sat, imp, ⟨i0, r0, e0⟩, mem, gone⟩ := h f hf
  have hi0 : i0 ∈ done := mem i0 (by rw [e0]; exact List.mem_cons_self)
  have hd0 : f.2.headD 0 = i0 := by rw [e0]; rfl
  rw [hd0] at ha gone
  have hbi := mem_sburning.mp hi
  have hb0 := mem_sburning.mp (hb i0 hi0)
  have lowi := hp.low _ (getD_mem hbi.1)
  have low0 := hp.low _ (getD_mem hb0.1)
  have ok := answers_ok no (gap_low lowi low0).pos a ha
  have cmp : ∀ x y, Gd a.1 x y → HasSign (((ps.getD i .out).at x y).rest - ((ps.getD i0 .out).at x y).rest) a.2 := fun x y g => by
    have h1 := (ok.imp x y g).2
    rw [val_gap lowi low0] at h1
    have c := rest_cmp (a := (ps.getD i .out).len.val x y) (b := (ps.getD i0 .out).len.val x y) (natCast_pos' hbi.2) (natCast_pos' hb0.2)
    unfold CP.rest
    rw [fl_at, fl_at]
    show HasSign ((ps.getD i .out).len.val x y / ((ps.getD i .out).fl : Rat) - (ps.getD i0 .out).len.val x y / ((ps.getD i0 .out).fl : Rat)) a.2
    unfold HasSign at h1 ⊢
    rcases h1 with ⟨e, h⟩ | ⟨e, h⟩ | ⟨e, h⟩
    · left; exact ⟨e, by have := c.1.mp h; grind⟩
    · right; left; exact ⟨e, by have := c.2.mp h; grind⟩
    · right; right
      refine ⟨e, ?_⟩
      have h2 : ¬ (0 : Rat) < (ps.getD i .out).len.val x y * ((ps.getD i0 .out).fl : Rat) - (ps.getD i0 .out).len.val x y * ((ps.getD i .out).fl : Rat) := by grind
      have h3 : ¬ (ps.getD i .out).len.val x y * ((ps.getD i0 .out).fl : Rat) - (ps.getD i0 .out).len.val x y * ((ps.getD i .out).fl : Rat) = 0 := by grind
      rw [c.1] at h2
      rw [c.2] at h3
      grind
  have ext : ∀ x y, Gd a.1 x y → Gd f.1 x y := fun x y g => (ok.imp x y g).1
  refine ⟨ok.no, fun s => ok.sat (sat s), fun x y g => imp x y (ext x y g), ?_, ?_, fun x y g => ?_⟩
  · show ∃ j r, (if a.2 > 0 then f.2 else if a.2 = 0 then f.2 ++ [i] else [i]) = j :: r
    split
    · exact ⟨i0, r0, e0⟩
    · split
      · exact ⟨i0, r0 ++ [i], by rw [e0]; rfl⟩
      · exact ⟨i, [], rfl⟩
  · show ∀ j ∈ (if a.2 > 0 then f.2 else if a.2 = 0 then f.2 ++ [i] else [i]), j ∈ done ++ [i]
    intro j hj
    split at hj
    · exact List.mem_append.mpr (.inl (mem j hj))
    · split at hj
      · rcases List.mem_append.mp hj with hj | hj
        · exact List.mem_append.mpr (.inl (mem j hj))
        · exact List.mem_append.mpr (.inr hj)
      · exact List.mem_append.mpr (.inr hj)
  · obtain ⟨g1, g2⟩ := gone x y (ext x y g)
    have c := cmp x y g
    generalize hR : (fun j => ((ps.getD j .out).at x y).rest) = R
    have eR : ∀ j, ((ps.getD j .out).at x y).rest = R j := fun j => by rw [← hR]
    simp only [eR] at g1 g2 c ⊢
    unfold HasSign at c
    rcases c with ⟨e, c⟩ | ⟨e, c⟩ | ⟨e, c⟩
    · rw [if_pos (by omega)]
      rw [hd0]
      refine ⟨fun j hj => ?_, ?_⟩
      · rcases List.mem_append.mp hj with hj | hj
        · exact g1 j hj
        · rw [List.mem_singleton.mp hj]; grind
      · rw [List.filter_append, ← g2]
        have : decide (R i = R i0) = false := decide_eq_false (by grind)
        simp [this]
    · rw [if_neg (by omega), if_pos e]
      have hh : (f.2 ++ [i]).headD 0 = i0 := by rw [e0]; rfl
      rw [hh]
      refine ⟨fun j hj => ?_, ?_⟩
      · rcases List.mem_append.mp hj with hj | hj
        · exact g1 j hj
        · rw [List.mem_singleton.mp hj]; grind
      · rw [List.filter_append, ← g2]
        have : decide (R i = R i0) = true := decide_eq_true (by grind)
        simp [this]
    · rw [if_neg (by omega), if_neg (by omega)]
      show (∀ j ∈ done ++ [i], R i ≤ R j) ∧ [i] = (done ++ [i]).filter fun j => decide (R j = R i)
      refine ⟨fun j hj => ?_, ?_⟩
      · rcases List.mem_append.mp hj with hj | hj
        · have := g1 j hj; grind
        · rw [List.mem_singleton.mp hj]; exact Rat.le_refl
      · rw [List.filter_append]
        have h0 : done.filter (fun j => decide (R j = R i)) = [] := by
          rw [List.filter_eq_nil_iff]
          intro j hj
          have := g1 j hj
          simp only [decide_eq_true_eq]
          grind
        rw [h0]
        simp
theorem soon_turn_cover {cs : List Lcnd} {ps : List SP} {done : List Nat} (hp : PInv cs ps) (hb : ∀ j ∈ done, j ∈ sburning ps) {i : Nat} (hi : i ∈ sburning ps) {found : List (List Lcnd × List Nat)}
    (h : ∀ f ∈ found, Soon cs ps done f) {x y : Rat} (hc : ∃ f ∈ found, Gd f.1 x y) : ∃ f ∈ soonTurn ps found i, Gd f.1 x y := by
  obtain ⟨f, hf, g⟩ := hc
  obtain ⟨no, sat, imp, ⟨i0, r0, e0⟩, mem, gone⟩ := h f hf
  have hi0 : i0 ∈ done := mem i0 (by rw [e0]; exact List.mem_cons_self)
  have hd0 : f.2.headD 0 = i0 := by rw [e0]; rfl
  have lowi := hp.low _ (getD_mem (mem_sburning.mp hi).1)
  have low0 := hp.low _ (getD_mem (mem_sburning.mp (hb i0 hi0)).1)
  obtain ⟨p, hp, gp⟩ := answers_cover no (gap_low lowi low0).pos g
  unfold soonTurn
  exact ⟨_, List.mem_flatMap.mpr ⟨f, hf, List.mem_map.mpr ⟨p, by rw [hd0]; exact hp, rfl⟩⟩, gp⟩
theorem soon_fold {cs : List Lcnd} {ps : List SP} (hp : PInv cs ps) : ∀ (bs done : List Nat) (found : List (List Lcnd × List Nat)), (∀ j ∈ done, j ∈ sburning ps) → (∀ j ∈ bs, j ∈ sburning ps) → (∀ f ∈ found, Soon cs ps done f) →
    (∀ f ∈ bs.foldl (soonTurn ps) found, Soon cs ps (done ++ bs) f) ∧ ∀ x y, (∃ f ∈ found, Gd f.1 x y) → ∃ f ∈ bs.foldl (soonTurn ps) found, Gd f.1 x y
  | [], done, found, _, _, h => by
    rw [List.foldl_nil, List.append_nil]; exact ⟨h, fun _ _ hc => hc⟩
  | b :: bs, done, found, hd, hb, h => by
    rw [List.foldl_cons]
    have hd' : ∀ j ∈ done ++ [b], j ∈ sburning ps := fun j hj => by
      rcases List.mem_append.mp hj with hj | hj
      · exact hd j hj
      · rw [List.mem_singleton.mp hj]; exact hb b List.mem_cons_self
    have := soon_fold hp bs (done ++ [b]) _ hd' (fun j hj => hb j (List.mem_cons_of_mem _ hj)) (soon_turn hp hd (hb b List.mem_cons_self) h)
    rw [List.append_assoc] at this
    exact ⟨this.1, fun x y hc => this.2 x y (soon_turn_cover hp hd (hb b List.mem_cons_self) h hc)⟩
/-- what soonest tells -/
structure SoonOk (cs : List Lcnd) (ps : List SP) (f : List Lcnd × List Nat) : Prop where
  no : NoAt f.1 3
  sat : Sat cs → Sat f.1
  imp : ∀ x y, Gd f.1 x y → Gd cs x y
  nil : f.2 = [] ↔ sburning ps = []
  mem : ∀ i ∈ f.2, i ∈ sburning ps
  gone : ∀ x y, Gd f.1 x y → f.2 ≠ [] → leastRest (ps.map (·.at x y)) (sburning ps) = some ((ps.getD (f.2.headD 0) .out).at x y).rest ∧ f.2 = goneOf (ps.map (·.at x y)) ((ps.getD (f.2.headD 0) .out).at x y).rest
theorem soonest_ok {cs : List Lcnd} {ps : List SP} (hn : NoAt cs 3) (hp : PInv cs ps) : (∀ f ∈ soonest cs ps, SoonOk cs ps f) ∧ ∀ x y, Gd cs x y → ∃ f ∈ soonest cs ps, Gd f.1 x y := by
  unfold soonest
  split
  · rename_i e
    refine ⟨fun f hf => ?_, fun x y g => ⟨_, List.mem_singleton.mpr rfl, g⟩⟩
    rw [List.mem_singleton.mp hf]
    exact ⟨hn, id, fun _ _ g => g, by simp [e], by simp, fun _ _ _ h => absurd rfl h⟩
  · rename_i b bs e
    have hb : ∀ j ∈ b :: bs, j ∈ sburning ps := fun j hj => by rw [e]; exact hj
    have h0 : ∀ f ∈ [(cs, [b])], Soon cs ps [b] f := fun f hf => by
      rw [List.mem_singleton.mp hf]
      refine ⟨hn, id, fun _ _ g => g, ⟨b, [], rfl⟩, fun i hi => hi, fun x y _ => ⟨fun i hi => ?_, ?_⟩⟩
      · rw [List.mem_singleton.mp hi]; exact Rat.le_refl
      · simp
    have := soon_fold hp bs [b] [(cs, [b])] (fun j hj => hb j (by rw [List.mem_singleton.mp hj]; exact List.mem_cons_self)) (fun j hj => hb j (List.mem_cons_of_mem _ hj)) h0
    refine ⟨fun f hf => ?_, fun x y g => this.2 x y ⟨_, List.mem_singleton.mpr rfl, g⟩⟩
    obtain ⟨no, sat, imp, ⟨i0, r0, e0⟩, mem, gone⟩ := this.1 f hf
    have eb : [b] ++ bs = sburning ps := by rw [e]; rfl
    rw [eb] at mem gone
    refine ⟨no, sat, imp, by rw [e0, e]; simp, mem, fun x y g _ => ?_⟩
    obtain ⟨g1, g2⟩ := gone x y g
    have hd0 : f.2.headD 0 = i0 := by rw [e0]; rfl
    refine ⟨leastRest_some.mpr ⟨⟨i0, mem i0 (by rw [e0]; exact List.mem_cons_self), by rw [map_getD, hd0]⟩, fun i hi => by rw [map_getD]; exact g1 i hi⟩, ?_⟩
    unfold goneOf
    rw [burning_map]
    have : (fun i => decide ((((ps.map (fun p : SP => p.at x y)).getD i CP.out).rest) = ((ps.getD (f.2.headD 0) .out).at x y).rest)) = fun i => decide (((ps.getD i .out).at x y).rest = ((ps.getD (f.2.headD 0) .out).at x y).rest) := by
      funext i; rw [map_getD]
    rw [this]
    exact g2
end Li

set_option linter.all false
set_option maxHeartbeats 400000
namespace Li
/-! ### steps of a state -/
def SS.ev (s : SS) (x y : Rat) : Option CS := s.pieces.map fun ps => ⟨ps.map (·.at x y), s.time.val x y, s.rings.map (·.val x y), s.moments.map fun m => (m.1.val x y, m.2)⟩
structure SS.Inv (s : SS) : Prop where
  no : NoAt s.conds 3
  sat : Sat s.conds
  pi : ∀ ps, s.pieces = some ps → PInv s.conds ps
  tm : s.time.Low
  rg : ∀ m ∈ s.rings, m.Low
  mo : ∀ m ∈ s.moments, m.1.Low
/-- a state's later states, and what happens meanwhile -/
structure Later (s : SS) (f : Rat → Rat → CS → Option CS) (k : Nat) (L : List SS) : Prop where
  inv : ∀ t ∈ L, t.Inv
  sp : ∀ t ∈ L, t.pieces ≠ none → s.pieces ≠ none ∧ t.spots = s.spots + k
  ev : ∀ t ∈ L, ∀ x y, Gd t.conds x y → Gd s.conds x y ∧ t.ev x y = (s.ev x y).bind (f x y)
  cov : ∀ x y, 0 ≤ x → 0 ≤ y → Gd s.conds x y → ∃ t ∈ L, Gd t.conds x y
theorem Later.nil {s : SS} (h : s.Inv) : Later s (fun _ _ => some) 0 [s] := by
  refine ⟨fun t ht => ?_, fun t ht => ?_, fun t ht x y g => ?_, fun x y _ _ g => ⟨s, List.mem_singleton.mpr rfl, g⟩⟩
  · rw [List.mem_singleton.mp ht]; exact h
  · rw [List.mem_singleton.mp ht]; exact fun h => ⟨h, rfl⟩
  · rw [List.mem_singleton.mp ht] at g ⊢
    exact ⟨g, by simp⟩
theorem Later.bind {s : SS} {f g : Rat → Rat → CS → Option CS} {k j : Nat} {L : List SS} {G : SS → List SS} (h : Later s f k L) (h2 : ∀ t ∈ L, Later t g j (G t)) : Later s (fun x y c => (f x y c).bind (g x y)) (k + j) (L.flatMap G) := by
  refine ⟨fun u hu => ?_, fun u hu hp => ?_, fun u hu x y gd => ?_, fun x y hx hy gd => ?_⟩
  · obtain ⟨t, ht, hu⟩ := List.mem_flatMap.mp hu
    exact (h2 t ht).inv u hu
  · obtain ⟨t, ht, hu⟩ := List.mem_flatMap.mp hu
    obtain ⟨q1, e1⟩ := (h2 t ht).sp u hu hp
    obtain ⟨q2, e2⟩ := h.sp t ht q1
    exact ⟨q2, by omega⟩
  · obtain ⟨t, ht, hu⟩ := List.mem_flatMap.mp hu
    obtain ⟨g1, e1⟩ := (h2 t ht).ev u hu x y gd
    obtain ⟨g2, e2⟩ := h.ev t ht x y g1
    refine ⟨g2, ?_⟩
    rw [e1, e2, Option.bind_assoc]
  · obtain ⟨t, ht, g1⟩ := h.cov x y hx hy gd
    obtain ⟨u, hu, g2⟩ := (h2 t ht).cov x y hx hy g1
    exact ⟨u, List.mem_flatMap.mpr ⟨t, ht, hu⟩, g2⟩
theorem Later.congr {s : SS} {f g : Rat → Rat → CS → Option CS} {k : Nat} {L : List SS} (h : Later s f k L) (e : ∀ x y c, Gd s.conds x y → s.ev x y = some c → f x y c = g x y c) : Later s g k L := by
  refine ⟨h.inv, h.sp, fun t ht x y gd => ?_, h.cov⟩
  obtain ⟨g1, e1⟩ := h.ev t ht x y gd
  refine ⟨g1, ?_⟩
  rw [e1]
  cases hc : s.ev x y with
  | none => rfl
  | some c => exact e x y c g1 hc
def passedOf (p : SP) : Amt := Amt.times p.len 1 p.fl
def burntS (t : Amt) (p : SP) : SP := ⟨Amt.minus p.len (Amt.times t p.fl 1), p.l, p.r⟩
def behindS (ps : List SP) (t : Amt) (gone : List Nat) : List SP := (List.range ps.length).map fun i => if i ∈ gone then .out else burntS t (ps.getD i .out)
def firstOut1 (s : SS) (ps : List SP) (f : List Lcnd × List Nat) : SS :=
  if f.2 = [] then s else
    let passed := passedOf (ps.getD (f.2.headD 0) .out)
    let now := Amt.plus s.time passed
    ⟨f.1, some (behindS ps passed f.2), now, s.rings, s.moments ++ [(now, f.2)], s.spots⟩
def firstOut (s : SS) : List SS := match s.pieces with
  | none => [s]
  | some ps => (soonest s.conds ps).map (firstOut1 s ps)
def waited : Nat → SS → Nat → List SS
  | 0, _, _ => []
  | n + 1, s, i => match s.pieces with
    | none => [s]
    | some ps => if (ps.getD i .out).fl = 0 then [s] else (firstOut s).flatMap fun t => waited n t i
theorem low_zero {m : Amt} (h : m.Low) (hc : m.c = 0) (ha : m.a = 0) (hb : m.b = 0) : m = .nothing := by
  have e := Amt.low_const h ha hb
  have : m.val 0 0 = 0 := by unfold Amt.val; rw [hc, ha, hb]; simp only [Rat.intCast_zero]; grind
  rw [e, this]
  rfl
theorem times_zero {m : Amt} (h : 0 < m.d) : Amt.times m 0 1 = .nothing := by
  refine low_zero (Amt.times_low h (by decide)) ?_ ?_ ?_ <;> (unfold Amt.times Amt.whole; simp)
theorem fl_cases (p : SP) : p.fl = 0 ∧ p.l = false ∧ p.r = false ∨ 0 < p.fl := by
  unfold SP.fl
  cases p.l <;> cases p.r <;> simp
theorem burnt_at {t : Amt} {p : SP} (ht : 0 < t.d) (hp : p.len.Low) (x y : Rat) : (burntS t p).at x y = burntC (t.val x y) (p.at x y) := by
  unfold burntS SP.at burntC
  have h1 := Amt.times_low (m := t) ht (t := p.fl) (b := 1) (by decide)
  simp only
  rw [Amt.val_minus hp.pos h1.pos, Amt.val_times ht (by decide)]
  simp only [Rat.intCast_natCast, Rat.intCast_one]
  congr 1
  show _ = p.len.val x y - t.val x y * (p.fl : Rat)
  grind
theorem getD_behindS {ps : List SP} {t : Amt} {gone : List Nat} {i : Nat} (h : i < ps.length) : (behindS ps t gone).getD i .out = if i ∈ gone then .out else burntS t (ps.getD i .out) := by
  unfold behindS
  rw [List.getD_eq_getElem?_getD, List.getElem?_map, List.getElem?_range h]
  rfl
theorem length_behindS {ps : List SP} {t : Amt} {gone : List Nat} : (behindS ps t gone).length = ps.length := by
  unfold behindS; simp
theorem ss_at_pos {cs : List Lcnd} {ps : List SP} (h : PInv cs ps) {i : Nat} (hi : i ∈ sburning ps) {x y : Rat} (g : Gd cs x y) : 0 < (ps.getD i .out).len.val x y := by
  obtain ⟨h1, h2⟩ := mem_sburning.mp hi
  have hm := getD_mem h1
  refine h.pos _ hm (fun e => ?_) x y g
  obtain ⟨a, b⟩ := h.out _ hm e
  unfold SP.fl at h2
  rw [a, b] at h2
  simp at h2
theorem firstOut_one {s : SS} (hI : s.Inv) {ps : List SP} (hps : s.pieces = some ps) {f : List Lcnd × List Nat} (ok : SoonOk s.conds ps f) :
    (firstOut1 s ps f).Inv ∧ (firstOut1 s ps f).pieces ≠ none ∧ (firstOut1 s ps f).spots = s.spots ∧ ∀ x y, Gd (firstOut1 s ps f).conds x y → Gd s.conds x y ∧ (firstOut1 s ps f).ev x y = (s.ev x y).bind fun c => some (cfirst c) := by
  have hP := hI.pi ps hps
  unfold firstOut1
  split
  · rename_i e
    refine ⟨hI, by rw [hps]; simp, rfl, fun x y g => ⟨g, ?_⟩⟩
    have hb := ok.nil.mp e
    unfold SS.ev
    rw [hps]
    simp only [Option.map_some, Option.bind_some, cfirst]
    rw [burning_map, hb]
    rfl
  · rename_i e
    have hne : f.2 ≠ [] := e
    obtain ⟨i0, r0, e0⟩ : ∃ i r, f.2 = i :: r := by
      cases h : f.2 with
      | nil => exact absurd h hne
      | cons a b => exact ⟨a, b, rfl⟩
    have hd0 : f.2.headD 0 = i0 := by rw [e0]; rfl
    have hb0 := ok.mem i0 (by rw [e0]; exact List.mem_cons_self)
    obtain ⟨hl0, hf0⟩ := mem_sburning.mp hb0
    have hm0 := getD_mem hl0
    have low0 := hP.low _ hm0
    simp only [hd0]
    have lowp : (passedOf (ps.getD i0 .out)).Low := Amt.times_low low0.pos (by omega)
    have vp : ∀ x y, (passedOf (ps.getD i0 .out)).val x y = ((ps.getD i0 .out).at x y).rest := fun x y => by
      unfold passedOf
      rw [Amt.val_times low0.pos (by omega)]
      unfold CP.rest
      rw [fl_at]
      simp only [Rat.intCast_natCast, Rat.intCast_one]
      show _ = (ps.getD i0 .out).len.val x y / _
      grind
    obtain ⟨x1, y1, g1⟩ := ok.sat hI.sat
    have evb : ∀ x y, Gd f.1 x y → (behindS ps (passedOf (ps.getD i0 .out)) f.2).map (·.at x y) = behindC (ps.map (·.at x y)) ((ps.getD i0 .out).at x y).rest f.2 := fun x y g => by
      unfold behindS behindC
      rw [List.map_map, List.length_map]
      refine List.map_congr_left fun i hi => ?_
      have hi := List.mem_range.mp hi
      simp only [Function.comp]
      rw [map_getD]
      split
      · exact out_at x y
      · rw [burnt_at lowp.pos (hP.low _ (getD_mem hi)), vp]
    -- a piece that is not out yet
    have bpos : ∀ x y, Gd f.1 x y → ∀ i, i < ps.length → i ∉ f.2 → (ps.getD i .out).len ≠ .nothing → 0 < (burntS (passedOf (ps.getD i0 .out)) (ps.getD i .out)).len.val x y := fun x y g i hi hg hn => by
      have g0 := ok.imp x y g
      obtain ⟨lr, lg⟩ := ok.gone x y g hne
      rw [hd0] at lr lg
      have hpos := hP.pos _ (getD_mem hi) hn x y g0
      have e := congrArg CP.len (burnt_at (t := passedOf (ps.getD i0 .out)) (p := ps.getD i .out) lowp.pos (hP.low _ (getD_mem hi)) x y)
      have e' : (burntS (passedOf (ps.getD i0 .out)) (ps.getD i .out)).len.val x y = (ps.getD i .out).len.val x y - ((ps.getD i0 .out).at x y).rest * ((ps.getD i .out).fl : Rat) := by rw [← vp]; exact e
      rw [e']
      rcases fl_cases (ps.getD i .out) with ⟨hf, _, _⟩ | hf
      · rw [hf]; simp; grind
      · have hbi : i ∈ sburning ps := mem_sburning.mpr ⟨hi, hf⟩
        have hle := (leastRest_some.mp lr).2 i hbi
        have hnot : ((ps.getD i .out).at x y).rest ≠ ((ps.getD i0 .out).at x y).rest := fun z => hg (by
          rw [lg]
          unfold goneOf
          rw [burning_map]
          exact List.mem_filter.mpr ⟨hbi, decide_eq_true (by rw [map_getD]; exact z)⟩)
        rw [map_getD] at hle
        have hlt : ((ps.getD i0 .out).at x y).rest < ((ps.getD i .out).at x y).rest := by grind
        have hlt2 : ((ps.getD i0 .out).at x y).rest < (ps.getD i .out).len.val x y / ((ps.getD i .out).fl : Rat) := hlt
        have := (Rat.lt_div_iff (natCast_pos' hf)).mp hlt2
        grind
    have memb : ∀ p ∈ behindS ps (passedOf (ps.getD i0 .out)) f.2, p = .out ∨ ∃ i, i < ps.length ∧ i ∉ f.2 ∧ p = burntS (passedOf (ps.getD i0 .out)) (ps.getD i .out) := fun p hp => by
      unfold behindS at hp
      obtain ⟨i, hi, rfl⟩ := List.mem_map.mp hp
      have hi := List.mem_range.mp hi
      split
      · exact .inl rfl
      · rename_i h; exact .inr ⟨i, hi, h, rfl⟩
    have nothingB : ∀ i, i < ps.length → (ps.getD i .out).len = .nothing → (burntS (passedOf (ps.getD i0 .out)) (ps.getD i .out)).len = .nothing ∧ (ps.getD i .out).l = false ∧ (ps.getD i .out).r = false := fun i hi e => by
      obtain ⟨a, b⟩ := hP.out _ (getD_mem hi) e
      refine ⟨?_, a, b⟩
      have hf : (ps.getD i .out).fl = 0 := by unfold SP.fl; rw [a, b]; rfl
      unfold burntS
      rw [hf, e]
      show Amt.minus .nothing (Amt.times _ 0 1) = _
      rw [times_zero lowp.pos]
      decide
    refine ⟨⟨ok.no, ⟨x1, y1, g1⟩, fun qs e => ?_, Amt.plus_low hI.tm.pos lowp.pos, hI.rg, fun m hm => ?_⟩, by simp, by trivial, fun x y g => ⟨ok.imp x y g, ?_⟩⟩
    · cases e
      refine ⟨fun p hp => ?_, fun p hp => ?_, fun p hp => ?_⟩
      · rcases memb p hp with rfl | ⟨i, hi, hg, rfl⟩
        · exact Amt.low_nothing
        · exact Amt.minus_low (hP.low _ (getD_mem hi)).pos (Amt.times_low lowp.pos (by decide)).pos
      · rcases memb p hp with rfl | ⟨i, hi, hg, rfl⟩
        · exact fun _ => ⟨rfl, rfl⟩
        · intro e
          by_cases h : (ps.getD i .out).len = .nothing
          · exact (nothingB i hi h).2
          · have := bpos x1 y1 g1 i hi hg h
            rw [e, Amt.val_nothing] at this
            exact absurd this (by grind)
      · rcases memb p hp with rfl | ⟨i, hi, hg, rfl⟩
        · exact fun z => absurd rfl z
        · intro e x y g
          refine bpos x y g i hi hg fun h => e (nothingB i hi h).1
    · rcases List.mem_append.mp hm with hm | hm
      · exact hI.mo m hm
      · rw [List.mem_singleton.mp hm]; exact Amt.plus_low hI.tm.pos lowp.pos
    · obtain ⟨lr, lg⟩ := ok.gone x y g hne
      rw [hd0] at lr lg
      unfold SS.ev
      rw [hps]
      simp only [Option.map_some, Option.bind_some, cfirst]
      rw [burning_map, lr]
      simp only
      rw [evb x y g, Amt.val_plus hI.tm.pos lowp.pos, vp, ← lg, List.map_append, List.map_cons, List.map_nil, Amt.val_plus hI.tm.pos lowp.pos, vp]
theorem firstOut_later {s : SS} (hI : s.Inv) : Later s (fun _ _ c => some (cfirst c)) 0 (firstOut s) := by
  unfold firstOut
  split
  · rename_i e
    refine ⟨fun t ht => ?_, fun t ht => ?_, fun t ht x y g => ?_, fun x y _ _ g => ⟨s, List.mem_singleton.mpr rfl, g⟩⟩
    · rw [List.mem_singleton.mp ht]; exact hI
    · rw [List.mem_singleton.mp ht]; exact fun h => ⟨h, rfl⟩
    · rw [List.mem_singleton.mp ht] at g ⊢
      refine ⟨g, ?_⟩
      unfold SS.ev; rw [e]; rfl
  · rename_i ps e
    obtain ⟨h1, h2⟩ := soonest_ok hI.no (hI.pi ps e)
    refine ⟨fun t ht => ?_, fun t ht _ => ?_, fun t ht x y g => ?_, fun x y _ _ g => ?_⟩
    · obtain ⟨f, hf, rfl⟩ := List.mem_map.mp ht
      exact (firstOut_one hI e (h1 f hf)).1
    · obtain ⟨f, hf, rfl⟩ := List.mem_map.mp ht
      exact ⟨by rw [e]; simp, (firstOut_one hI e (h1 f hf)).2.2.1⟩
    · obtain ⟨f, hf, rfl⟩ := List.mem_map.mp ht
      exact (firstOut_one hI e (h1 f hf)).2.2.2 x y g
    · obtain ⟨f, hf, g1⟩ := h2 x y g
      refine ⟨_, List.mem_map.mpr ⟨f, hf, rfl⟩, ?_⟩
      unfold firstOut1
      split
      · exact g
      · exact g1
end Li

set_option linter.all false
set_option maxHeartbeats 400000
namespace Li
theorem length_ev {s : SS} {ps : List SP} {x y : Rat} {c : CS} (h : s.pieces = some ps) (e : s.ev x y = some c) : c.pieces = ps.map (·.at x y) := by
  unfold SS.ev at e
  rw [h] at e
  cases e
  rfl
/-- fewer burn behind -/
theorem cfirst_fewer {c : CS} (h : burning c.pieces ≠ []) : (burning (cfirst c).pieces).length < (burning c.pieces).length := by
  unfold cfirst
  cases e : leastRest c.pieces (burning c.pieces) with
  | none => exact absurd (leastRest_none.mp e) h
  | some t =>
    obtain ⟨⟨i0, hi0, r0⟩, _⟩ := leastRest_some.mp e
    simp only
    have hlen : (behindC c.pieces t (goneOf c.pieces t)).length = c.pieces.length := by unfold behindC; simp
    have hget : ∀ i, i < c.pieces.length → (behindC c.pieces t (goneOf c.pieces t)).getD i .out = if i ∈ goneOf c.pieces t then .out else burntC t (c.pieces.getD i .out) := fun i hi => by
      unfold behindC
      rw [List.getD_eq_getElem?_getD, List.getElem?_map, List.getElem?_range hi]
      rfl
    have eb : burning (behindC c.pieces t (goneOf c.pieces t)) = (burning c.pieces).filter fun i => decide (i ∉ goneOf c.pieces t) := by
      unfold burning
      rw [hlen, List.filter_filter]
      refine List.filter_congr fun i hi => ?_
      rw [hget i (List.mem_range.mp hi)]
      by_cases hg : i ∈ goneOf c.pieces t
      · rw [if_pos hg]; simp [hg]; rfl
      · rw [if_neg hg]; simp [hg]; rfl
    rw [eb]
    have hg0 : i0 ∈ goneOf c.pieces t := List.mem_filter.mpr ⟨hi0, decide_eq_true r0⟩
    have : i0 ∈ burning c.pieces ∧ ¬ (decide (i0 ∉ goneOf c.pieces t) = true) := ⟨hi0, by simp [hg0]⟩
    exact List.length_filter_lt_length_iff_exists.mpr ⟨i0, this⟩
theorem flAt_zero {ps : List CP} {i : Nat} (h : burning ps = []) : flAt ps i = 0 := by
  unfold flAt
  by_cases hi : i < ps.length
  · have : i ∉ burning ps := by rw [h]; simp
    unfold burning at this
    rw [List.mem_filter, List.mem_range] at this
    simp only [decide_eq_true_eq, not_and] at this
    have := this hi
    omega
  · rw [List.getD_eq_getElem?_getD, List.getElem?_eq_none (by omega)]; rfl
/-- how much longer is waited does not matter -/
theorem cwait_more : ∀ (n m : Nat) (i : Nat) (c : CS), (burning c.pieces).length ≤ n → (burning c.pieces).length ≤ m → cwait n i c = cwait m i c
  | 0, 0, _, _, _, _ => rfl
  | 0, m + 1, i, c, h, _ => by
    have hb : burning c.pieces = [] := List.eq_nil_of_length_eq_zero (by omega)
    unfold cwait
    rw [if_pos (flAt_zero hb)]
  | n + 1, 0, i, c, _, h => by
    have hb : burning c.pieces = [] := List.eq_nil_of_length_eq_zero (by omega)
    unfold cwait
    rw [if_pos (flAt_zero hb)]
  | n + 1, m + 1, i, c, h1, h2 => by
    unfold cwait
    by_cases hf : flAt c.pieces i = 0
    · rw [if_pos hf, if_pos hf]
    · rw [if_neg hf, if_neg hf]
      have hb : burning c.pieces ≠ [] := fun z => hf (flAt_zero z)
      have := cfirst_fewer hb
      exact cwait_more n m i (cfirst c) (by omega) (by omega)
def nburn (s : SS) : Nat := match s.pieces with
  | none => 0
  | some ps => (sburning ps).length
theorem nburn_ev {s : SS} {x y : Rat} {c : CS} (e : s.ev x y = some c) : nburn s = (burning c.pieces).length := by
  unfold nburn
  cases h : s.pieces with
  | none => unfold SS.ev at e; rw [h] at e; cases e
  | some ps =>
    rw [length_ev h e, burning_map]
theorem firstOut_fewer {s : SS} (hI : s.Inv) (h : nburn s ≠ 0) : ∀ t ∈ firstOut s, nburn t < nburn s := fun t ht => by
  have L := firstOut_later hI
  obtain ⟨x, y, g⟩ := (L.inv t ht).sat
  obtain ⟨g1, e⟩ := L.ev t ht x y g
  cases hc : s.ev x y with
  | none => unfold SS.ev at hc; unfold nburn at h; cases hp : s.pieces with
    | none => rw [hp] at h; exact absurd rfl h
    | some ps => rw [hp] at hc; cases hc
  | some c =>
    rw [hc] at e
    rw [nburn_ev e, nburn_ev hc]
    rw [nburn_ev hc] at h
    exact cfirst_fewer fun z => h (by rw [z]; rfl)
theorem waited_later : ∀ (n : Nat) (s : SS) (i : Nat), s.Inv → nburn s ≤ n → Later s (fun _ _ c => some (cwait n i c)) 0 (waited (n + 1) s i)
  | 0, s, i, hI, h => by
    have hb : nburn s = 0 := by omega
    unfold waited
    have stay : Later s (fun _ _ c => some (cwait 0 i c)) 0 [s] := (Later.nil hI).congr fun _ _ _ _ _ => rfl
    split
    · exact stay
    · rename_i ps e
      rw [if_pos]
      · exact stay
      · unfold nburn at hb
        rw [e] at hb
        have hb : sburning ps = [] := List.eq_nil_of_length_eq_zero hb
        rw [← burning_map (x := 0) (y := 0)] at hb
        have := flAt_zero (i := i) hb
        unfold flAt at this
        rw [map_getD] at this
        exact this
  | n + 1, s, i, hI, h => by
    unfold waited
    split
    · rename_i e
      refine (Later.nil hI).congr fun x y c _ hc => ?_
      unfold SS.ev at hc; rw [e] at hc; cases hc
    · rename_i ps e
      split
      · rename_i hf
        refine (Later.nil hI).congr fun x y c _ hc => ?_
        show some c = some (cwait (n + 1) i c)
        unfold cwait
        rw [if_pos]
        unfold flAt
        rw [length_ev e hc, map_getD]
        exact hf
      · rename_i hf
        have hb : nburn s ≠ 0 := fun z => hf (by
          unfold nburn at z
          rw [e] at z
          have z : sburning ps = [] := List.eq_nil_of_length_eq_zero z
          rw [← burning_map (x := 0) (y := 0)] at z
          have := flAt_zero (i := i) z
          unfold flAt at this
          rw [map_getD] at this
          exact this)
        have L := (firstOut_later hI)
        refine ((L.bind (G := fun t => waited (n + 1) t i) fun t ht => waited_later n t i (L.inv t ht) (by have := firstOut_fewer hI hb t ht; omega))).congr fun x y c _ hc => ?_
        show some (cwait n i (cfirst c)) = some (cwait (n + 1) i c)
        rw [show cwait (n + 1) i c = if flAt c.pieces i = 0 then c else cwait n i (cfirst c) from rfl, if_neg]
        unfold flAt
        rw [length_ev e hc, map_getD]
        exact hf
/-! ### spots and the other steps -/
def partedS (ps : List SP) (i : Nat) (m : Amt) : List SP :=
  let p := ps.getD i .out
  if p.len = .nothing then ps ++ [.out]
  else ps.set i ⟨m, p.l, true⟩ ++ [⟨Amt.minus p.len m, true, p.r⟩]
def unknown (k : Nat) : Amt := if k = 0 then .ux else .uy
def spotGood (p : SP) (m : Amt) : List Lcnd := if p.len = .nothing then [zero m] else [positive m, positive (Amt.minus p.len m)]
def spotBad (p : SP) (m : Amt) : List (List Lcnd) := if p.len = .nothing then [[positive m]] else
  [[zero m], [positive m, zero (Amt.minus p.len m)], [positive m, positive (Amt.times (Amt.minus p.len m) (-1) 1)]]
def spotted (s : SS) (ps : List SP) (i : Nat) : List SS :=
  let m := unknown s.spots
  let p := ps.getD i .out
  ((⟨s.conds ++ spotGood p m, some (partedS ps i m), s.time, s.rings, s.moments, s.spots + 1⟩ : SS) ::
    (spotBad p m).map fun more => ⟨s.conds ++ more, none, s.time, s.rings, s.moments, s.spots + 1⟩).filter fun t => isPossible t.conds
def litS (p : SP) (left : Bool) : SP := if p.len = .nothing then p else ⟨p.len, p.l || left, p.r || !left⟩
def quenchS (p : SP) : SP := ⟨p.len, false, false⟩
def behindStep (n : Nat) (s : SS) (a : Act) : List SS := match s.pieces with
  | none => [s]
  | some ps => match a with
    | .light i left => [{ s with pieces := some (ps.set i (litS (ps.getD i .out) left)) }]
    | .quench i => [{ s with pieces := some (ps.set i (quenchS (ps.getD i .out))) }]
    | .ring => [{ s with rings := s.rings ++ [s.time] }]
    | .spot i => spotted s ps i
    | .wait i => waited n s i
    | .first => firstOut s
/-- what a step does with told minutes, m being those of the next spot -/
def cstep (n : Nat) (m : Rat) (c : CS) : Act → Option CS
  | .light i left => some { c with pieces := c.pieces.set i (clit (c.pieces.getD i .out) left) }
  | .quench i => some { c with pieces := c.pieces.set i (cquench (c.pieces.getD i .out)) }
  | .ring => some { c with heard := c.heard ++ [c.clock] }
  | .spot i => (csplit c.pieces i m).map fun ps => { c with pieces := ps }
  | .wait i => some (cwait n i c)
  | .first => some (cfirst c)
def adds (a : Act) : Nat := match a with
  | .spot _ => 1
  | _ => 0
theorem PInv.set {cs : List Lcnd} {ps : List SP} (h : PInv cs ps) {i : Nat} {q : SP} (hq : PInv cs [q]) : PInv cs (ps.set i q) := by
  have m : ∀ p ∈ ps.set i q, p ∈ ps ∨ p = q := fun p hp => List.mem_or_eq_of_mem_set hp
  have m1 : q ∈ [q] := List.mem_singleton.mpr rfl
  refine ⟨fun p hp => ?_, fun p hp => ?_, fun p hp => ?_⟩
  · rcases m p hp with h' | rfl
    · exact h.low p h'
    · exact hq.low _ m1
  · rcases m p hp with h' | rfl
    · exact h.out p h'
    · exact hq.out _ m1
  · rcases m p hp with h' | rfl
    · exact h.pos p h'
    · exact hq.pos _ m1
theorem PInv.append {cs : List Lcnd} {ps qs : List SP} (h : PInv cs ps) (g : PInv cs qs) : PInv cs (ps ++ qs) :=
  ⟨fun p hp => (List.mem_append.mp hp).elim (h.low p) (g.low p), fun p hp => (List.mem_append.mp hp).elim (h.out p) (g.out p), fun p hp => (List.mem_append.mp hp).elim (h.pos p) (g.pos p)⟩
theorem PInv.one {cs : List Lcnd} {p : SP} (h1 : p.len.Low) (h2 : p.len = .nothing → p.l = false ∧ p.r = false) (h3 : p.len ≠ .nothing → ∀ x y, Gd cs x y → 0 < p.len.val x y) : PInv cs [p] :=
  ⟨fun q hq => by rw [List.mem_singleton.mp hq]; exact h1, fun q hq => by rw [List.mem_singleton.mp hq]; exact h2, fun q hq => by rw [List.mem_singleton.mp hq]; exact h3⟩
theorem map_set_at {ps : List SP} {i : Nat} {q : SP} {x y : Rat} : (ps.set i q).map (·.at x y) = (ps.map (·.at x y)).set i (q.at x y) := by
  rw [List.map_set]
/-- one state, its pieces changed in place -/
theorem later_pieces {s : SS} (hI : s.Inv) {ps qs : List SP} (h : s.pieces = some ps) (hq : PInv s.conds qs) {f : CS → CS} (e : ∀ x y, Gd s.conds x y → ∀ c : CS, c.pieces = ps.map (·.at x y) → f c = { c with pieces := qs.map (·.at x y) }) :
    Later s (fun _ _ c => some (f c)) 0 [{ s with pieces := some qs }] := by
  refine ⟨fun t ht => ?_, fun t ht _ => ?_, fun t ht x y g => ?_, fun x y _ _ g => ⟨_, List.mem_singleton.mpr rfl, g⟩⟩
  · rw [List.mem_singleton.mp ht]
    exact ⟨hI.no, hI.sat, fun rs er => by cases er; exact hq, hI.tm, hI.rg, hI.mo⟩
  · rw [List.mem_singleton.mp ht]; exact ⟨by rw [h]; simp, rfl⟩
  · rw [List.mem_singleton.mp ht] at g ⊢
    refine ⟨g, ?_⟩
    unfold SS.ev
    rw [h]
    simp only [Option.map_some, Option.bind_some]
    rw [e x y g _ rfl]
theorem val_zero_iff {cs : List Lcnd} {ps : List SP} (h : PInv cs ps) {p : SP} (hp : p ∈ ps) {x y : Rat} (g : Gd cs x y) : p.len = .nothing ↔ p.len.val x y = 0 := by
  constructor
  · intro e; rw [e, Amt.val_nothing]
  · intro e
    refine Decidable.byContradiction fun z => ?_
    have := h.pos p hp z x y g
    rw [e] at this
    exact absurd this (by grind)
theorem pinv_mem {cs : List Lcnd} {ps : List SP} (h : PInv cs ps) {p : SP} (hp : p ∈ ps) : PInv cs [p] := PInv.one (h.low p hp) (h.out p hp) (h.pos p hp)
theorem light_later {s : SS} (hI : s.Inv) {ps : List SP} (h : s.pieces = some ps) {i : Nat} (hi : i < ps.length) (left : Bool) (n : Nat) : Later s (fun _ _ c => cstep n 0 c (.light i left)) 0 [{ s with pieces := some (ps.set i (litS (ps.getD i .out) left)) }] := by
  have hP := hI.pi ps h
  have hm := getD_mem hi
  refine later_pieces (f := fun c => { c with pieces := c.pieces.set i (clit (c.pieces.getD i .out) left) }) hI h (hP.set ?_) fun x y g c hc => ?_
  · unfold litS
    split
    · exact pinv_mem hP hm
    · rename_i hn
      exact PInv.one (hP.low (ps.getD i .out) hm) (fun z => absurd z hn) (hP.pos (ps.getD i .out) hm)
  · rw [hc, map_set_at, map_getD]
    congr 2
    unfold clit litS
    have := val_zero_iff hP hm g
    by_cases hz : (ps.getD i .out).len = .nothing
    · rw [if_pos (show ((ps.getD i .out).at x y).len = 0 from this.mp hz), if_pos hz]
    · rw [if_neg (show ¬ ((ps.getD i .out).at x y).len = 0 from fun z => hz (this.mpr z)), if_neg hz]
      rfl
theorem quench_later {s : SS} (hI : s.Inv) {ps : List SP} (h : s.pieces = some ps) {i : Nat} (hi : i < ps.length) (n : Nat) : Later s (fun _ _ c => cstep n 0 c (.quench i)) 0 [{ s with pieces := some (ps.set i (quenchS (ps.getD i .out))) }] := by
  have hP := hI.pi ps h
  have hm := getD_mem hi
  refine later_pieces (f := fun c => { c with pieces := c.pieces.set i (cquench (c.pieces.getD i .out)) }) hI h (hP.set ?_) fun x y g c hc => ?_
  · exact PInv.one (hP.low (ps.getD i .out) hm) (fun _ => ⟨rfl, rfl⟩) (hP.pos (ps.getD i .out) hm)
  · rw [hc, map_set_at, map_getD]
    rfl
theorem ring_later {s : SS} (hI : s.Inv) {n : Nat} : Later s (fun _ _ c => cstep n 0 c .ring) 0 [{ s with rings := s.rings ++ [s.time] }] := by
  refine ⟨fun t ht => ?_, fun t ht => ?_, fun t ht x y g => ?_, fun x y _ _ g => ⟨_, List.mem_singleton.mpr rfl, g⟩⟩
  · rw [List.mem_singleton.mp ht]
    exact ⟨hI.no, hI.sat, hI.pi, hI.tm, fun m hm => (List.mem_append.mp hm).elim (hI.rg m) fun z => by rw [List.mem_singleton.mp z]; exact hI.tm, hI.mo⟩
  · rw [List.mem_singleton.mp ht]; exact fun h => ⟨h, rfl⟩
  · rw [List.mem_singleton.mp ht] at g ⊢
    refine ⟨g, ?_⟩
    unfold SS.ev
    cases s.pieces with
    | none => rfl
    | some ps => simp [cstep]
theorem noAt_spot {p : SP} {m : Amt} : NoAt (spotGood p m) 3 ∧ ∀ b ∈ spotBad p m, NoAt b 3 := by
  constructor
  · unfold spotGood
    split <;> (intro c hc; simp only [List.mem_cons, List.not_mem_nil, or_false] at hc; rcases hc with rfl | rfl <;> rfl)
  · unfold spotBad
    intro b hb
    split at hb
    · simp only [List.mem_cons, List.not_mem_nil, or_false] at hb
      subst hb
      exact noAt_one rfl
    · simp only [List.mem_cons, List.not_mem_nil, or_false] at hb
      rcases hb with rfl | rfl | rfl
      · exact noAt_one rfl
      all_goals (intro c hc; simp only [List.mem_cons, List.not_mem_nil, or_false] at hc; rcases hc with rfl | rfl <;> rfl)
theorem gd_two {c d : Lcnd} {x y : Rat} : Gd [c, d] x y ↔ c.holds (at2 x y) ∧ d.holds (at2 x y) := by
  unfold Gd All; simp
theorem low_unknown (k : Nat) : (unknown k).Low := by unfold unknown; split; exact Amt.low_ux; exact Amt.low_uy
theorem val_unknown (k : Nat) (x y : Rat) : (unknown k).val x y = if k = 0 then x else y := by unfold unknown; split; exact Amt.val_ux x y; exact Amt.val_uy x y
theorem unknown_ne (k : Nat) : unknown k ≠ .nothing := by unfold unknown; split <;> decide
theorem spot_later {s : SS} (hI : s.Inv) {ps : List SP} (h : s.pieces = some ps) {i : Nat} (hi : i < ps.length) (n : Nat) : Later s (fun x y c => cstep n (if s.spots = 0 then x else y) c (.spot i)) 1 (spotted s ps i) := by
  have hP := hI.pi ps h
  have hm := getD_mem hi
  have lowp := hP.low _ hm
  have lowm := low_unknown s.spots
  have lowr : (Amt.minus (ps.getD i .out).len (unknown s.spots)).Low := Amt.minus_low lowp.pos lowm.pos
  have vm := val_unknown s.spots
  have vr : ∀ x y, (Amt.minus (ps.getD i .out).len (unknown s.spots)).val x y = (ps.getD i .out).len.val x y - (if s.spots = 0 then x else y) := fun x y => by rw [Amt.val_minus lowp.pos lowm.pos, vm]
  have possible : ∀ {cs : List Lcnd}, NoAt cs 3 → (isPossible cs = true ↔ Sat cs) := fun hn => isPossible_iff hn
  have nog := noAt_append hI.no (noAt_spot (p := ps.getD i .out) (m := unknown s.spots)).1
  have nob := fun b hb => noAt_append hI.no ((noAt_spot (p := ps.getD i .out) (m := unknown s.spots)).2 b hb)
  -- the two kinds of states
  have kinds : ∀ t ∈ spotted s ps i, Sat t.conds ∧ (t = ⟨s.conds ++ spotGood (ps.getD i .out) (unknown s.spots), some (partedS ps i (unknown s.spots)), s.time, s.rings, s.moments, s.spots + 1⟩ ∨
      ∃ b ∈ spotBad (ps.getD i .out) (unknown s.spots), t = ⟨s.conds ++ b, none, s.time, s.rings, s.moments, s.spots + 1⟩) := fun t ht => by
    unfold spotted at ht
    obtain ⟨h1, h2⟩ := List.mem_filter.mp ht
    rcases List.mem_cons.mp h1 with rfl | h1
    · exact ⟨(possible nog).mp h2, .inl rfl⟩
    · obtain ⟨b, hb, rfl⟩ := List.mem_map.mp h1
      exact ⟨(possible (nob b hb)).mp h2, .inr ⟨b, hb, rfl⟩⟩
  -- what the conditions say
  have hlen : (ps.map (·.at 0 0)).length = ps.length := by simp
  have hz := fun x y (g : Gd s.conds x y) => val_zero_iff hP hm g
  by_cases h0 : (ps.getD i .out).len = .nothing
  · have eg : spotGood (ps.getD i .out) (unknown s.spots) = [zero (unknown s.spots)] := if_pos h0
    have eb : spotBad (ps.getD i .out) (unknown s.spots) = [[positive (unknown s.spots)]] := if_pos h0
    have ep : partedS ps i (unknown s.spots) = ps ++ [.out] := if_pos h0
    have es : ∀ x y, Gd s.conds x y → ∀ M, csplit (ps.map (·.at x y)) i M = if M = 0 then some (ps.map (·.at x y) ++ [.out]) else none := fun x y g M => by
      unfold csplit
      simp only [map_getD]
      rw [if_pos (show ((ps.getD i .out).at x y).len = 0 from (hz x y g).mp h0)]
    rw [eg, eb, ep] at kinds
    have iz := fun x y => holds_zero lowm.pos x y
    have ipos := fun x y => holds_positive lowm.pos x y
    refine ⟨fun t ht => ?_, fun t ht hn => ?_, fun t ht x y g => ?_, fun x y hx hy g => ?_⟩
    · obtain ⟨st, rfl | ⟨b, hb, rfl⟩⟩ := kinds t ht
      · exact ⟨noAt_append hI.no (noAt_one rfl), st, fun qs e => by cases e; exact PInv.append (hP.mono fun x y g => (gd_append.mp g).1) (PInv.one Amt.low_nothing (fun _ => ⟨rfl, rfl⟩) fun z => absurd rfl z), hI.tm, hI.rg, hI.mo⟩
      · rw [List.mem_singleton.mp hb] at st ⊢
        exact ⟨noAt_append hI.no (noAt_one rfl), st, (fun qs e => nomatch e), hI.tm, hI.rg, hI.mo⟩
    · obtain ⟨st, rfl | ⟨b, hb, rfl⟩⟩ := kinds t ht
      · exact ⟨by rw [h]; simp, rfl⟩
      · exact absurd rfl hn
    · obtain ⟨st, rfl | ⟨b, hb, rfl⟩⟩ := kinds t ht
      · obtain ⟨g1, g2⟩ := gd_append.mp g
        refine ⟨g1, ?_⟩
        rw [gd_one, iz, vm] at g2
        unfold SS.ev
        rw [h]
        simp only [Option.map_some, Option.bind_some, cstep]
        rw [es x y g1, if_pos g2, List.map_append, List.map_cons, List.map_nil, out_at]
        rfl
      · rw [List.mem_singleton.mp hb] at g ⊢
        obtain ⟨g1, g2⟩ := gd_append.mp g
        refine ⟨g1, ?_⟩
        rw [gd_one, ipos, vm] at g2
        unfold SS.ev
        rw [h]
        simp only [Option.map_some, Option.bind_some, Option.map_none, cstep]
        rw [es x y g1, if_neg (by grind)]
        rfl
    · have pick : ∀ c : Lcnd, c.holds (at2 x y) → c.row.get 3 = 0 → Gd (s.conds ++ [c]) x y ∧ isPossible (s.conds ++ [c]) = true := fun c hc h3 => by
        have : Gd (s.conds ++ [c]) x y := gd_append.mpr ⟨g, gd_one.mpr hc⟩
        exact ⟨this, (possible (noAt_append hI.no (noAt_one h3))).mpr ⟨x, y, this⟩⟩
      unfold spotted
      simp only [eg, eb]
      by_cases hM : (if s.spots = 0 then x else y) = 0
      · obtain ⟨a, b⟩ := pick (zero (unknown s.spots)) ((iz x y).mpr (by rw [vm]; exact hM)) rfl
        exact ⟨_, List.mem_filter.mpr ⟨List.mem_cons_self, b⟩, a⟩
      · obtain ⟨a, b⟩ := pick (positive (unknown s.spots)) ((ipos x y).mpr (by rw [vm]; split at hM <;> (rename_i hs; simp only [hs, if_true, if_false]; grind))) rfl
        exact ⟨_, List.mem_filter.mpr ⟨List.mem_cons_of_mem _ (by simp; rfl), b⟩, a⟩
  · have eg : spotGood (ps.getD i .out) (unknown s.spots) = [positive (unknown s.spots), positive (Amt.minus (ps.getD i .out).len (unknown s.spots))] := if_neg h0
    have eb : spotBad (ps.getD i .out) (unknown s.spots) = [[zero (unknown s.spots)], [positive (unknown s.spots), zero (Amt.minus (ps.getD i .out).len (unknown s.spots))], [positive (unknown s.spots), positive (Amt.times (Amt.minus (ps.getD i .out).len (unknown s.spots)) (-1) 1)]] := if_neg h0
    have ep : partedS ps i (unknown s.spots) = ps.set i ⟨unknown s.spots, (ps.getD i .out).l, true⟩ ++ [⟨Amt.minus (ps.getD i .out).len (unknown s.spots), true, (ps.getD i .out).r⟩] := if_neg h0
    have es : ∀ x y, Gd s.conds x y → ∀ M, csplit (ps.map (·.at x y)) i M = if 0 < M ∧ 0 < (ps.getD i .out).len.val x y - M then some ((ps.map (·.at x y)).set i ⟨M, (ps.getD i .out).l, true⟩ ++ [⟨(ps.getD i .out).len.val x y - M, true, (ps.getD i .out).r⟩]) else none := fun x y g M => by
      unfold csplit
      simp only [map_getD]
      rw [if_neg (show ¬ ((ps.getD i .out).at x y).len = 0 from fun z => h0 ((hz x y g).mpr z))]
      rfl
    have iz := fun x y => holds_zero lowm.pos x y
    have ipos := fun x y => holds_positive lowm.pos x y
    have jz := fun x y => holds_zero lowr.pos x y
    have jpos := fun x y => holds_positive lowr.pos x y
    have lown : (Amt.times (Amt.minus (ps.getD i .out).len (unknown s.spots)) (-1) 1).Low := Amt.times_low lowr.pos (by decide)
    have jneg : ∀ x y, (positive (Amt.times (Amt.minus (ps.getD i .out).len (unknown s.spots)) (-1) 1)).holds (at2 x y) ↔ (Amt.minus (ps.getD i .out).len (unknown s.spots)).val x y < 0 := fun x y => by
      rw [holds_positive lown.pos, Amt.val_times lowr.pos (by decide)]
      simp only [Rat.intCast_neg, Rat.intCast_one]
      constructor <;> intro z <;> grind
    refine ⟨fun t ht => ?_, fun t ht hn => ?_, fun t ht x y g => ?_, fun x y hx hy g => ?_⟩
    · obtain ⟨st, rfl | ⟨b, hb, rfl⟩⟩ := kinds t ht
      · refine ⟨nog, st, fun qs e => ?_, hI.tm, hI.rg, hI.mo⟩
        cases e
        show PInv (s.conds ++ spotGood (ps.getD i .out) (unknown s.spots)) (partedS ps i (unknown s.spots))
        rw [ep]
        have i1 : ∀ x y, Gd (s.conds ++ spotGood (ps.getD i .out) (unknown s.spots)) x y → Gd s.conds x y ∧ 0 < (unknown s.spots).val x y ∧ 0 < (Amt.minus (ps.getD i .out).len (unknown s.spots)).val x y := fun x y g => by
          obtain ⟨g1, g2⟩ := gd_append.mp g
          rw [eg, gd_two, ipos, jpos] at g2
          exact ⟨g1, g2⟩
        refine PInv.append (PInv.set (hP.mono fun x y g => (i1 x y g).1) (PInv.one lowm (fun z => absurd z (unknown_ne _)) fun _ x y g => (i1 x y g).2.1)) (PInv.one lowr (fun z => ?_) fun _ x y g => (i1 x y g).2.2)
        obtain ⟨x, y, g⟩ := st
        have := (i1 x y g).2.2
        simp only at z
        rw [z, Amt.val_nothing] at this
        exact absurd this (by grind)
      · exact ⟨nob b hb, st, (fun qs e => nomatch e), hI.tm, hI.rg, hI.mo⟩
    · obtain ⟨st, rfl | ⟨b, hb, rfl⟩⟩ := kinds t ht
      · exact ⟨by rw [h]; simp, rfl⟩
      · exact absurd rfl hn
    · obtain ⟨st, rfl | ⟨b, hb, rfl⟩⟩ := kinds t ht
      · obtain ⟨g1, g2⟩ := gd_append.mp g
        refine ⟨g1, ?_⟩
        rw [eg, gd_two, ipos, jpos, vm, vr] at g2
        unfold SS.ev
        rw [h]
        simp only [Option.map_some, Option.bind_some, cstep]
        rw [es x y g1, if_pos g2, ep, List.map_append, map_set_at, List.map_cons, List.map_nil]
        unfold SP.at
        simp only
        rw [vm, vr]
        rfl
      · obtain ⟨g1, g2⟩ := gd_append.mp g
        refine ⟨g1, ?_⟩
        unfold SS.ev
        rw [h]
        simp only [Option.map_some, Option.bind_some, Option.map_none, cstep]
        rw [es x y g1, if_neg]
        · rfl
        · rw [eb] at hb
          simp only [List.mem_cons, List.not_mem_nil, or_false] at hb
          rcases hb with rfl | rfl | rfl
          · rw [gd_one, iz, vm] at g2
            rw [g2]; grind
          · rw [gd_two, ipos, jz, vm, vr] at g2
            grind
          · rw [gd_two, ipos, jneg, vm, vr] at g2
            grind
    · unfold spotted
      simp only
      have pick : ∀ c : List Lcnd, Gd c x y → NoAt (s.conds ++ c) 3 → Gd (s.conds ++ c) x y ∧ isPossible (s.conds ++ c) = true := fun c hc h3 => by
        have : Gd (s.conds ++ c) x y := gd_append.mpr ⟨g, hc⟩
        exact ⟨this, (possible h3).mpr ⟨x, y, this⟩⟩
      have bad : ∀ b ∈ spotBad (ps.getD i .out) (unknown s.spots), Gd b x y → ∃ t ∈ ((⟨s.conds ++ spotGood (ps.getD i .out) (unknown s.spots), some (partedS ps i (unknown s.spots)), s.time, s.rings, s.moments, s.spots + 1⟩ : SS) ::
          (spotBad (ps.getD i .out) (unknown s.spots)).map fun more => ⟨s.conds ++ more, none, s.time, s.rings, s.moments, s.spots + 1⟩).filter (fun t => isPossible t.conds), Gd t.conds x y := fun b hb hg => by
        obtain ⟨p1, p2⟩ := pick b hg (nob b hb)
        exact ⟨_, List.mem_filter.mpr ⟨List.mem_cons_of_mem _ (List.mem_map.mpr ⟨b, hb, rfl⟩), p2⟩, p1⟩
      have hM0 : 0 ≤ (unknown s.spots).val x y := by rw [vm]; split <;> assumption
      by_cases h1 : (unknown s.spots).val x y = 0
      · exact bad [zero (unknown s.spots)] (by rw [eb]; simp) (gd_one.mpr ((iz x y).mpr h1))
      · have h1' : 0 < (unknown s.spots).val x y := by grind
        obtain ⟨sg, hs⟩ := hasSign_ex ((Amt.minus (ps.getD i .out).len (unknown s.spots)).val x y)
        rcases hs with ⟨_, h2⟩ | ⟨_, h2⟩ | ⟨_, h2⟩
        · obtain ⟨p1, p2⟩ := pick (spotGood (ps.getD i .out) (unknown s.spots)) (by rw [eg]; exact gd_two.mpr ⟨(ipos x y).mpr h1', (jpos x y).mpr h2⟩) nog
          exact ⟨_, List.mem_filter.mpr ⟨List.mem_cons_self, p2⟩, p1⟩
        · exact bad [positive (unknown s.spots), zero (Amt.minus (ps.getD i .out).len (unknown s.spots))] (by rw [eb]; simp) (gd_two.mpr ⟨(ipos x y).mpr h1', (jz x y).mpr h2⟩)
        · exact bad [positive (unknown s.spots), positive (Amt.times (Amt.minus (ps.getD i .out).len (unknown s.spots)) (-1) 1)] (by rw [eb]; simp) (gd_two.mpr ⟨(ipos x y).mpr h1', (jneg x y).mpr h2⟩)
end Li

set_option linter.all false
set_option maxHeartbeats 400000
namespace Li
/-! ### whole scripts -/
theorem length_behindC {ps : List CP} {t : Rat} {g : List Nat} : (behindC ps t g).length = ps.length := by unfold behindC; simp
theorem length_cfirst (c : CS) : (cfirst c).pieces.length = c.pieces.length := by
  unfold cfirst
  split
  · rfl
  · exact length_behindC
theorem length_cwait : ∀ (n i : Nat) (c : CS), (cwait n i c).pieces.length = c.pieces.length
  | 0, _, _ => rfl
  | n + 1, i, c => by
    unfold cwait
    split
    · rfl
    · rw [length_cwait n, length_cfirst]
theorem length_csplit {ps qs : List CP} {i : Nat} {m : Rat} (h : csplit ps i m = some qs) : qs.length = ps.length + 1 := by
  unfold csplit at h
  simp only at h
  split at h
  · split at h
    · cases h; simp
    · cases h
  · split at h
    · cases h; simp
    · cases h
theorem length_cstep {n : Nat} {m : Rat} {c c' : CS} {a : Act} (h : cstep n m c a = some c') : c'.pieces.length = c.pieces.length + adds a := by
  cases a with
  | light i l => cases h; simp [adds]
  | quench i => cases h; simp [adds]
  | ring => cases h; simp [adds]
  | wait i => cases h; simp [adds, length_cwait]
  | first => cases h; simp [adds, length_cfirst]
  | spot i =>
    have h' : (csplit c.pieces i m).map (fun ps => ({ c with pieces := ps } : CS)) = some c' := h
    cases e : csplit c.pieces i m with
    | none => rw [e] at h'; cases h'
    | some ps => rw [e] at h'; cases h'; simp [adds, length_csplit e]
/-- a step where there are so many pieces -/
def Act.inn (n : Nat) : Act → Prop
  | .light p _ => p < n
  | .spot p => p < n
  | .quench p => p < n
  | .wait p => p < n
  | .first => True
  | .ring => True
def stepsIn : Nat → List Act → Prop
  | _, [] => True
  | n, a :: r => a.inn n ∧ stepsIn (n + adds a) r
def spotsOf (ss : List Act) : Nat := (ss.map adds).sum
def crun (n : Nat) (x y : Rat) : Nat → CS → List Act → Option CS
  | _, c, [] => some c
  | k, c, a :: r => (cstep n (if k = 0 then x else y) c a).bind fun c' => crun n x y (k + adds a) c' r
def allFrom (n : Nat) (L : List SS) (as : List Act) : List SS := as.foldl (fun L a => L.flatMap fun s => behindStep (n + 1) s a) L
theorem allFrom_flat {n : Nat} : ∀ (as : List Act) (L : List SS), allFrom n L as = L.flatMap fun s => allFrom n [s] as
  | [], L => by unfold allFrom; simp
  | a :: as, L => by
    have h := allFrom_flat (n := n) as
    show allFrom n (L.flatMap fun s => behindStep (n + 1) s a) as = L.flatMap fun s => allFrom n ([s].flatMap fun s => behindStep (n + 1) s a) as
    rw [h, List.flatMap_assoc]
    congr 1
    funext s
    rw [h ([s].flatMap fun s => behindStep (n + 1) s a)]
    simp
theorem nburn_le {s : SS} {ps : List SP} (h : s.pieces = some ps) : nburn s ≤ ps.length := by
  unfold nburn
  rw [h]
  unfold sburning
  exact Nat.le_trans (List.length_filter_le _ _) (by simp)
theorem bs_none {n : Nat} {s : SS} {a : Act} (e : s.pieces = none) : behindStep n s a = [s] := by unfold behindStep; rw [e]
theorem bs_light {n : Nat} {s : SS} {ps : List SP} {i : Nat} {l : Bool} (e : s.pieces = some ps) : behindStep n s (.light i l) = [{ s with pieces := some (ps.set i (litS (ps.getD i .out) l)) }] := by
  obtain ⟨cs, p, t, r, m, k⟩ := s; cases e; rfl
theorem bs_quench {n : Nat} {s : SS} {ps : List SP} {i : Nat} (e : s.pieces = some ps) : behindStep n s (.quench i) = [{ s with pieces := some (ps.set i (quenchS (ps.getD i .out))) }] := by
  obtain ⟨cs, p, t, r, m, k⟩ := s; cases e; rfl
theorem bs_ring {n : Nat} {s : SS} {ps : List SP} (e : s.pieces = some ps) : behindStep n s .ring = [{ s with rings := s.rings ++ [s.time] }] := by
  obtain ⟨cs, p, t, r, m, k⟩ := s; cases e; rfl
theorem bs_spot {n : Nat} {s : SS} {ps : List SP} {i : Nat} (e : s.pieces = some ps) : behindStep n s (.spot i) = spotted s ps i := by
  obtain ⟨cs, p, t, r, m, k⟩ := s; cases e; rfl
theorem bs_wait {n : Nat} {s : SS} {ps : List SP} {i : Nat} (e : s.pieces = some ps) : behindStep n s (.wait i) = waited n s i := by
  obtain ⟨cs, p, t, r, m, k⟩ := s; cases e; rfl
theorem bs_first {n : Nat} {s : SS} {ps : List SP} (e : s.pieces = some ps) : behindStep n s .first = firstOut s := by
  obtain ⟨cs, p, t, r, m, k⟩ := s; cases e; rfl
theorem behindStep_later {n : Nat} {s : SS} (hI : s.Inv) {a : Act} (h : ∀ ps, s.pieces = some ps → ps.length ≤ n ∧ a.inn ps.length) : Later s (fun x y c => cstep n (if s.spots = 0 then x else y) c a) (adds a) (behindStep (n + 1) s a) := by
  cases e : s.pieces with
  | none =>
    rw [bs_none e]
    refine ⟨fun t ht => ?_, fun t ht hn => ?_, fun t ht x y g => ?_, fun x y _ _ g => ⟨s, List.mem_singleton.mpr rfl, g⟩⟩
    · rw [List.mem_singleton.mp ht]; exact hI
    · rw [List.mem_singleton.mp ht] at hn; exact absurd e hn
    · rw [List.mem_singleton.mp ht] at g ⊢
      refine ⟨g, ?_⟩
      unfold SS.ev; rw [e]; rfl
  | some ps =>
    obtain ⟨h1, h2⟩ := h ps e
    cases a with
    | light i l => rw [bs_light e]; exact light_later hI e h2 l n
    | quench i => rw [bs_quench e]; exact quench_later hI e h2 n
    | ring => rw [bs_ring e]; exact ring_later hI (n := n)
    | spot i => rw [bs_spot e]; exact spot_later hI e h2 n
    | wait i => rw [bs_wait e]; exact waited_later n s i hI (Nat.le_trans (nburn_le e) h1)
    | first => rw [bs_first e]; exact firstOut_later hI
theorem ev_some {s : SS} {ps : List SP} (h : s.pieces = some ps) (x y : Rat) : ∃ c, s.ev x y = some c ∧ c.pieces.length = ps.length := by
  unfold SS.ev
  rw [h]
  exact ⟨_, rfl, by simp⟩
theorem later_length {s t : SS} {f : Rat → Rat → CS → Option CS} {k j : Nat} {L : List SS} (h : Later s f k L) (ht : t ∈ L) (hf : ∀ x y c c', f x y c = some c' → c'.pieces.length = c.pieces.length + j) {qs : List SP} (hq : t.pieces = some qs) : ∃ ps, s.pieces = some ps ∧ qs.length = ps.length + j := by
  obtain ⟨x, y, g⟩ := (h.inv t ht).sat
  obtain ⟨_, e⟩ := h.ev t ht x y g
  obtain ⟨c', e', l'⟩ := ev_some hq x y
  cases hs : s.pieces with
  | none => rw [e'] at e; unfold SS.ev at e; rw [hs] at e; cases e
  | some ps =>
    obtain ⟨c, ec, lc⟩ := ev_some hs x y
    rw [e', ec] at e
    exact ⟨ps, rfl, by rw [← l', ← lc]; exact hf x y c c' e.symm⟩
theorem allFrom_later {n : Nat} : ∀ (as : List Act) (N k : Nat) (s : SS), s.Inv → (∀ ps, s.pieces = some ps → ps.length = N ∧ s.spots = k) → stepsIn N as → N + spotsOf as ≤ n →
    Later s (fun x y c => crun n x y k c as) (spotsOf as) (allFrom n [s] as)
  | [], N, k, s, hI, _, _, _ => Later.nil hI
  | a :: as, N, k, s, hI, hk, ⟨h1, h2⟩, hn => by
    have hs : spotsOf (a :: as) = adds a + spotsOf as := by simp [spotsOf]
    rw [hs] at hn
    have L1 := behindStep_later (n := n) (a := a) hI fun ps e => ⟨by have := (hk ps e).1; omega, by rw [(hk ps e).1]; exact h1⟩
    have L2 : ∀ t ∈ behindStep (n + 1) s a, Later t (fun x y c => crun n x y (k + adds a) c as) (spotsOf as) (allFrom n [t] as) := fun t ht => by
      refine allFrom_later as (N + adds a) (k + adds a) t (L1.inv t ht) (fun qs e => ?_) h2 (by omega)
      obtain ⟨ps, e1, e2⟩ := later_length L1 ht (fun x y c c' h => length_cstep h) e
      obtain ⟨q1, q2⟩ := hk ps e1
      obtain ⟨_, q3⟩ := L1.sp t ht (by rw [e]; simp)
      exact ⟨by omega, by omega⟩
    have := L1.bind L2
    have e : allFrom n [s] (a :: as) = (behindStep (n + 1) s a).flatMap fun t => allFrom n [t] as := by
      rw [← allFrom_flat]
      show allFrom n ([s].flatMap fun s => behindStep (n + 1) s a) as = _
      simp
    rw [e, hs]
    refine this.congr fun x y c _ hc => ?_
    show (cstep n (if s.spots = 0 then x else y) c a).bind (fun c' => crun n x y (k + adds a) c' as) = (cstep n (if k = 0 then x else y) c a).bind fun c' => crun n x y (k + adds a) c' as
    cases hp : s.pieces with
    | none => unfold SS.ev at hc; rw [hp] at hc; cases hc
    | some ps => rw [(hk ps hp).2]
def startS (fs : List Nat) (cs : List Lcnd) : SS := ⟨cs, some (fs.map fun f : Nat => ⟨⟨(f : Int), 0, 0, 1⟩, false, false⟩), .nothing, [], [], 0⟩
def startC (fs : List Nat) : CS := ⟨fs.map fun f : Nat => ⟨(f : Rat), false, false⟩, 0, [], []⟩
theorem val_fuse (f : Nat) (x y : Rat) : Amt.val ⟨(f : Int), 0, 0, 1⟩ x y = f := by
  unfold Amt.val
  simp only [Rat.intCast_natCast, Rat.intCast_zero, Rat.intCast_one]
  grind
theorem start_inv {fs : List Nat} (hf : ∀ f ∈ fs, 1 ≤ f) {cs : List Lcnd} (hn : NoAt cs 3) (hs : Sat cs) : (startS fs cs).Inv := by
  refine ⟨hn, hs, fun ps e => ?_, Amt.low_nothing, (fun m hm => nomatch hm), (fun m hm => nomatch hm)⟩
  cases e
  have m : ∀ p ∈ fs.map (fun f : Nat => (⟨⟨(f : Int), 0, 0, 1⟩, false, false⟩ : SP)), ∃ f : Nat, 1 ≤ f ∧ p = ⟨⟨(f : Int), 0, 0, 1⟩, false, false⟩ := fun p hp => by
    obtain ⟨f, hm, rfl⟩ := List.mem_map.mp hp
    exact ⟨f, hf f hm, rfl⟩
  refine ⟨fun p hp => ?_, fun p hp => ?_, fun p hp _ x y _ => ?_⟩
  · obtain ⟨f, _, rfl⟩ := m p hp; exact Amt.low_fuse _
  · obtain ⟨f, _, rfl⟩ := m p hp; exact fun _ => ⟨rfl, rfl⟩
  · obtain ⟨f, h, rfl⟩ := m p hp
    show 0 < Amt.val ⟨(f : Int), 0, 0, 1⟩ x y
    rw [val_fuse]
    exact natCast_pos' h
theorem start_ev (fs : List Nat) (cs : List Lcnd) (x y : Rat) : (startS fs cs).ev x y = some (startC fs) := by
  unfold SS.ev startS startC
  simp only [Option.map_some, List.map_map, List.map_nil, Amt.val_nothing]
  congr 2
  refine List.map_congr_left fun f _ => ?_
  show SP.at _ x y = _
  unfold SP.at
  simp only [val_fuse]
/-- what comes of a script with told minutes -/
def fateOf (n : Nat) (fs : List Nat) (as : List Act) (x y : Rat) : Option CS := crun n x y 0 (startC fs) as
structure Covers (cs : List Lcnd) (F : Rat → Rat → Option CS) (L : List SS) : Prop where
  inv : ∀ t ∈ L, t.Inv
  ev : ∀ t ∈ L, ∀ x y, Gd t.conds x y → Gd cs x y ∧ t.ev x y = F x y
  cov : ∀ x y, 0 ≤ x → 0 ≤ y → Gd cs x y → ∃ t ∈ L, Gd t.conds x y
theorem all_covers {n : Nat} {fs : List Nat} {as : List Act} {cs : List Lcnd} (hf : ∀ f ∈ fs, 1 ≤ f) (hs : stepsIn fs.length as) (hn : fs.length + spotsOf as ≤ n) (h3 : NoAt cs 3) (sat : Sat cs) :
    Covers cs (fateOf n fs as) (allFrom n [startS fs cs] as) := by
  have L := allFrom_later (n := n) as fs.length 0 (startS fs cs) (start_inv hf h3 sat) (fun ps e => by cases e; exact ⟨by simp, rfl⟩) hs hn
  refine ⟨L.inv, fun t ht x y g => ?_, L.cov⟩
  obtain ⟨g1, e⟩ := L.ev t ht x y g
  rw [start_ev] at e
  exact ⟨g1, e⟩
end Li

set_option linter.all false
set_option maxHeartbeats 400000
namespace Li
/-! ### how great the numbers get -/
def Bd (B : Nat) (i : Int) : Prop := i.natAbs < 2 ^ B
theorem Bd.mono {B C : Nat} {i : Int} (h : Bd B i) (hc : B ≤ C) : Bd C i := Nat.lt_of_lt_of_le h (Nat.pow_le_pow_right (by decide) hc)
theorem Bd.mul {B C : Nat} {i j : Int} (h : Bd B i) (g : Bd C j) : Bd (B + C) (i * j) := by
  unfold Bd at *
  rw [Int.natAbs_mul, Nat.pow_add]
  exact Nat.mul_lt_mul'' h g
theorem Bd.add {B : Nat} {i j : Int} (h : Bd B i) (g : Bd B j) : Bd (B + 1) (i + j) := by
  unfold Bd at *
  have := Int.natAbs_add_le i j
  rw [Nat.pow_succ]; omega
theorem Bd.neg {B : Nat} {i : Int} (h : Bd B i) : Bd B (-i) := by unfold Bd at *; rw [Int.natAbs_neg]; exact h
theorem Bd.of_le {B : Nat} {i j : Int} (h : Bd B j) (e : i.natAbs ≤ j.natAbs) : Bd B i := Nat.lt_of_le_of_lt e h
theorem ediv_natAbs_le {x g : Int} (h : g ∣ x) : (x / g).natAbs ≤ x.natAbs := by
  obtain ⟨k, rfl⟩ := h
  by_cases hg : g = 0
  · subst hg; simp
  · rw [Int.mul_ediv_cancel_left _ hg, Int.natAbs_mul]
    exact Nat.le_mul_of_pos_left _ (by omega)
namespace Amt
structure Fit (B : Nat) (m : Amt) : Prop where
  pos : 0 < m.d
  c : Bd B m.c
  a : Bd B m.a
  b : Bd B m.b
  d : Bd B m.d
theorem Fit.mono {B C : Nat} {m : Amt} (h : Fit B m) (hc : B ≤ C) : Fit C m := ⟨h.pos, h.c.mono hc, h.a.mono hc, h.b.mono hc, h.d.mono hc⟩
theorem fit_whole {B : Nat} {c a b d : Int} (hd : 0 < d) (h1 : Bd B c) (h2 : Bd B a) (h3 : Bd B b) (h4 : Bd B d) : Fit B (whole c a b d) := by
  obtain ⟨g1, g2, g3, g4⟩ := gcd4_dvd c a b d
  exact ⟨whole_pos hd, h1.of_le (ediv_natAbs_le g1), h2.of_le (ediv_natAbs_le g2), h3.of_le (ediv_natAbs_le g3), h4.of_le (ediv_natAbs_le g4)⟩
theorem Fit.times {B C : Nat} {m : Amt} (h : Fit B m) {t b : Int} (ht : Bd C t) (hb : Bd C b) (h0 : 0 < b) : Fit (B + C) (times m t b) :=
  fit_whole (Int.mul_pos h.pos h0) (h.c.mul ht) (h.a.mul ht) (h.b.mul ht) (h.d.mul hb)
theorem Fit.neg1 {B : Nat} {m : Amt} (h : Fit B m) : Fit B (Amt.times m (-1) 1) := by
  refine fit_whole (Int.mul_pos h.pos (by decide)) ?_ ?_ ?_ ?_
  · rw [Int.mul_neg_one]; exact h.c.neg
  · rw [Int.mul_neg_one]; exact h.a.neg
  · rw [Int.mul_neg_one]; exact h.b.neg
  · rw [Int.mul_one]; exact h.d
theorem Fit.plus {B : Nat} {m n : Amt} (h : Fit B m) (g : Fit B n) : Fit (B + B + 1) (plus m n) :=
  fit_whole (Int.mul_pos h.pos g.pos) ((h.c.mul g.d).add (g.c.mul h.d)) ((h.a.mul g.d).add (g.a.mul h.d)) ((h.b.mul g.d).add (g.b.mul h.d)) ((h.d.mul g.d).mono (by omega))
theorem Fit.minus {B : Nat} {m n : Amt} (h : Fit B m) (g : Fit B n) : Fit (B + B + 1) (minus m n) := h.plus g.neg1
/-- below divides N, and nothing is more than M times below -/
structure Sz (N M : Nat) (m : Amt) : Prop where
  pos : 0 < m.d
  dvd : m.d ∣ (N : Int)
  c : m.c.natAbs ≤ M * m.d.natAbs
  a : m.a.natAbs ≤ M * m.d.natAbs
  b : m.b.natAbs ≤ M * m.d.natAbs
theorem Sz.mono {N M N' M' : Nat} {m : Amt} (h : Sz N M m) (hN : N ∣ N') (hM : M ≤ M') : Sz N' M' m :=
  ⟨h.pos, Int.dvd_trans h.dvd (Int.natCast_dvd_natCast.mpr hN), Nat.le_trans h.c (Nat.mul_le_mul_right _ hM), Nat.le_trans h.a (Nat.mul_le_mul_right _ hM), Nat.le_trans h.b (Nat.mul_le_mul_right _ hM)⟩
theorem Sz.fit {N M B : Nat} {m : Amt} (h : Sz N M m) (hN : 0 < N) (hM : 0 < M) (hB : M * N < 2 ^ B) : Fit B m := by
  have hd : m.d.natAbs ≤ N := by
    have := Int.le_of_dvd (by omega) h.dvd
    have := h.pos
    omega
  have k : ∀ i : Int, i.natAbs ≤ M * m.d.natAbs → Bd B i := fun i hi => Nat.lt_of_le_of_lt (Nat.le_trans hi (Nat.mul_le_mul_left _ hd)) hB
  exact ⟨h.pos, k _ h.c, k _ h.a, k _ h.b, Nat.lt_of_le_of_lt (Nat.le_trans hd (Nat.le_mul_of_pos_left _ hM)) hB⟩
theorem whole_sz {N M : Nat} (hN : 0 < N) {c a b d : Int} (hd : 0 < d) (h1 : d ∣ N * c) (h2 : d ∣ N * a) (h3 : d ∣ N * b) (b1 : c.natAbs ≤ M * d.natAbs) (b2 : a.natAbs ≤ M * d.natAbs) (b3 : b.natAbs ≤ M * d.natAbs) : Sz N M (whole c a b d) := by
  obtain ⟨e1, e2, e3, e4⟩ := whole_eqs (c := c) (a := a) (b := b) (d := d) (by omega)
  have hg : (0 : Int) < gcd4 c a b d := by exact_mod_cast gcd4_pos (c := c) (a := a) (b := b) (by omega)
  have hdv : (whole c a b d).d ∣ (N : Int) := by
    have k : d ∣ (gcd4 (c * N) (a * N) (b * N) (d * N) : Int) := dvd_gcd4 (by rw [Int.mul_comm]; exact h1) (by rw [Int.mul_comm]; exact h2) (by rw [Int.mul_comm]; exact h3) (Int.dvd_mul_right _ _)
    rw [gcd4_mul (by omega)] at k
    obtain ⟨q, hq⟩ := k
    refine ⟨q, ?_⟩
    have : (gcd4 c a b d : Int) * N = gcd4 c a b d * ((whole c a b d).d * q) := by rw [hq, ← e4]; grind
    exact Int.eq_of_mul_eq_mul_left (by omega) this
  have bnd : ∀ x y : Int, y * gcd4 c a b d = x → x.natAbs ≤ M * d.natAbs → y.natAbs ≤ M * (whole c a b d).d.natAbs := fun x y e h => by
    have hn := congrArg Int.natAbs e
    have hn4 := congrArg Int.natAbs e4
    rw [Int.natAbs_mul] at hn hn4
    rw [← hn, ← hn4] at h
    rw [← Nat.mul_assoc] at h
    exact Nat.le_of_mul_le_mul_right h (by omega)
  exact ⟨whole_pos hd, hdv, bnd _ _ e1 b1, bnd _ _ e2 b2, bnd _ _ e3 b3⟩
theorem Sz.times1 {N M : Nat} (hN : 0 < N) {m : Amt} (h : Sz N M m) (t : Int) : Sz N (M * t.natAbs) (times m t 1) := by
  have dv : ∀ x : Int, m.d * 1 ∣ N * x := fun x => by rw [Int.mul_one]; exact Int.dvd_trans h.dvd (Int.dvd_mul_right _ _)
  have bd : ∀ x : Int, x.natAbs ≤ M * m.d.natAbs → (x * t).natAbs ≤ M * t.natAbs * (m.d * 1).natAbs := fun x hx => by
    rw [Int.mul_one, Int.natAbs_mul]
    calc x.natAbs * t.natAbs ≤ M * m.d.natAbs * t.natAbs := Nat.mul_le_mul_right _ hx
      _ = M * t.natAbs * m.d.natAbs := by rw [Nat.mul_right_comm]
  exact whole_sz hN (Int.mul_pos h.pos (by decide)) (dv _) (dv _) (dv _) (bd _ h.c) (bd _ h.a) (bd _ h.b)
/-- a part of it, below at most b -/
theorem Sz.part {N M : Nat} (hN : 0 < N) {m : Amt} (h : Sz N M m) {b : Nat} (hb : 0 < b) : Sz (N * b) M (times m 1 b) := by
  have dv : ∀ x : Int, m.d * b ∣ ((N * b : Nat) : Int) * x := fun x => by
    obtain ⟨q, hq⟩ := h.dvd
    exact ⟨q * x, by rw [Int.natCast_mul, hq]; grind⟩
  have bd : ∀ x : Int, x.natAbs ≤ M * m.d.natAbs → (x * 1).natAbs ≤ M * (m.d * b).natAbs := fun x hx => by
    rw [Int.mul_one, Int.natAbs_mul]
    exact Nat.le_trans hx (Nat.mul_le_mul_left _ (Nat.le_mul_of_pos_right _ (by omega)))
  exact whole_sz (Nat.mul_pos hN hb) (Int.mul_pos h.pos (by omega)) (dv _) (dv _) (dv _) (bd _ h.c) (bd _ h.a) (bd _ h.b)
theorem Sz.plus {N M1 M2 : Nat} (hN : 0 < N) {m n : Amt} (h : Sz N M1 m) (g : Sz N M2 n) : Sz N (M1 + M2) (plus m n) := by
  have dv : ∀ x y : Int, m.d * n.d ∣ (N : Int) * (x * n.d + y * m.d) := fun x y => by
    obtain ⟨q, hq⟩ := h.dvd
    obtain ⟨r, hr⟩ := g.dvd
    refine ⟨q * x + r * y, ?_⟩
    have e1 : (N : Int) * (x * n.d) = m.d * n.d * (q * x) := by rw [hq]; grind
    have e2 : (N : Int) * (y * m.d) = m.d * n.d * (r * y) := by rw [hr]; grind
    rw [Int.mul_add, e1, e2]; grind
  have bd : ∀ x y : Int, x.natAbs ≤ M1 * m.d.natAbs → y.natAbs ≤ M2 * n.d.natAbs → (x * n.d + y * m.d).natAbs ≤ (M1 + M2) * (m.d * n.d).natAbs := fun x y hx hy => by
    have := Int.natAbs_add_le (x * n.d) (y * m.d)
    rw [Int.natAbs_mul, Int.natAbs_mul] at this
    rw [Int.natAbs_mul]
    have a1 := Nat.mul_le_mul_right n.d.natAbs hx
    have a2 := Nat.mul_le_mul_right m.d.natAbs hy
    calc (x * n.d + y * m.d).natAbs ≤ x.natAbs * n.d.natAbs + y.natAbs * m.d.natAbs := this
      _ ≤ M1 * m.d.natAbs * n.d.natAbs + M2 * n.d.natAbs * m.d.natAbs := Nat.add_le_add a1 a2
      _ = (M1 + M2) * (m.d.natAbs * n.d.natAbs) := by grind
  exact whole_sz hN (Int.mul_pos h.pos g.pos) (dv _ _) (dv _ _) (dv _ _) (bd _ _ h.c g.c) (bd _ _ h.a g.a) (bd _ _ h.b g.b)
theorem Sz.minus {N M1 M2 : Nat} (hN : 0 < N) {m n : Amt} (h : Sz N M1 m) (g : Sz N M2 n) : Sz N (M1 + M2) (minus m n) := by
  have := g.times1 hN (-1)
  rw [show ((-1 : Int)).natAbs = 1 from rfl, Nat.mul_one] at this
  exact h.plus hN this
end Amt
/-! rows -/
structure Lrow.Fit (B : Nat) (r : Lrow) : Prop where
  f0 : Bd B r.p0
  f1 : Bd B r.p1
  f2 : Bd B r.p2
  f3 : Bd B r.p3
theorem Lrow.Fit.mono {B C : Nat} {r : Lrow} (h : r.Fit B) (hc : B ≤ C) : r.Fit C := ⟨h.f0.mono hc, h.f1.mono hc, h.f2.mono hc, h.f3.mono hc⟩
theorem Lrow.Fit.get {B : Nat} {r : Lrow} (h : r.Fit B) (i : Nat) : Bd B (r.get i) := by
  unfold Lrow.get; split
  · exact h.f0
  · exact h.f1
  · exact h.f2
  · exact h.f3
theorem Lrow.Fit.scaled {B C : Nat} {r : Lrow} (h : r.Fit B) {k : Int} (hk : Bd C k) : (r.scaled k).Fit (C + B) := ⟨hk.mul h.f0, hk.mul h.f1, hk.mul h.f2, hk.mul h.f3⟩
theorem Lrow.Fit.added {B : Nat} {r s : Lrow} (h : r.Fit B) (g : s.Fit B) : (r.added s).Fit (B + 1) := ⟨h.f0.add g.f0, h.f1.add g.f1, h.f2.add g.f2, h.f3.add g.f3⟩
theorem Lrow.Fit.lowered {B : Nat} {r : Lrow} (h : r.Fit B) : r.lowered.Fit B := by
  unfold Lrow.lowered
  simp only
  split
  · obtain ⟨g1, g2, g3, g4⟩ := Lrow.common_dvd r
    exact ⟨h.f0.of_le (ediv_natAbs_le g1), h.f1.of_le (ediv_natAbs_le g2), h.f2.of_le (ediv_natAbs_le g3), h.f3.of_le (ediv_natAbs_le g4)⟩
  · exact h
theorem Lrow.Fit.without {B : Nat} {r e : Lrow} (h : r.Fit B) (g : e.Fit B) (i : Nat) : (r.without e i).Fit (B + B + 1) := by
  unfold Lrow.without
  refine Lrow.Fit.added (h.scaled ?_) (g.scaled ?_)
  · have := g.get i
    unfold Bd at *
    rw [Int.natAbs_natCast]; exact this
  · refine (h.get i).of_le ?_
    rw [Int.natAbs_mul]
    split <;> simp
theorem crossed_fit {B : Nat} {r e : Lrow} (h : r.Fit B) (g : e.Fit B) (i : Nat) : (crossed r e i).row.Fit (B + B + 1) := by
  unfold crossed
  exact Lrow.Fit.added (h.scaled (g.get i).neg) (g.scaled (h.get i))
def AllFit (B : Nat) (cs : List Lcnd) : Prop := ∀ c ∈ cs, c.row.Fit B
theorem AllFit.mono {B C : Nat} {cs : List Lcnd} (h : AllFit B cs) (hc : B ≤ C) : AllFit C cs := fun c hm => (h c hm).mono hc
theorem AllFit.append {B : Nat} {cs ds : List Lcnd} (h : AllFit B cs) (g : AllFit B ds) : AllFit B (cs ++ ds) := fun c hc => (List.mem_append.mp hc).elim (h c) (g c)
theorem unlike_fit {B : Nat} {cs : List Lcnd} (h : AllFit B cs) : AllFit B (unlike cs) := fun d hd => by
  obtain ⟨c, hc, rfl⟩ := mem_unlike.mp hd
  exact (h c hc).lowered
theorem reduced_fit {B : Nat} {cs : List Lcnd} (h : AllFit B cs) (i : Nat) : AllFit (B + B + 1) (reduced cs i) := by
  unfold reduced
  split
  · rename_i e es he
    have hm : e ∈ (cs.filter fun c => !c.strict && decide (c.row.get i ≠ 0)).map (·.row) := by rw [he]; exact List.mem_cons_self
    obtain ⟨ce, hce, rfl⟩ := List.mem_map.mp hm
    obtain ⟨hc, hs⟩ := List.mem_filter.mp hce
    refine unlike_fit fun d hd => ?_
    obtain ⟨c, hcc, rfl⟩ := List.mem_map.mp hd
    exact (h c (List.mem_filter.mp hcc).1).without (h ce hc) i
  · refine unlike_fit fun d hd => ?_
    rcases List.mem_append.mp hd with hd | hd
    · exact (h d (List.mem_filter.mp hd).1).mono (by omega)
    · obtain ⟨r, hr, hd⟩ := List.mem_flatMap.mp hd
      obtain ⟨s, hs, rfl⟩ := List.mem_map.mp hd
      obtain ⟨c1, m1, g1, rfl⟩ := mem_lows.mp hr
      obtain ⟨c2, m2, g2, rfl⟩ := mem_highs.mp hs
      exact crossed_fit (h c1 m1) (h c2 m2) i
theorem positive_fit {B : Nat} {m : Amt} (h : m.Fit B) : (positive m).row.Fit B := ⟨h.c, h.a, h.b, by show (0 : Int).natAbs < _; exact Nat.two_pow_pos B⟩
theorem zero_fit {B : Nat} {m : Amt} (h : m.Fit B) : (zero m).row.Fit B := ⟨h.c, h.a, h.b, by show (0 : Int).natAbs < _; exact Nat.two_pow_pos B⟩
end Li

set_option Elab.async false
set_option linter.all false
set_option maxRecDepth 100000
set_option maxHeartbeats 1000000
/-! The program's amounts. -/
namespace Li
open PySem PySem.Spec PyProof.Rows L2
variable [Tbl] [cC : Cls]
def amtD (m : Amt) : D := .tup [.int m.c, .int m.a, .int m.b, .int m.d]
def ratD (q : Rat) : D := .tup [.int q.num, .int (q.den : Int)]
theorem log2_bd {B : Nat} {i : Int} (h : Bd B i) (hB : 0 < B) : i.natAbs.log2 < B := by
  by_cases h0 : i.natAbs = 0
  · rw [h0]; exact hB
  · exact (Nat.log2_lt h0).mpr h
theorem mulOk_bd {B C : Nat} {i j : Int} (h : Bd B i) (g : Bd C j) (hB : 0 < B) (hC : 0 < C) (hs : B + C ≤ 1000000) : MulOk i j := .inr (by
  have h1 := log2_bd h hB
  have h2 := log2_bd g hC
  show i.natAbs.log2 + j.natAbs.log2 < 1000000
  omega)
theorem divOk_bd {B : Nat} {j : Int} (h : Bd B j) (h0 : 0 < j) (hB : 0 < B) (hs : B ≤ 9000) : DivOk j := ⟨h0, by have := log2_bd h hB; omega⟩
def sp_whole : DSp := fun ds μ Q E => ∃ c a b d : Int, ds = [.int c, .int a, .int b, .int d] ∧ 0 < d ∧ Bd 9000 d ∧ Q (amtD (Amt.whole c a b d)) μ
def sp_plus : DSp := fun ds μ Q E => ∃ m n : Amt, ds = [amtD m, amtD n] ∧ m.Fit 4400 ∧ n.Fit 4400 ∧ Q (amtD (m.plus n)) μ
def sp_times : DSp := fun ds μ Q E => ∃ (m : Amt) (t b : Int), ds = [amtD m, .int t, .int b] ∧ m.Fit 4400 ∧ Bd 4400 t ∧ Bd 4400 b ∧ 0 < b ∧ Q (amtD (m.times t b)) μ
def sp_minus : DSp := fun ds μ Q E => ∃ m n : Amt, ds = [amtD m, amtD n] ∧ m.Fit 4400 ∧ n.Fit 4400 ∧ Q (amtD (m.minus n)) μ
def sp_number : DSp := fun ds μ Q E => ∃ q : Rat, ds = [ratD q] ∧ Q (amtD (Amt.num q)) μ
def sp_fraction : DSp := fun ds μ Q E => ∃ t b : Int, ds = [.int t, .int b] ∧ b ≠ 0 ∧ Bd 9000 b ∧ Q (ratD (Rat.divInt t b)) μ
def sp_less : DSp := fun ds μ Q E => ∃ p q : Rat, ds = [ratD p, ratD q] ∧ (Bd 400000 p.num ∧ Bd 400000 p.den ∧ Bd 400000 q.num ∧ Bd 400000 q.den) ∧ Q (.bl (decide (p < q))) μ
abbrev nm_whole : List Str := ["one", "two", "three", "below", "common"]
abbrev ps_whole : List Str := ["one", "two", "three", "below"]
def t_whole (Ed : DXK) : DTS := (dSeq (dAsg (dCall sp_divisor (dCons (dCall sp_divisor (dCons (dCall sp_divisor (dCons (dVar 3) (dCons (dVar 0) dNil))) (dCons (dVar 1) dNil))) (dCons (dVar 2) dNil))) (dName 4)) (dRet (dTup (dCons (dBin kDiv (dVar 0) (dVar 4)) (dCons (dBin kDiv (dVar 1) (dVar 4)) (dCons (dBin kDiv (dVar 2) (dVar 4)) (dCons (dBin kDiv (dVar 3) (dVar 4)) dNil)))))))
abbrev nm_plus : List Str := ["one", "other", "sums", "at"]
abbrev ps_plus : List Str := ["one", "other"]
def t_plus (Ed : DXK) : DTS := (dSeq (dAsg (dLc (dRange1 (dCons (dC (.int 3)) dNil)) (dName 3) dYes (dBin kAdd (dBin kMul (dBin kIx (dVar 0) (dVar 3)) (dBin kIx (dVar 1) (dC (.int 3)))) (dBin kMul (dBin kIx (dVar 1) (dVar 3)) (dBin kIx (dVar 0) (dC (.int 3))))) [3]) (dName 2)) (dRet (dCall sp_whole (dCons (dBin kIx (dVar 2) (dC (.int 0))) (dCons (dBin kIx (dVar 2) (dC (.int 1))) (dCons (dBin kIx (dVar 2) (dC (.int 2))) (dCons (dBin kMul (dBin kIx (dVar 0) (dC (.int 3))) (dBin kIx (dVar 1) (dC (.int 3)))) dNil)))))))
abbrev nm_times : List Str := ["amount", "top", "below"]
abbrev ps_times : List Str := ["amount", "top", "below"]
def t_times (Ed : DXK) : DTS := (dRet (dCall sp_whole (dCons (dBin kMul (dBin kIx (dVar 0) (dC (.int 0))) (dVar 1)) (dCons (dBin kMul (dBin kIx (dVar 0) (dC (.int 1))) (dVar 1)) (dCons (dBin kMul (dBin kIx (dVar 0) (dC (.int 2))) (dVar 1)) (dCons (dBin kMul (dBin kIx (dVar 0) (dC (.int 3))) (dVar 2)) dNil))))))
abbrev nm_minus : List Str := ["one", "other"]
abbrev ps_minus : List Str := ["one", "other"]
def t_minus (Ed : DXK) : DTS := (dRet (dCall sp_plus (dCons (dVar 0) (dCons (dCall sp_times (dCons (dVar 1) (dCons (dNeg (dC (.int 1))) (dCons (dC (.int 1)) dNil)))) dNil))))
abbrev nm_number : List Str := ["value"]
abbrev ps_number : List Str := ["value"]
def t_number (Ed : DXK) : DTS := (dRet (dTup (dCons (dBin kIx (dVar 0) (dC (.int 0))) (dCons (dC (.int 0)) (dCons (dC (.int 0)) (dCons (dBin kIx (dVar 0) (dC (.int 1))) dNil))))))
abbrev nm_fraction : List Str := ["top", "below", "common"]
abbrev ps_fraction : List Str := ["top", "below"]
def t_fraction (Ed : DXK) : DTS := (dSeq (dAsg (dCall sp_divisor (dCons (dVar 0) (dCons (dVar 1) dNil))) (dName 2)) (dSeq (dIfS (dTest (dBin kLt (dVar 1) (dC (.int 0)))) (dAsg (dNeg (dVar 2)) (dName 2)) dNext) (dRet (dTup (dCons (dBin kFdv (dVar 0) (dVar 2)) (dCons (dBin kFdv (dVar 1) (dVar 2)) dNil))))))
abbrev nm_less : List Str := ["one", "other"]
abbrev ps_less : List Str := ["one", "other"]
def t_less (Ed : DXK) : DTS := (dRet (dBin kLt (dBin kMul (dBin kIx (dVar 0) (dC (.int 0))) (dBin kIx (dVar 1) (dC (.int 1)))) (dBin kMul (dBin kIx (dVar 1) (dC (.int 0))) (dBin kIx (dVar 0) (dC (.int 1))))))
theorem pure_whole (ds : List D) (μ : MS) (Q : DK) (Ed : DXK) (h : sp_whole ds μ Q Ed) : t_whole Ed { nx := fun _ μ => Q .non μ, rt := Q } (dstart nm_whole ds) μ := by
  obtain ⟨c, a, b, d, rfl, hd, hb, q⟩ := h
  have hg : DivOk (Amt.gcd4 c a b d : Int) := divOk_le (divOk_bd hb hd (by decide) (by decide)) (by exact_mod_cast Amt.gcd4_pos (by omega)) (Int.le_of_dvd hd (Amt.gcd4_dvd c a b d).2.2.2)
  exact ⟨_, _, rfl, _, _, rfl, _, _, rfl, hg, hg, hg, hg, q⟩
theorem intsD_three : intsD 0 ((3 : Int)).toNat = [.int 0, .int 1, .int 2] := rfl
theorem pure_plus (ds : List D) (μ : MS) (Q : DK) (Ed : DXK) (h : sp_plus ds μ Q Ed) : t_plus Ed { nx := fun _ μ => Q .non μ, rt := Q } (dstart nm_plus ds) μ := by
  obtain ⟨m, n, rfl, hm, hn, q⟩ := h
  have k : ∀ {x y : Int}, Bd 4400 x → Bd 4400 y → MulOk x y := fun h g => mulOk_bd h g (by decide) (by decide) (by decide)
  refine ⟨by decide, by decide, ?_⟩
  refine ⟨k hm.c hn.d, k hn.c hm.d, k hm.a hn.d, k hn.a hm.d, k hm.b hn.d, k hn.b hm.d, k hm.d hn.d, ?_⟩
  exact ⟨_, _, _, _, rfl, Int.mul_pos hm.pos hn.pos, (hm.d.mul hn.d).mono (by decide), q⟩
theorem pure_times (ds : List D) (μ : MS) (Q : DK) (Ed : DXK) (h : sp_times ds μ Q Ed) : t_times Ed { nx := fun _ μ => Q .non μ, rt := Q } (dstart nm_times ds) μ := by
  obtain ⟨m, t, b, rfl, hm, ht, hb, h0, q⟩ := h
  have k : ∀ {x y : Int}, Bd 4400 x → Bd 4400 y → MulOk x y := fun h g => mulOk_bd h g (by decide) (by decide) (by decide)
  exact ⟨k hm.c ht, k hm.a ht, k hm.b ht, k hm.d hb, _, _, _, _, rfl, Int.mul_pos hm.pos h0, (hm.d.mul hb).mono (by decide), q⟩
theorem pure_minus (ds : List D) (μ : MS) (Q : DK) (Ed : DXK) (h : sp_minus ds μ Q Ed) : t_minus Ed { nx := fun _ μ => Q .non μ, rt := Q } (dstart nm_minus ds) μ := by
  obtain ⟨m, n, rfl, hm, hn, q⟩ := h
  have b1 : ∀ i : Int, i.natAbs ≤ 1 → Bd 4400 i := fun i hi => Bd.mono (B := 1) (show i.natAbs < 2 ^ 1 by omega) (by decide)
  exact ⟨n, -1, 1, rfl, hn, b1 _ (by decide), b1 _ (by decide), by decide, m, _, rfl, hm, hn.neg1, q⟩
theorem pure_number (ds : List D) (μ : MS) (Q : DK) (Ed : DXK) (h : sp_number ds μ Q Ed) : t_number Ed { nx := fun _ μ => Q .non μ, rt := Q } (dstart nm_number ds) μ := by
  obtain ⟨v, rfl, q⟩ := h
  exact q
theorem divInt_parts (t b : Int) (hb : b ≠ 0) : (Rat.divInt t b).num = t.fdiv (if b < 0 then -(Int.gcd t b : Int) else Int.gcd t b) ∧ ((Rat.divInt t b).den : Int) = b.fdiv (if b < 0 then -(Int.gcd t b : Int) else Int.gcd t b) := by
  have hg : (0 : Int) < Int.gcd t b := by exact_mod_cast Int.gcd_pos_of_ne_zero_right t hb
  obtain ⟨x, hx⟩ := Int.gcd_dvd_left (a := t) (b := b)
  obtain ⟨y, hy⟩ := Int.gcd_dvd_right (a := t) (b := b)
  generalize hG : (Int.gcd t b : Int) = G at *
  have fd : ∀ z : Int, (G * z).fdiv G = z := fun z => by rw [Int.fdiv_eq_ediv_of_nonneg _ (by omega)]; exact Int.mul_ediv_cancel_left _ (by omega)
  have fn : ∀ z : Int, (G * z).fdiv (-G) = -z := fun z => by
    have : G * z = (-G) * (-z) := by grind
    rw [this]
    exact Int.mul_fdiv_cancel_left _ (by omega)
  rw [Rat.num_divInt, Rat.den_divInt, if_neg hb, Int.gcd_comm b t]
  have hcast : ((b.natAbs / Int.gcd t b : Nat) : Int) = (b.natAbs : Int) / (Int.gcd t b : Int) := Int.natCast_ediv _ _
  rw [hcast, hG]
  by_cases h0 : b < 0
  · rw [if_pos h0, Int.sign_eq_neg_one_of_neg h0]
    have e1 : -1 * t = G * (-x) := by rw [hx]; grind
    have e2 : (b.natAbs : Int) = G * (-y) := by
      have : (b.natAbs : Int) = -b := by omega
      rw [this, hy]; grind
    rw [e1, e2, Int.mul_ediv_cancel_left _ (by omega), Int.mul_ediv_cancel_left _ (by omega)]
    constructor
    · conv => rhs; rw [hx]
      exact (fn x).symm
    · conv => rhs; rw [hy]
      exact (fn y).symm
  · rw [if_neg h0, Int.sign_eq_one_of_pos (by omega)]
    have e1 : 1 * t = G * x := by rw [hx]; grind
    have e2 : (b.natAbs : Int) = G * y := by
      have : (b.natAbs : Int) = b := by omega
      rw [this, hy]
    rw [e1, e2, Int.mul_ediv_cancel_left _ (by omega), Int.mul_ediv_cancel_left _ (by omega)]
    constructor
    · conv => rhs; rw [hx]
      exact (fd x).symm
    · conv => rhs; rw [hy]
      exact (fd y).symm
theorem gcd_log {t b : Int} (hb : b ≠ 0) (h : Bd 9000 b) : (Int.gcd t b : Int) ≠ 0 ∧ ((Int.gcd t b : Int)).natAbs.log2 < 9000 := by
  have hp : 0 < Int.gcd t b := Int.gcd_pos_of_ne_zero_right t hb
  refine ⟨by omega, log2_bd (B := 9000) ?_ (by decide)⟩
  refine h.of_le ?_
  rw [Int.natAbs_natCast]
  exact Nat.le_of_dvd (by omega) (Nat.gcd_dvd_right t.natAbs b.natAbs)
theorem pure_fraction (ds : List D) (μ : MS) (Q : DK) (Ed : DXK) (h : sp_fraction ds μ Q Ed) : t_fraction Ed { nx := fun _ μ => Q .non μ, rt := Q } (dstart nm_fraction ds) μ := by
  obtain ⟨t, b, rfl, hb, hB, q⟩ := h
  obtain ⟨e1, e2⟩ := divInt_parts t b hb
  obtain ⟨g0, g1⟩ := gcd_log (t := t) hb hB
  unfold ratD at q
  rw [e1, e2] at q
  refine ⟨t, b, rfl, ?_⟩
  refine bcase_of (fun h1 => ?_) fun h1 => ?_
  · have h1 : b < 0 := of_decide_eq_true h1
    rw [if_pos h1] at q
    have c : -(Int.gcd t b : Int) ≠ 0 ∧ (-(Int.gcd t b : Int)).natAbs.log2 < 9000 := ⟨by omega, by rw [Int.natAbs_neg]; exact g1⟩
    exact ⟨c, c, q⟩
  · have h1 : ¬ b < 0 := of_decide_eq_false h1
    rw [if_neg h1] at q
    exact ⟨⟨g0, g1⟩, ⟨g0, g1⟩, q⟩
theorem pure_less (ds : List D) (μ : MS) (Q : DK) (Ed : DXK) (h : sp_less ds μ Q Ed) : t_less Ed { nx := fun _ μ => Q .non μ, rt := Q } (dstart nm_less ds) μ := by
  obtain ⟨p, r, rfl, ⟨h1, h2, h3, h4⟩, q⟩ := h
  have k : ∀ {x y : Int}, Bd 400000 x → Bd 400000 y → MulOk x y := fun h g => mulOk_bd h g (by decide) (by decide) (by decide)
  refine ⟨k h1 h4, k h3 h2, ?_⟩
  have e : decide (p < r) = decide (p.num * (r.den : Int) < r.num * (p.den : Int)) := decide_eq_decide.mpr (Rat.lt_iff p r)
  rw [e] at q
  exact q
end Li

set_option Elab.async false
set_option linter.all false
set_option maxRecDepth 100000
set_option maxHeartbeats 1000000
/-! Loops over lists of plain values. -/
namespace Li
open PySem PySem.Spec PyProof.Rows L2
variable [Tbl]
theorem lcL_map {α : Type} {g : DTG} {tt : DTT} {te : DTE} {ρ : DSt} {μ : MS} (enc out : α → D) (p : α → Bool) : ∀ (xs : List α) (Q : List D → MS → Prop),
    (∀ x, x ∈ xs → ∀ (A : D → MS → Prop) (Z : MS → Prop), (p x = true → A (out x) μ) → (p x = false → Z μ) → g (enc x) ρ μ fun ρ2 μ2 => tt ρ2 μ2 fun b μ3 => bcase b (te ρ2 μ3 A) (Z μ3)) →
    Q ((xs.filter p).map out) μ → lcL g tt te ρ (xs.map enc) μ Q
  | [], Q, _, q => q
  | x :: xs, Q, hs, q => by
    have ih := fun Q' q' => lcL_map enc out p xs Q' (fun y hy => hs y (List.mem_cons_of_mem _ hy)) q'
    refine hs x List.mem_cons_self _ _ (fun e => ?_) fun e => ?_
    · rw [List.filter_cons_of_pos e, List.map_cons] at q
      exact ih _ q
    · rw [List.filter_cons_of_neg (by rw [e]; exact Bool.false_ne_true)] at q
      exact ih _ q
/-- without a test -/
theorem lcL_each {α : Type} {g : DTG} {te : DTE} {ρ : DSt} {μ : MS} (enc out : α → D) (xs : List α) (Q : List D → MS → Prop)
    (hs : ∀ x, x ∈ xs → ∀ (A : D → MS → Prop), A (out x) μ → g (enc x) ρ μ fun ρ2 μ2 => te ρ2 μ2 A) (q : Q (xs.map out) μ) : lcL g dYes te ρ (xs.map enc) μ Q := by
  refine lcL_map enc out (fun _ => true) xs Q (fun x hx A Z h _ => hs x hx A (h rfl)) ?_
  have : xs.filter (fun _ => true) = xs := List.filter_eq_self.mpr fun _ _ => rfl
  rw [this]
  exact q
theorem forL_map {α : Type} {g : DTG} {tb : DTS} {DD : DEnds} (enc : α → D) (I : List α → DSt → MS → Prop) (hs : ∀ x r ρ μ (N : DPS), I (x :: r) ρ μ → (∀ ρ' μ', I r ρ' μ' → N ρ' μ') → g (enc x) ρ μ fun ρ1 μ1 => tb { DD with nx := N, ct := N, bk := DD.nx } ρ1 μ1)
    (hd : ∀ ρ μ, I [] ρ μ → DD.nx ρ μ) : ∀ (xs : List α) (ρ : DSt) (μ : MS), I xs ρ μ → forL g tb DD (xs.map enc) ρ μ
  | [], ρ, μ, h => hd ρ μ h
  | x :: xs, ρ, μ, h => hs x xs ρ μ (forL g tb DD (xs.map enc)) h fun ρ' μ' h' => forL_map enc I hs hd xs ρ' μ' h'
theorem kyL_map {α : Type} {g : DTG} {te : DTE} {μ : MS} (enc out : α → D) (J : DSt → Prop) : ∀ (xs : List α) (acc : List D) (ρ : DSt) (Q : List D → MS → Prop), J ρ →
    (∀ x, x ∈ xs → ∀ ρ, J ρ → ∀ (A : DSt → D → MS → Prop), (∀ ρ', J ρ' → A ρ' (out x) μ) → g (enc x) ρ μ fun ρ2 μ2 => te ρ2 μ2 fun k μ3 => A ρ2 k μ3) → (∀ x, x ∈ xs → isKey (out x)) →
    Q ((xs.map out).foldl insD acc) μ → kyL g te (xs.map enc) acc ρ μ Q
  | [], acc, ρ, Q, _, _, _, q => q
  | x :: xs, acc, ρ, Q, hj, hs, hk, q => by
    refine hs x List.mem_cons_self ρ hj (fun ρ2 k μ3 => isKey k ∧ kyL g te (xs.map enc) (insD acc k) ρ2 μ3 Q) fun ρ' hj' => ⟨hk x List.mem_cons_self, ?_⟩
    exact kyL_map enc out J xs _ ρ' Q hj' (fun y hy => hs y (List.mem_cons_of_mem _ hy)) (fun y hy => hk y (List.mem_cons_of_mem _ hy)) q
end Li

set_option Elab.async false
set_option linter.all false
set_option maxRecDepth 100000
set_option maxHeartbeats 1000000
/-! Errors in order: a value that is no script. -/
namespace Li
open PySem PySem.Spec PyProof.Rows L2
variable [Tbl] [cC : Cls] [fA : Fad]
def saidS : D := .str "script value"
def sp__law_of_script : DSp := fun ds μ Q E => ∃ v, ds = [v] ∧ Dat v ∧ isScript v = false ∧ ∀ μ', (∀ b, μ b ≠ none → μ' b = μ b) → Q (.lst (List.replicate 22 saidS)) μ'
abbrev nm__law_of_script : List Str := ["odd", "found", "call"]
abbrev ps__law_of_script : List Str := ["odd"]
def t__law_of_script (Ed : DXK) : DTS := (dSeq (dAsg (dLstM dNil) (dName 1)) (dSeq (dFor (dSeqI (dTup (dCons (dC (.ref (fA.adr "count_rings"))) (dCons (dC (.ref (fA.adr "count_spots"))) (dCons (dC (.ref (fA.adr "count_pieces"))) (dCons (dC (.ref (fA.adr "courses"))) (dCons (dC (.ref (fA.adr "sure_rings"))) (dCons (dC (.ref (fA.adr "needless"))) (dCons (dC (.ref (fA.adr "script_text"))) dNil))))))))) (dName 2) (dForget [2] (dDrop (dAppend (dVar 1) (dErr fun Ed => (dCallV 2 [(fA.adr "count_rings", sp_count_rings), (fA.adr "count_spots", sp_count_spots), (fA.adr "count_pieces", sp_count_pieces), (fA.adr "courses", sp_courses), (fA.adr "sure_rings", sp_sure_rings), (fA.adr "needless", sp_needless), (fA.adr "script_text", sp_script_text)] Ed (dCons (dVar 0) dNil))))))) (dSeq (dFor (dSeqI (dTup (dCons (dC (.ref (fA.adr "is_fact"))) (dCons (dC (.ref (fA.adr "is_possible"))) (dCons (dC (.ref (fA.adr "rings"))) (dCons (dC (.ref (fA.adr "left"))) (dCons (dC (.ref (fA.adr "course"))) (dCons (dC (.ref (fA.adr "case"))) (dCons (dC (.ref (fA.adr "ring_bounds"))) dNil))))))))) (dName 2) (dForget [2] (dDrop (dAppend (dVar 1) (dErr fun Ed => (dCallV 2 [(fA.adr "is_fact", sp_is_fact), (fA.adr "is_possible", sp_is_possible), (fA.adr "rings", sp_rings), (fA.adr "left", sp_left), (fA.adr "course", sp_course), (fA.adr "case", sp_case), (fA.adr "ring_bounds", sp_ring_bounds)] Ed (dCons (dVar 0) (dCons (dC .non) dNil)))))))) (dSeq (dFor (dSeqI (dTup (dCons (dC (.ref (fA.adr "left_bounds"))) (dCons (dC (.ref (fA.adr "can_ring"))) (dCons (dC (.ref (fA.adr "minutes_with"))) dNil))))) (dName 2) (dForget [2] (dDrop (dAppend (dVar 1) (dErr fun Ed => (dCallV 2 [(fA.adr "left_bounds", sp_left_bounds), (fA.adr "can_ring", sp_can_ring), (fA.adr "minutes_with", sp_minutes_with)] Ed (dCons (dVar 0) (dCons (dC .non) dNil)))))))) (dSeq (dFor (dSeqI (dTup (dCons (dC (.ref (fA.adr "fits"))) (dCons (dC (.ref (fA.adr "alike"))) (dCons (dC (.ref (fA.adr "parting"))) dNil))))) (dName 2) (dForget [2] (dDrop (dAppend (dVar 1) (dErr fun Ed => (dCallV 2 [(fA.adr "fits", sp_fits), (fA.adr "alike", sp_alike), (fA.adr "parting", sp_parting)] Ed (dCons (dVar 0) (dCons (dC .non) dNil)))))))) (dSeq (dFor (dSeqI (dTup (dCons (dC (.ref (fA.adr "spot_bounds"))) (dCons (dC (.ref (fA.adr "surely"))) dNil)))) (dName 2) (dForget [2] (dDrop (dAppend (dVar 1) (dErr fun Ed => (dCallV 2 [(fA.adr "spot_bounds", sp_spot_bounds), (fA.adr "surely", sp_surely)] Ed (dCons (dVar 0) (dCons (dC .non) (dCons (dC .non) dNil))))))))) (dFrz 1 (dRet (dVar 1)))))))))
theorem rep_snoc (k : Nat) (d : D) : List.replicate k d ++ [d] = List.replicate (k + 1) d := (List.replicate_succ' (n := k) (a := d)).symm
/-- each of some functions refuses the value -/
theorem said_loop {tb : List (Addr × DSp)} {ds0 : List D} {ta : DTA} {v : D} {a : Addr} {DD : DEnds} (hta : ∀ (w : D) (μ : MS) (Q : List D → MS → Prop), Q ds0 μ → ta [some v, some (.ref a), some w] μ Q) :
    ∀ (xs : List (Addr × DSp)) (k : Nat) (μ : MS), (∀ p ∈ xs, p ∈ tb ∧ ∀ μ Q E, E (.ref cC.InvalidScript) none μ → p.2 ds0 μ Q E) → μ a = some (.lst (List.replicate k saidS)) → k + xs.length ≤ 100 →
      DD.nx [some v, some (.ref a), none] (mset μ a (some (.lst (List.replicate (k + xs.length) saidS)))) →
      forL (dName 2) (dForget [2] (dDrop (dAppend (dVar 1) (dErr fun Ed => dCallV 2 tb Ed ta)))) DD (xs.map fun p => .ref p.1) [some v, some (.ref a), none] μ
  | [], k, μ, _, ha, _, q => by
    have e : mset μ a (some (.lst (List.replicate (k + 0) saidS))) = μ := by rw [Nat.add_zero, ← ha, mset_id]
    have q : DD.nx [some v, some (.ref a), none] (mset μ a (some (.lst (List.replicate (k + 0) saidS)))) := q
    rw [e] at q
    exact q
  | p :: xs, k, μ, h, ha, hk, q => by
    have hL : sizeLine = 16777216 := sizeLine_eq
    obtain ⟨hp, hs⟩ := h p List.mem_cons_self
    simp only [List.length_cons] at hk
    refine refL_of ha ⟨p, hp, rfl, hta _ _ _ (hs _ _ _ ⟨rfl, .script, rfl, refL_of ha ⟨by rw [List.length_replicate]; omega, ?_⟩⟩)⟩
    rw [show ([.str EC.script.nm] : List D) = [saidS] from rfl, rep_snoc]
    refine said_loop hta xs (k + 1) _ (fun p hp => h p (List.mem_cons_of_mem _ hp)) mset_same (by omega) ?_
    rw [mset_mset, show k + 1 + xs.length = k + (xs.length + 1) by omega]
    exact q
theorem bad0_of {v : D} {μ : MS} {Q : DK} {E : DXK} (hv : Dat v) (h : isScript v = false) (q : E (.ref cC.InvalidScript) none μ) : bad0 [v] μ Q E := ⟨v, rfl, hv, h, q⟩
theorem bad1_of {v w : D} {μ : MS} {Q : DK} {E : DXK} (hv : Dat v) (h : isScript v = false) (q : E (.ref cC.InvalidScript) none μ) : bad1 [v, w] μ Q E := ⟨v, w, rfl, hv, h, q⟩
abbrev tb0 : List (Addr × DSp) := [(fA.adr "count_rings", sp_count_rings), (fA.adr "count_spots", sp_count_spots), (fA.adr "count_pieces", sp_count_pieces), (fA.adr "courses", sp_courses), (fA.adr "sure_rings", sp_sure_rings), (fA.adr "needless", sp_needless), (fA.adr "script_text", sp_script_text)]
abbrev tb1 : List (Addr × DSp) := [(fA.adr "is_fact", sp_is_fact), (fA.adr "is_possible", sp_is_possible), (fA.adr "rings", sp_rings), (fA.adr "left", sp_left), (fA.adr "course", sp_course), (fA.adr "case", sp_case), (fA.adr "ring_bounds", sp_ring_bounds)]
abbrev tb2 : List (Addr × DSp) := [(fA.adr "left_bounds", sp_left_bounds), (fA.adr "can_ring", sp_can_ring), (fA.adr "minutes_with", sp_minutes_with)]
abbrev tb3 : List (Addr × DSp) := [(fA.adr "fits", sp_fits), (fA.adr "alike", sp_alike), (fA.adr "parting", sp_parting)]
abbrev tb4 : List (Addr × DSp) := [(fA.adr "spot_bounds", sp_spot_bounds), (fA.adr "surely", sp_surely)]
theorem pure__law_of_script (ds : List D) (μ : MS) (Q : DK) (Ed : DXK) (h : sp__law_of_script ds μ Q Ed) : t__law_of_script Ed { nx := fun _ μ => Q .non μ, rt := Q } (dstart nm__law_of_script ds) μ := by
  obtain ⟨v, rfl, hv, hb, q⟩ := h
  intro a ha
  have L4 : ∀ μ1 : MS, μ1 a = some (.lst (List.replicate 20 saidS)) → (∀ b, μ b ≠ none → μ1 b = μ b) → ∀ w : List D, w = tb4.map (fun p => .ref p.1) → forL (dName 2) (dForget [2] (dDrop (dAppend (dVar 1) (dErr fun Ed => dCallV 2 tb4 Ed (dCons (dVar 0) (dCons (dC .non) (dCons (dC .non) dNil))))))) { nx := fun ρ μ => (dFrz 1 (dRet (dVar 1))) { nx := fun _ μ => Q .non μ, rt := Q } ρ μ, rt := Q } w [some v, some (.ref a), none] μ1 := by
    intro μ1 h1 kp w hw
    subst hw
    refine said_loop (ds0 := [v, .non, .non]) (fun w μ Q' q => q) tb4 20 μ1 (fun p hp => ⟨hp, fun μ Q E q => ?_⟩) h1 (by simp [tb4]) ?_
    · simp only [tb4, List.mem_cons, List.not_mem_nil, or_false] at hp
      rcases hp with rfl | rfl
      · exact ⟨v, .non, .non, rfl, hv, fun _ => q, fun z => (by rw [hb] at z; cases z)⟩
      · exact ⟨v, .non, .non, rfl, hv, fun _ => q, fun z => (by rw [hb] at z; cases z)⟩
    · refine refL_of mset_same ?_
      refine q _ fun b hb => ?_
      have hba : b ≠ a := fun z => hb (by rw [z]; exact ha)
      rw [mset_ne hba, mset_ne hba]
      exact kp b hb
  have L3 : ∀ μ1 : MS, μ1 a = some (.lst (List.replicate 17 saidS)) → (∀ b, μ b ≠ none → μ1 b = μ b) → ∀ w : List D, w = tb3.map (fun p => .ref p.1) → forL (dName 2) (dForget [2] (dDrop (dAppend (dVar 1) (dErr fun Ed => dCallV 2 tb3 Ed (dCons (dVar 0) (dCons (dC .non) dNil)))))) { nx := fun ρ μ => (dSeq (dFor (dSeqI (dTup (dCons (dC (.ref (fA.adr "spot_bounds"))) (dCons (dC (.ref (fA.adr "surely"))) dNil)))) (dName 2) (dForget [2] (dDrop (dAppend (dVar 1) (dErr fun Ed => (dCallV 2 [(fA.adr "spot_bounds", sp_spot_bounds), (fA.adr "surely", sp_surely)] Ed (dCons (dVar 0) (dCons (dC .non) (dCons (dC .non) dNil))))))))) (dFrz 1 (dRet (dVar 1)))) { nx := fun _ μ => Q .non μ, rt := Q } ρ μ, rt := Q } w [some v, some (.ref a), none] μ1 := by
    intro μ1 h1 kp w hw
    subst hw
    refine said_loop (ds0 := [v, .non]) (fun w μ Q' q => q) tb3 17 μ1 (fun p hp => ⟨hp, fun μ Q E q => ?_⟩) h1 (by simp [tb3]) ?_
    · simp only [tb3, List.mem_cons, List.not_mem_nil, or_false] at hp
      rcases hp with rfl | rfl | rfl
      · exact ⟨v, .non, rfl, hv, fun _ => q, fun z => (by rw [hb] at z; cases z)⟩
      · exact ⟨v, .non, rfl, hv, fun _ => q, fun z => (by rw [hb] at z; cases z)⟩
      · exact ⟨v, .non, rfl, hv, fun _ => q, fun z => (by rw [hb] at z; cases z)⟩
    · exact L4 _ mset_same (fun b hb => by rw [mset_ne (fun z => hb (by rw [z]; exact ha))]; exact kp b hb) _ rfl
  have L2 : ∀ μ1 : MS, μ1 a = some (.lst (List.replicate 14 saidS)) → (∀ b, μ b ≠ none → μ1 b = μ b) → ∀ w : List D, w = tb2.map (fun p => .ref p.1) → forL (dName 2) (dForget [2] (dDrop (dAppend (dVar 1) (dErr fun Ed => dCallV 2 tb2 Ed (dCons (dVar 0) (dCons (dC .non) dNil)))))) { nx := fun ρ μ => (dSeq (dFor (dSeqI (dTup (dCons (dC (.ref (fA.adr "fits"))) (dCons (dC (.ref (fA.adr "alike"))) (dCons (dC (.ref (fA.adr "parting"))) dNil))))) (dName 2) (dForget [2] (dDrop (dAppend (dVar 1) (dErr fun Ed => (dCallV 2 [(fA.adr "fits", sp_fits), (fA.adr "alike", sp_alike), (fA.adr "parting", sp_parting)] Ed (dCons (dVar 0) (dCons (dC .non) dNil)))))))) (dSeq (dFor (dSeqI (dTup (dCons (dC (.ref (fA.adr "spot_bounds"))) (dCons (dC (.ref (fA.adr "surely"))) dNil)))) (dName 2) (dForget [2] (dDrop (dAppend (dVar 1) (dErr fun Ed => (dCallV 2 [(fA.adr "spot_bounds", sp_spot_bounds), (fA.adr "surely", sp_surely)] Ed (dCons (dVar 0) (dCons (dC .non) (dCons (dC .non) dNil))))))))) (dFrz 1 (dRet (dVar 1))))) { nx := fun _ μ => Q .non μ, rt := Q } ρ μ, rt := Q } w [some v, some (.ref a), none] μ1 := by
    intro μ1 h1 kp w hw
    subst hw
    refine said_loop (ds0 := [v, .non]) (fun w μ Q' q => q) tb2 14 μ1 (fun p hp => ⟨hp, fun μ Q E q => ?_⟩) h1 (by simp [tb2]) ?_
    · simp only [tb2, List.mem_cons, List.not_mem_nil, or_false] at hp
      rcases hp with rfl | rfl | rfl
      · exact ⟨v, .non, rfl, hv, fun _ => q, fun z => (by rw [hb] at z; cases z)⟩
      · exact ⟨v, .non, rfl, hv, hb, q⟩
      · exact ⟨v, .non, rfl, hv, hb, q⟩
    · exact L3 _ mset_same (fun b hb => by rw [mset_ne (fun z => hb (by rw [z]; exact ha))]; exact kp b hb) _ rfl
  have L1 : ∀ μ1 : MS, μ1 a = some (.lst (List.replicate 7 saidS)) → (∀ b, μ b ≠ none → μ1 b = μ b) → ∀ w : List D, w = tb1.map (fun p => .ref p.1) → forL (dName 2) (dForget [2] (dDrop (dAppend (dVar 1) (dErr fun Ed => dCallV 2 tb1 Ed (dCons (dVar 0) (dCons (dC .non) dNil)))))) { nx := fun ρ μ => (dSeq (dFor (dSeqI (dTup (dCons (dC (.ref (fA.adr "left_bounds"))) (dCons (dC (.ref (fA.adr "can_ring"))) (dCons (dC (.ref (fA.adr "minutes_with"))) dNil))))) (dName 2) (dForget [2] (dDrop (dAppend (dVar 1) (dErr fun Ed => (dCallV 2 [(fA.adr "left_bounds", sp_left_bounds), (fA.adr "can_ring", sp_can_ring), (fA.adr "minutes_with", sp_minutes_with)] Ed (dCons (dVar 0) (dCons (dC .non) dNil)))))))) (dSeq (dFor (dSeqI (dTup (dCons (dC (.ref (fA.adr "fits"))) (dCons (dC (.ref (fA.adr "alike"))) (dCons (dC (.ref (fA.adr "parting"))) dNil))))) (dName 2) (dForget [2] (dDrop (dAppend (dVar 1) (dErr fun Ed => (dCallV 2 [(fA.adr "fits", sp_fits), (fA.adr "alike", sp_alike), (fA.adr "parting", sp_parting)] Ed (dCons (dVar 0) (dCons (dC .non) dNil)))))))) (dSeq (dFor (dSeqI (dTup (dCons (dC (.ref (fA.adr "spot_bounds"))) (dCons (dC (.ref (fA.adr "surely"))) dNil)))) (dName 2) (dForget [2] (dDrop (dAppend (dVar 1) (dErr fun Ed => (dCallV 2 [(fA.adr "spot_bounds", sp_spot_bounds), (fA.adr "surely", sp_surely)] Ed (dCons (dVar 0) (dCons (dC .non) (dCons (dC .non) dNil))))))))) (dFrz 1 (dRet (dVar 1)))))) { nx := fun _ μ => Q .non μ, rt := Q } ρ μ, rt := Q } w [some v, some (.ref a), none] μ1 := by
    intro μ1 h1 kp w hw
    subst hw
    refine said_loop (ds0 := [v, .non]) (fun w μ Q' q => q) tb1 7 μ1 (fun p hp => ⟨hp, fun μ Q E q => ?_⟩) h1 (by simp [tb1]) ?_
    · simp only [tb1, List.mem_cons, List.not_mem_nil, or_false] at hp
      rcases hp with rfl | rfl | rfl | rfl | rfl | rfl | rfl
      · exact ⟨v, .non, rfl, hv, fun z => (by rw [hb] at z; cases z), fun _ => q⟩
      · exact ⟨v, .non, rfl, hv, hb, q⟩
      · exact ⟨v, .non, rfl, hv, fun _ => q, fun z => (by rw [hb] at z; cases z)⟩
      · exact ⟨v, .non, rfl, hv, fun _ => q, fun z => (by rw [hb] at z; cases z)⟩
      · exact ⟨v, .non, rfl, hv, fun _ => q, fun z => (by rw [hb] at z; cases z)⟩
      · exact ⟨v, .non, rfl, hv, hb, q⟩
      · exact ⟨v, .non, rfl, hv, fun _ => q, fun z => (by rw [hb] at z; cases z)⟩
    · exact L2 _ mset_same (fun b hb => by rw [mset_ne (fun z => hb (by rw [z]; exact ha))]; exact kp b hb) _ rfl
  have L0 : ∀ μ1 : MS, μ1 a = some (.lst (List.replicate 0 saidS)) → (∀ b, μ b ≠ none → μ1 b = μ b) → ∀ w : List D, w = tb0.map (fun p => .ref p.1) → forL (dName 2) (dForget [2] (dDrop (dAppend (dVar 1) (dErr fun Ed => dCallV 2 tb0 Ed (dCons (dVar 0) dNil))))) { nx := fun ρ μ => (dSeq (dFor (dSeqI (dTup (dCons (dC (.ref (fA.adr "is_fact"))) (dCons (dC (.ref (fA.adr "is_possible"))) (dCons (dC (.ref (fA.adr "rings"))) (dCons (dC (.ref (fA.adr "left"))) (dCons (dC (.ref (fA.adr "course"))) (dCons (dC (.ref (fA.adr "case"))) (dCons (dC (.ref (fA.adr "ring_bounds"))) dNil))))))))) (dName 2) (dForget [2] (dDrop (dAppend (dVar 1) (dErr fun Ed => (dCallV 2 [(fA.adr "is_fact", sp_is_fact), (fA.adr "is_possible", sp_is_possible), (fA.adr "rings", sp_rings), (fA.adr "left", sp_left), (fA.adr "course", sp_course), (fA.adr "case", sp_case), (fA.adr "ring_bounds", sp_ring_bounds)] Ed (dCons (dVar 0) (dCons (dC .non) dNil)))))))) (dSeq (dFor (dSeqI (dTup (dCons (dC (.ref (fA.adr "left_bounds"))) (dCons (dC (.ref (fA.adr "can_ring"))) (dCons (dC (.ref (fA.adr "minutes_with"))) dNil))))) (dName 2) (dForget [2] (dDrop (dAppend (dVar 1) (dErr fun Ed => (dCallV 2 [(fA.adr "left_bounds", sp_left_bounds), (fA.adr "can_ring", sp_can_ring), (fA.adr "minutes_with", sp_minutes_with)] Ed (dCons (dVar 0) (dCons (dC .non) dNil)))))))) (dSeq (dFor (dSeqI (dTup (dCons (dC (.ref (fA.adr "fits"))) (dCons (dC (.ref (fA.adr "alike"))) (dCons (dC (.ref (fA.adr "parting"))) dNil))))) (dName 2) (dForget [2] (dDrop (dAppend (dVar 1) (dErr fun Ed => (dCallV 2 [(fA.adr "fits", sp_fits), (fA.adr "alike", sp_alike), (fA.adr "parting", sp_parting)] Ed (dCons (dVar 0) (dCons (dC .non) dNil)))))))) (dSeq (dFor (dSeqI (dTup (dCons (dC (.ref (fA.adr "spot_bounds"))) (dCons (dC (.ref (fA.adr "surely"))) dNil)))) (dName 2) (dForget [2] (dDrop (dAppend (dVar 1) (dErr fun Ed => (dCallV 2 [(fA.adr "spot_bounds", sp_spot_bounds), (fA.adr "surely", sp_surely)] Ed (dCons (dVar 0) (dCons (dC .non) (dCons (dC .non) dNil))))))))) (dFrz 1 (dRet (dVar 1))))))) { nx := fun _ μ => Q .non μ, rt := Q } ρ μ, rt := Q } w [some v, some (.ref a), none] μ1 := by
    intro μ1 h1 kp w hw
    subst hw
    refine said_loop (ds0 := [v]) (fun w μ Q' q => q) tb0 0 μ1 (fun p hp => ⟨hp, fun μ Q E q => ?_⟩) h1 (by simp [tb0]) ?_
    · simp only [tb0, List.mem_cons, List.not_mem_nil, or_false] at hp
      rcases hp with rfl | rfl | rfl | rfl | rfl | rfl | rfl
      · exact ⟨v, rfl, hv, fun z => (by rw [hb] at z; cases z), fun _ => q⟩
      · exact ⟨v, rfl, hv, fun z => (by rw [hb] at z; cases z), fun _ => q⟩
      · exact ⟨v, rfl, hv, fun z => (by rw [hb] at z; cases z), fun _ => q⟩
      · exact ⟨v, rfl, hv, hb, q⟩
      · exact ⟨v, rfl, hv, hb, q⟩
      · exact ⟨v, rfl, hv, hb, q⟩
      · exact ⟨v, rfl, hv, hb, q⟩
    · exact L1 _ mset_same (fun b hb => by rw [mset_ne (fun z => hb (by rw [z]; exact ha))]; exact kp b hb) _ rfl
  exact L0 _ mset_same (fun b hb => by rw [mset_ne (fun z => hb (by rw [z]; exact ha))]) _ rfl
end Li

set_option Elab.async false
set_option linter.all false
set_option maxRecDepth 100000
set_option maxHeartbeats 1000000
/-! Errors in order: the law. -/
namespace Li
open PySem PySem.Spec PyProof.Rows L2
variable [Tbl] [cC : Cls] [fA : Fad]
def sp_law : DSp := fun ds μ Q E => ∃ ns, ds = [.scr ns] ∧ ∀ μ', Q (.bl true) μ'
abbrev nm_law : List Str := ["script", "k", "vat", "some", "odds", "odd", "found", "word", "call"]
abbrev ps_law : List Str := ["script"]
def t_law (Ed : DXK) : DTS := (dSeq (dFor (dRange1 (dCons (dCB kMax (dCons (dC (.int 5)) (dCons (dCB kMin (dCons (dC (.int 12)) (dCons (dCB kLen (dCons (dVar 0) dNil)) dNil))) dNil))) dNil)) (dName 1) (dForget [1, 2, 3, 4, 5, 8, 6, 7] (dSeq (dAsg (dCall sp__law_vat (dCons (dVar 0) (dCons (dVar 1) dNil))) (dName 2)) (dSeq (dAsg (dCall sp__law_script (dCons (dVar 2) (dCons (dC (.int 12)) (dCons (dC (.int 2)) dNil)))) (dName 3)) (dSeq (dAsg (dLstM (dCons (dC .non) (dCons (dCB kList (dCons (dVar 3) dNil)) (dCons (dBin kAdd (dVar 3) (dTup (dCons (dC .non) dNil))) (dCons (dRevT (dVar 3)) (dCons (dC (.str "fuses 60")) (dCons (dBin kIx (dVar 3) (dC (.int 1))) dNil))))))) (dName 4)) (dSeq (dDrop (dAppend (dVar 4) (dTup (dCons (dBin kIx (dVar 3) (dC (.int 0))) (dCons (dBin kAdd (dBin kIx (dVar 3) (dC (.int 1))) (dTup (dCons (dC (.int 5)) dNil))) dNil))))) (dSeq (dDrop (dAppend (dVar 4) (dCall sp__law_bent (dCons (dVar 2) (dCons (dVar 3) dNil))))) (dSeq (dFor (dSeqI (dVar 4)) (dName 5) (dForget [5, 6, 7] (dSeq (dAsg (dIf (dTest (dCall sp__law_is_script (dCons (dVar 5) dNil))) (dLst dNil) (dCallX sp__law_of_script Ed (dCons (dVar 5) dNil))) (dName 6)) (dIfS (dTest (dBin kNe (dLc (dSeqI (dVar 6)) (dName 7) (dTest (dBin kNe (dVar 7) (dC (.str "script value")))) (dVar 7) [7]) (dLst dNil))) (dRet (dC (.bl false))) dNext)))) (dSeq (dFor (dSeqI (dTup (dCons (dC (.ref (fA.adr "alike"))) (dCons (dC (.ref (fA.adr "parting"))) dNil)))) (dName 8) (dForget [8] (dIfS (dTest (dBin kNe (dErr fun Ed => (dCallV 8 [(fA.adr "alike", sp_alike), (fA.adr "parting", sp_parting)] Ed (dCons (dVar 3) (dCons (dSl (dVar 3) dNoPart (dPart (dC (.int 1)))) dNil)))) (dC (.str "script value")))) (dRet (dC (.bl false))) dNext))) (dSeq (dFor (dSeqI (dTup (dCons (dC (.ref (fA.adr "rings"))) (dCons (dC (.ref (fA.adr "left"))) (dCons (dC (.ref (fA.adr "course"))) dNil))))) (dName 8) (dForget [8] (dIfS (dTest (dBin kNe (dErr fun Ed => (dCallV 8 [(fA.adr "rings", sp_rings), (fA.adr "left", sp_left), (fA.adr "course", sp_course)] Ed (dCons (dVar 3) (dCons (dBin kRep (dTup (dCons (dTup (dCons (dC (.int 1)) (dCons (dC (.int 1)) dNil))) dNil)) (dC (.int 3))) dNil)))) (dC (.str "minutes value")))) (dRet (dC (.bl false))) dNext))) (dSeq (dFor (dSeqI (dTup (dCons (dC (.ref (fA.adr "ring_bounds"))) (dCons (dC (.ref (fA.adr "left_bounds"))) dNil)))) (dName 8) (dForget [8] (dIfS (dTest (dBin kNe (dErr fun Ed => (dCallV 8 [(fA.adr "ring_bounds", sp_ring_bounds), (fA.adr "left_bounds", sp_left_bounds)] Ed (dCons (dVar 3) (dCons (dNeg (dC (.int 1))) dNil)))) (dC (.str "index value")))) (dRet (dC (.bl false))) dNext))) (dSeq (dIfS (dTest (dBin kNe (dErr fun Ed => (dCallX sp_spot_bounds Ed (dCons (dVar 3) (dCons (dC (.int 2)) (dCons (dC (.int 5)) dNil))))) (dC (.str "index value")))) (dRet (dC (.bl false))) dNext) (dSeq (dFor (dSeqI (dLst (dCons (dC .non) (dCons (dLst dNil) (dCons (dTup (dCons (dC .non) dNil)) (dCons (dTup (dCons (dTup (dCons (dC (.str "out")) (dCons (dC (.int 9)) dNil))) dNil)) (dCons (dTup (dCons (dTup (dCons (dC (.str "at")) (dCons (dC (.int 0)) dNil))) dNil)) (dCons (dBin kRep (dTup (dCons (dTup (dCons (dC (.str "out")) (dCons (dC (.int 0)) dNil))) dNil)) (dC (.int 7))) (dCons (dTup (dCons (dTup (dCons (dC (.str "at")) (dCons (dC (.int 12)) (dCons (dTup (dCons (dC (.int 1)) (dCons (dC (.int 1)) dNil))) dNil)))) dNil)) dNil))))))))) (dName 5) (dForget [5] (dSeq (dIfS (dTest (dBin kNe (dErr fun Ed => (dCallX sp_fits Ed (dCons (dVar 3) (dCons (dVar 5) dNil)))) (dC (.str "facts value")))) (dRet (dC (.bl false))) dNext) (dIfS (dTest (dBin kNe (dErr fun Ed => (dCallX sp_surely Ed (dCons (dVar 3) (dCons (dVar 5) (dCons (dC .non) dNil))))) (dC (.str "facts value")))) (dRet (dC (.bl false))) dNext)))) (dIfS (dTest (dBin kNe (dErr fun Ed => (dCallX sp_surely Ed (dCons (dVar 3) (dCons (dTup dNil) (dCons (dTup (dCons (dC (.str "out")) dNil)) dNil))))) (dC (.str "facts value")))) (dRet (dC (.bl false))) dNext)))))))))))))) (dRet (dC (.bl true))))
theorem nm_okEq (i : EC) : okEq (.str i.nm) (.str i.nm) := by cases i <;> exact ⟨by decide +kernel, by decide +kernel, by decide +kernel, by decide +kernel⟩
theorem nm_deq (i : EC) : (!deq (.str i.nm) (.str i.nm)) = false := by cases i <;> decide +kernel
/-- each of some functions refuses its arguments with one word -/
theorem fn_loop {tb : List (Addr × DSp)} {ds0 : List D} {ta : DTA} {d0 d1 d2 d3 : D} {w4 w5 w6 w7 : Option D} {i : EC} {DD : DEnds} {μ : MS}
    (hta : ∀ (w : D) (μ : MS) (Q : List D → MS → Prop), Q ds0 μ → ta [some d0, some d1, some d2, some d3, w4, w5, w6, w7, some w] μ Q)
    (q : DD.nx [some d0, some d1, some d2, some d3, w4, w5, w6, w7, none] μ) :
    ∀ (xs : List (Addr × DSp)), (∀ p ∈ xs, p ∈ tb ∧ ∀ μ Q E, E (.ref i.adr) none μ → p.2 ds0 μ Q E) → ∀ w : Option D,
      forL (dName 8) (dForget [8] (dIfS (dTest (dBin kNe (dErr fun Ed => dCallV 8 tb Ed ta) (dC (.str i.nm)))) (dRet (dC (.bl false))) dNext)) DD (xs.map fun p => .ref p.1) [some d0, some d1, some d2, some d3, w4, w5, w6, w7, none] μ
  | [], _, _ => q
  | p :: xs, h, w => by
    obtain ⟨hp, hs⟩ := h p List.mem_cons_self
    refine ⟨p, hp, rfl, hta _ _ _ (hs _ _ _ ⟨rfl, i, rfl, nm_okEq i, bcase_f (nm_deq i) ?_⟩)⟩
    exact fn_loop hta q xs (fun p hp => h p (List.mem_cons_of_mem _ hp)) w
abbrev ek_found : DTS := (dIfS (dTest (dBin kNe (dLc (dSeqI (dVar 6)) (dName 7) (dTest (dBin kNe (dVar 7) (dC (.str "script value")))) (dVar 7) [7]) (dLst dNil))) (dRet (dC (.bl false))) dNext)
theorem said_okEq : okEq saidS (.str "script value") := ⟨by decide +kernel, by decide +kernel, by decide +kernel, by decide +kernel⟩
theorem said_deq : (!deq saidS (.str "script value")) = false := by decide +kernel
theorem found_ok {d0 d1 d2 d3 : D} {w4 w5 w8 : Option D} {DD : DEnds} {μ : MS} (xs : List D) (hx : ∀ x ∈ xs, x = saidS) (q : DD.nx [some d0, some d1, some d2, some d3, w4, w5, some (.lst xs), none, w8] μ) :
    ek_found DD [some d0, some d1, some d2, some d3, w4, w5, some (.lst xs), none, w8] μ := by
  refine lcL_filter (fun _ => false) xs _ (fun d hd A Z a z => ?_) ?_
  · have e := hx d hd
    subst e
    exact ⟨said_okEq, bcase_f said_deq (z rfl)⟩
  · have e : xs.filter (fun _ => false) = [] := List.filter_eq_nil_iff.mpr fun _ _ h => by cases h
    rw [e]
    exact ⟨⟨rfl, rfl, by decide, by decide⟩, bcase_f rfl q⟩
abbrev ek_odd (Ed : DXK) : DTS := (dForget [5, 6, 7] (dSeq (dAsg (dIf (dTest (dCall sp__law_is_script (dCons (dVar 5) dNil))) (dLst dNil) (dCallX sp__law_of_script Ed (dCons (dVar 5) dNil))) (dName 6)) ek_found))
theorem odd_loop {d0 d1 d3 : D} {a : Addr} {w4 w8 : Option D} {DD : DEnds} {Ed : DXK} (q : ∀ μ, IsVat μ a → DD.nx [some d0, some d1, some (.ref a), some d3, w4, none, none, none, w8] μ) :
    ∀ (xs : List D) (μ : MS), IsVat μ a → (∀ d ∈ xs, Dat d) → forL (dName 5) (ek_odd Ed) DD xs [some d0, some d1, some (.ref a), some d3, w4, none, none, none, w8] μ
  | [], μ, hv, _ => q μ hv
  | d :: xs, μ, hv, h => by
    have hd := h d List.mem_cons_self
    have ih := odd_loop (Ed := Ed) q xs
    refine ⟨d, rfl, hd, ?_⟩
    refine bcase_of (fun hs => ?_) fun hs => ?_
    · exact found_ok [] (fun x hx => by cases hx) (ih μ hv fun d hd => h d (List.mem_cons_of_mem _ hd))
    · refine ⟨d, rfl, hd, hs, fun μ' kp => ?_⟩
      exact found_ok (List.replicate 22 saidS) (fun x hx => (List.mem_replicate.mp hx).2) (ih μ' (vat_keep hv kp) fun d hd => h d (List.mem_cons_of_mem _ hd))
abbrev ek_fact (Ed : DXK) : DTS := (dForget [5] (dSeq (dIfS (dTest (dBin kNe (dErr fun Ed => (dCallX sp_fits Ed (dCons (dVar 3) (dCons (dVar 5) dNil)))) (dC (.str "facts value")))) (dRet (dC (.bl false))) dNext) (dIfS (dTest (dBin kNe (dErr fun Ed => (dCallX sp_surely Ed (dCons (dVar 3) (dCons (dVar 5) (dCons (dC .non) dNil))))) (dC (.str "facts value")))) (dRet (dC (.bl false))) dNext)))
theorem fact_loop {d0 d1 d2 s : D} {w4 w6 w7 w8 : Option D} {DD : DEnds} {Ed : DXK} {μ : MS} (hs : Dat s) (hi : isScript s = true) (q : DD.nx [some d0, some d1, some d2, some s, w4, none, w6, w7, w8] μ) :
    ∀ xs : List D, (∀ d ∈ xs, Dat d ∧ BadFacts s d) → forL (dName 5) (ek_fact Ed) DD xs [some d0, some d1, some d2, some s, w4, none, w6, w7, w8] μ
  | [], _ => q
  | d :: xs, h => by
    obtain ⟨hd, hb⟩ := h d List.mem_cons_self
    have ih := fact_loop (Ed := Ed) hs hi q xs fun d hd => h d (List.mem_cons_of_mem _ hd)
    have no : ∀ {P : Prop}, isScript s = false → P := fun z => by rw [hi] at z; cases z
    refine ⟨s, d, rfl, hs, fun z => no z, fun _ => ⟨hd, hb, rfl, .facts, rfl, nm_okEq .facts, bcase_f (nm_deq .facts) ?_⟩⟩
    refine ⟨s, d, .non, rfl, hs, fun z => no z, fun _ => ⟨hd, .inl ⟨hb, rfl, .facts, rfl, nm_okEq .facts, bcase_f (nm_deq .facts) ?_⟩⟩⟩
    exact ih
/-- data: so deep at most -/
def DatN (n : Nat) (d : D) : Prop := d.lay = true ∧ d.dep ≤ n
theorem DatN.dat {n : Nat} {d : D} (h : DatN n d) (hn : n ≤ 40) : Dat d := ⟨h.1, Nat.le_trans h.2 hn⟩
theorem datN_tup {n : Nat} {ds : List D} (h : ∀ d ∈ ds, DatN n d) : DatN (n + 1) (.tup ds) := ⟨by simp only [D.lay]; exact lays_of fun d hd => (h d hd).1, by have := deps_of fun d hd => (h d hd).2; simp only [D.dep]; omega⟩
theorem datN_lst {n : Nat} {ds : List D} (h : ∀ d ∈ ds, DatN n d) : DatN (n + 1) (.lst ds) := ⟨by simp only [D.lay]; exact lays_of fun d hd => (h d hd).1, by have := deps_of fun d hd => (h d hd).2; simp only [D.dep]; omega⟩
theorem datN_int (i : Int) {n : Nat} : DatN n (.int i) := ⟨rfl, by simp [D.dep]⟩
theorem datN_non {n : Nat} : DatN n .non := ⟨rfl, by simp [D.dep]⟩
theorem datN_act (a : Act) {n : Nat} (h : 1 ≤ n) : DatN n a.d := ⟨(act_lay a).1, Nat.le_trans (act_lay a).2 h⟩
theorem datN_fuses (fs : List Nat) : DatN 2 (fusesD fs) := datN_tup (n := 1) fun d hd => by obtain ⟨n, _, rfl⟩ := List.mem_map.mp hd; exact datN_int _
theorem datN_steps (ss : List Act) : DatN 2 (stepsD ss) := datN_tup (n := 1) fun d hd => by obtain ⟨a, _, rfl⟩ := List.mem_map.mp hd; exact datN_act a (Nat.le_refl _)
theorem out_str : DatN 1 (.str "out") := ⟨by decide +kernel, by simp [D.dep]⟩
theorem at_str : DatN 1 (.str "at") := ⟨by decide +kernel, by simp [D.dep]⟩
theorem fuses60 : Dat (.str "fuses 60") := ⟨by decide +kernel, by simp [D.dep]⟩
theorem bad_facts {S : Scr} (hS : S.Ok) : ∀ d ∈ [D.non, .lst [], .tup [.non], .tup [.tup [.str "out", .int 9]], .tup [.tup [.str "at", .int 0]], .tup (List.replicate (7 : Int).toNat [D.tup [.str "out", .int 0]]).flatten, .tup [.tup [.str "at", .int 12, .tup [.int 1, .int 1]]]], Dat d ∧ BadFacts S.d d := by
  have hp : piecesD S.d ≤ 5 := by
    show (S.fuses.map natD).length + countD "spot" (S.steps.map Act.d) ≤ 5
    rw [List.length_map, acts_count]
    have := hS.f3
    have := hS.sp
    omega
  have hr : ringsD S.d ≤ 12 := by
    show countD "ring" (S.steps.map Act.d) ≤ 12
    unfold countD
    have := List.length_filter_le (isHead "ring") (S.steps.map Act.d)
    rw [List.length_map] at this
    have := hS.st
    omega
  have notup : ∀ d : D, (∀ es, d ≠ .tup es) → BadFacts S.d d := fun d h fs e => absurd e (h fs)
  have one : ∀ f : D, isFact S.d f = false → BadFacts S.d (.tup [f]) := fun f h fs e => by cases e; exact .inr ⟨f, by simp, h⟩
  intro d hd
  simp only [List.mem_cons, List.not_mem_nil, or_false] at hd
  rcases hd with rfl | rfl | rfl | rfl | rfl | rfl | rfl
  · exact ⟨datN_non.dat (Nat.zero_le 40), notup _ fun _ z => by cases z⟩
  · exact ⟨⟨rfl, by simp [D.dep, D.deps]⟩, notup _ fun _ z => by cases z⟩
  · exact ⟨⟨rfl, by simp [D.dep, D.deps]⟩, one _ rfl⟩
  · refine ⟨(datN_tup (n := 2) fun d hd => ?_).dat (by decide), one _ ?_⟩
    · rw [List.mem_singleton.mp hd]
      refine datN_tup (n := 1) fun d hd => ?_
      simp only [List.mem_cons, List.not_mem_nil, or_false] at hd
      rcases hd with rfl | rfl
      · exact out_str
      · exact datN_int _
    · show (decide ((Str.ofString "out") ∈ (["out", "left"] : List Str)) && isWhole (.int 9) 0 ((piecesD S.d : Nat) - 1)) = false
      rw [isWhole_no (by omega), Bool.and_false]
  · refine ⟨(datN_tup (n := 2) fun d hd => ?_).dat (by decide), one _ ?_⟩
    · rw [List.mem_singleton.mp hd]
      refine datN_tup (n := 1) fun d hd => ?_
      simp only [List.mem_cons, List.not_mem_nil, or_false] at hd
      rcases hd with rfl | rfl
      · exact at_str
      · exact datN_int _
    · show (decide ((Str.ofString "at") ∈ (["out", "left"] : List Str)) && isWhole (.int 0) 0 ((piecesD S.d : Nat) - 1)) = false
      rw [show decide ((Str.ofString "at") ∈ (["out", "left"] : List Str)) = false by decide +kernel, Bool.false_and]
  · refine ⟨(datN_tup (n := 2) fun d hd => ?_).dat (by decide), fun fs e => ?_⟩
    · have e : d = .tup [.str "out", .int 0] := by
        simp only [List.mem_flatten, List.mem_replicate] at hd
        obtain ⟨l, ⟨_, rfl⟩, hd⟩ := hd
        exact List.mem_singleton.mp hd
      rw [e]
      refine datN_tup (n := 1) fun d hd => ?_
      simp only [List.mem_cons, List.not_mem_nil, or_false] at hd
      rcases hd with rfl | rfl
      · exact out_str
      · exact datN_int _
    · cases e
      exact .inl (by decide)
  · refine ⟨(datN_tup (n := 3) fun d hd => ?_).dat (by decide), one _ ?_⟩
    · rw [List.mem_singleton.mp hd]
      refine datN_tup (n := 2) fun d hd => ?_
      simp only [List.mem_cons, List.not_mem_nil, or_false] at hd
      rcases hd with rfl | rfl | rfl
      · exact ⟨at_str.1, Nat.le_trans at_str.2 (by decide)⟩
      · exact datN_int _
      · exact datN_tup (n := 1) fun d hd => by
          simp only [List.mem_cons, List.not_mem_nil, or_false] at hd
          rcases hd with rfl | rfl <;> exact datN_int _
    · show (decide ((Str.ofString "at") ∈ (["before", "at", "after"] : List Str)) && isWhole (.int 12) 0 ((ringsD S.d : Nat) - 1) && isTime (.tup [.int 1, .int 1])) = false
      rw [isWhole_no (by omega), Bool.and_false, Bool.false_and]
end Li

set_option Elab.async false
set_option linter.all false
set_option maxRecDepth 100000
set_option maxHeartbeats 1000000
/-! Errors in order: the law, whole. -/
namespace Li
open PySem PySem.Spec PyProof.Rows L2
variable [Tbl] [cC : Cls] [fA : Fad]
abbrev tA : List (Addr × DSp) := [(fA.adr "alike", sp_alike), (fA.adr "parting", sp_parting)]
abbrev tB : List (Addr × DSp) := [(fA.adr "rings", sp_rings), (fA.adr "left", sp_left), (fA.adr "course", sp_course)]
abbrev tC : List (Addr × DSp) := [(fA.adr "ring_bounds", sp_ring_bounds), (fA.adr "left_bounds", sp_left_bounds)]
theorem ek_four {d0 d1 d2 : D} {S : Scr} {w4 : Option D} {DD : DEnds} {Ed : DXK} {μ : MS} (hS : S.Ok) (q : DD.nx [some d0, some d1, some d2, some S.d, w4, none, none, none, none] μ) : (dSeq (dIfS (dTest (dBin kNe (dErr fun Ed => (dCallX sp_spot_bounds Ed (dCons (dVar 3) (dCons (dC (.int 2)) (dCons (dC (.int 5)) dNil))))) (dC (.str "index value")))) (dRet (dC (.bl false))) dNext) (dSeq (dFor (dSeqI (dLst (dCons (dC .non) (dCons (dLst dNil) (dCons (dTup (dCons (dC .non) dNil)) (dCons (dTup (dCons (dTup (dCons (dC (.str "out")) (dCons (dC (.int 9)) dNil))) dNil)) (dCons (dTup (dCons (dTup (dCons (dC (.str "at")) (dCons (dC (.int 0)) dNil))) dNil)) (dCons (dBin kRep (dTup (dCons (dTup (dCons (dC (.str "out")) (dCons (dC (.int 0)) dNil))) dNil)) (dC (.int 7))) (dCons (dTup (dCons (dTup (dCons (dC (.str "at")) (dCons (dC (.int 12)) (dCons (dTup (dCons (dC (.int 1)) (dCons (dC (.int 1)) dNil))) dNil)))) dNil)) dNil))))))))) (dName 5) (dForget [5] (dSeq (dIfS (dTest (dBin kNe (dErr fun Ed => (dCallX sp_fits Ed (dCons (dVar 3) (dCons (dVar 5) dNil)))) (dC (.str "facts value")))) (dRet (dC (.bl false))) dNext) (dIfS (dTest (dBin kNe (dErr fun Ed => (dCallX sp_surely Ed (dCons (dVar 3) (dCons (dVar 5) (dCons (dC .non) dNil))))) (dC (.str "facts value")))) (dRet (dC (.bl false))) dNext)))) (dIfS (dTest (dBin kNe (dErr fun Ed => (dCallX sp_surely Ed (dCons (dVar 3) (dCons (dTup dNil) (dCons (dTup (dCons (dC (.str "out")) dNil)) dNil))))) (dC (.str "facts value")))) (dRet (dC (.bl false))) dNext))) DD [some d0, some d1, some d2, some S.d, w4, none, none, none, none] μ := by
  have sf := scr_fit hS
  have sd : Dat S.d := sf.dat (by decide)
  have si := scr_isScript hS
  have no : ∀ {P : Prop}, isScript S.d = false → P := fun z => by rw [si] at z; cases z
  refine ⟨S.d, .int 2, .int 5, rfl, sd, fun z => no z, fun _ => ⟨rfl, rfl, .index, rfl, nm_okEq .index, bcase_f (nm_deq .index) ?_⟩⟩
  refine ⟨⟨by decide, by decide, by decide⟩, ?_⟩
  have end5 : (dIfS (dTest (dBin kNe (dErr fun Ed => (dCallX sp_surely Ed (dCons (dVar 3) (dCons (dTup dNil) (dCons (dTup (dCons (dC (.str "out")) dNil)) dNil))))) (dC (.str "facts value")))) (dRet (dC (.bl false))) dNext) DD [some d0, some d1, some d2, some S.d, w4, none, none, none, none] μ := by
    refine ⟨S.d, .tup [], .tup [.str "out"], rfl, sd, fun z => no z, fun _ => ⟨⟨rfl, by simp [D.dep, D.deps]⟩, .inr ⟨rfl, ?_, rfl, rfl, .facts, rfl, nm_okEq .facts, bcase_f (nm_deq .facts) q⟩⟩⟩
    exact (datN_tup (n := 1) fun d hd => by rw [List.mem_singleton.mp hd]; exact out_str).dat (by decide)
  have loop : ∀ w : List D, w = [D.non, .lst [], .tup [.non], .tup [.tup [.str "out", .int 9]], .tup [.tup [.str "at", .int 0]], .tup (List.replicate (7 : Int).toNat [D.tup [.str "out", .int 0]]).flatten, .tup [.tup [.str "at", .int 12, .tup [.int 1, .int 1]]]] →
      forL (dName 5) (ek_fact Ed) { DD with nx := fun ρ μ => (dIfS (dTest (dBin kNe (dErr fun Ed => (dCallX sp_surely Ed (dCons (dVar 3) (dCons (dTup dNil) (dCons (dTup (dCons (dC (.str "out")) dNil)) dNil))))) (dC (.str "facts value")))) (dRet (dC (.bl false))) dNext) DD ρ μ, bk := DD.bk } w [some d0, some d1, some d2, some S.d, w4, none, none, none, none] μ := fun w hw => by
    subst hw
    exact fact_loop sd si end5 _ (bad_facts hS)
  exact loop _ rfl
theorem ek_three {d0 d1 d2 : D} {S : Scr} {w4 : Option D} {DD : DEnds} {Ed : DXK} {μ : MS} (hS : S.Ok) (q : DD.nx [some d0, some d1, some d2, some S.d, w4, none, none, none, none] μ) : (dSeq (dFor (dSeqI (dTup (dCons (dC (.ref (fA.adr "ring_bounds"))) (dCons (dC (.ref (fA.adr "left_bounds"))) dNil)))) (dName 8) (dForget [8] (dIfS (dTest (dBin kNe (dErr fun Ed => (dCallV 8 [(fA.adr "ring_bounds", sp_ring_bounds), (fA.adr "left_bounds", sp_left_bounds)] Ed (dCons (dVar 3) (dCons (dNeg (dC (.int 1))) dNil)))) (dC (.str "index value")))) (dRet (dC (.bl false))) dNext))) (dSeq (dIfS (dTest (dBin kNe (dErr fun Ed => (dCallX sp_spot_bounds Ed (dCons (dVar 3) (dCons (dC (.int 2)) (dCons (dC (.int 5)) dNil))))) (dC (.str "index value")))) (dRet (dC (.bl false))) dNext) (dSeq (dFor (dSeqI (dLst (dCons (dC .non) (dCons (dLst dNil) (dCons (dTup (dCons (dC .non) dNil)) (dCons (dTup (dCons (dTup (dCons (dC (.str "out")) (dCons (dC (.int 9)) dNil))) dNil)) (dCons (dTup (dCons (dTup (dCons (dC (.str "at")) (dCons (dC (.int 0)) dNil))) dNil)) (dCons (dBin kRep (dTup (dCons (dTup (dCons (dC (.str "out")) (dCons (dC (.int 0)) dNil))) dNil)) (dC (.int 7))) (dCons (dTup (dCons (dTup (dCons (dC (.str "at")) (dCons (dC (.int 12)) (dCons (dTup (dCons (dC (.int 1)) (dCons (dC (.int 1)) dNil))) dNil)))) dNil)) dNil))))))))) (dName 5) (dForget [5] (dSeq (dIfS (dTest (dBin kNe (dErr fun Ed => (dCallX sp_fits Ed (dCons (dVar 3) (dCons (dVar 5) dNil)))) (dC (.str "facts value")))) (dRet (dC (.bl false))) dNext) (dIfS (dTest (dBin kNe (dErr fun Ed => (dCallX sp_surely Ed (dCons (dVar 3) (dCons (dVar 5) (dCons (dC .non) dNil))))) (dC (.str "facts value")))) (dRet (dC (.bl false))) dNext)))) (dIfS (dTest (dBin kNe (dErr fun Ed => (dCallX sp_surely Ed (dCons (dVar 3) (dCons (dTup dNil) (dCons (dTup (dCons (dC (.str "out")) dNil)) dNil))))) (dC (.str "facts value")))) (dRet (dC (.bl false))) dNext)))) DD [some d0, some d1, some d2, some S.d, w4, none, none, none, none] μ := by
  have sf := scr_fit hS
  have sd : Dat S.d := sf.dat (by decide)
  have si := scr_isScript hS
  have no : ∀ {P : Prop}, isScript S.d = false → P := fun z => by rw [si] at z; cases z
  have nx := ek_four (DD := DD) (Ed := Ed) (d0 := d0) (d1 := d1) (d2 := d2) (w4 := w4) (μ := μ) hS q
  have loop : ∀ w : List D, w = tC.map (fun p => .ref p.1) → forL (dName 8) (dForget [8] (dIfS (dTest (dBin kNe (dErr fun Ed => dCallV 8 tC Ed (dCons (dVar 3) (dCons (dNeg (dC (.int 1))) dNil))) (dC (.str (EC.nm .index))))) (dRet (dC (.bl false))) dNext)) { DD with nx := fun ρ μ => (dSeq (dIfS (dTest (dBin kNe (dErr fun Ed => (dCallX sp_spot_bounds Ed (dCons (dVar 3) (dCons (dC (.int 2)) (dCons (dC (.int 5)) dNil))))) (dC (.str "index value")))) (dRet (dC (.bl false))) dNext) (dSeq (dFor (dSeqI (dLst (dCons (dC .non) (dCons (dLst dNil) (dCons (dTup (dCons (dC .non) dNil)) (dCons (dTup (dCons (dTup (dCons (dC (.str "out")) (dCons (dC (.int 9)) dNil))) dNil)) (dCons (dTup (dCons (dTup (dCons (dC (.str "at")) (dCons (dC (.int 0)) dNil))) dNil)) (dCons (dBin kRep (dTup (dCons (dTup (dCons (dC (.str "out")) (dCons (dC (.int 0)) dNil))) dNil)) (dC (.int 7))) (dCons (dTup (dCons (dTup (dCons (dC (.str "at")) (dCons (dC (.int 12)) (dCons (dTup (dCons (dC (.int 1)) (dCons (dC (.int 1)) dNil))) dNil)))) dNil)) dNil))))))))) (dName 5) (dForget [5] (dSeq (dIfS (dTest (dBin kNe (dErr fun Ed => (dCallX sp_fits Ed (dCons (dVar 3) (dCons (dVar 5) dNil)))) (dC (.str "facts value")))) (dRet (dC (.bl false))) dNext) (dIfS (dTest (dBin kNe (dErr fun Ed => (dCallX sp_surely Ed (dCons (dVar 3) (dCons (dVar 5) (dCons (dC .non) dNil))))) (dC (.str "facts value")))) (dRet (dC (.bl false))) dNext)))) (dIfS (dTest (dBin kNe (dErr fun Ed => (dCallX sp_surely Ed (dCons (dVar 3) (dCons (dTup dNil) (dCons (dTup (dCons (dC (.str "out")) dNil)) dNil))))) (dC (.str "facts value")))) (dRet (dC (.bl false))) dNext))) DD ρ μ } w [some d0, some d1, some d2, some S.d, w4, none, none, none, none] μ := fun w hw => by
    subst hw
    refine fn_loop (ds0 := [S.d, .int (-1)]) (fun w μ Q q => q) nx tC (fun p hp => ⟨hp, fun μ Q E q => ?_⟩) none
    simp only [tC, List.mem_cons, List.not_mem_nil, or_false] at hp
    rcases hp with rfl | rfl
    · exact ⟨S.d, .int (-1), rfl, sd, fun z => no z, fun _ => ⟨rfl, q⟩⟩
    · exact ⟨S.d, .int (-1), rfl, sd, fun z => no z, fun _ => ⟨rfl, q⟩⟩
  exact loop _ rfl
theorem ek_two {d0 d1 d2 : D} {S : Scr} {w4 : Option D} {DD : DEnds} {Ed : DXK} {μ : MS} (hS : S.Ok) (q : DD.nx [some d0, some d1, some d2, some S.d, w4, none, none, none, none] μ) : (dSeq (dFor (dSeqI (dTup (dCons (dC (.ref (fA.adr "rings"))) (dCons (dC (.ref (fA.adr "left"))) (dCons (dC (.ref (fA.adr "course"))) dNil))))) (dName 8) (dForget [8] (dIfS (dTest (dBin kNe (dErr fun Ed => (dCallV 8 [(fA.adr "rings", sp_rings), (fA.adr "left", sp_left), (fA.adr "course", sp_course)] Ed (dCons (dVar 3) (dCons (dBin kRep (dTup (dCons (dTup (dCons (dC (.int 1)) (dCons (dC (.int 1)) dNil))) dNil)) (dC (.int 3))) dNil)))) (dC (.str "minutes value")))) (dRet (dC (.bl false))) dNext))) (dSeq (dFor (dSeqI (dTup (dCons (dC (.ref (fA.adr "ring_bounds"))) (dCons (dC (.ref (fA.adr "left_bounds"))) dNil)))) (dName 8) (dForget [8] (dIfS (dTest (dBin kNe (dErr fun Ed => (dCallV 8 [(fA.adr "ring_bounds", sp_ring_bounds), (fA.adr "left_bounds", sp_left_bounds)] Ed (dCons (dVar 3) (dCons (dNeg (dC (.int 1))) dNil)))) (dC (.str "index value")))) (dRet (dC (.bl false))) dNext))) (dSeq (dIfS (dTest (dBin kNe (dErr fun Ed => (dCallX sp_spot_bounds Ed (dCons (dVar 3) (dCons (dC (.int 2)) (dCons (dC (.int 5)) dNil))))) (dC (.str "index value")))) (dRet (dC (.bl false))) dNext) (dSeq (dFor (dSeqI (dLst (dCons (dC .non) (dCons (dLst dNil) (dCons (dTup (dCons (dC .non) dNil)) (dCons (dTup (dCons (dTup (dCons (dC (.str "out")) (dCons (dC (.int 9)) dNil))) dNil)) (dCons (dTup (dCons (dTup (dCons (dC (.str "at")) (dCons (dC (.int 0)) dNil))) dNil)) (dCons (dBin kRep (dTup (dCons (dTup (dCons (dC (.str "out")) (dCons (dC (.int 0)) dNil))) dNil)) (dC (.int 7))) (dCons (dTup (dCons (dTup (dCons (dC (.str "at")) (dCons (dC (.int 12)) (dCons (dTup (dCons (dC (.int 1)) (dCons (dC (.int 1)) dNil))) dNil)))) dNil)) dNil))))))))) (dName 5) (dForget [5] (dSeq (dIfS (dTest (dBin kNe (dErr fun Ed => (dCallX sp_fits Ed (dCons (dVar 3) (dCons (dVar 5) dNil)))) (dC (.str "facts value")))) (dRet (dC (.bl false))) dNext) (dIfS (dTest (dBin kNe (dErr fun Ed => (dCallX sp_surely Ed (dCons (dVar 3) (dCons (dVar 5) (dCons (dC .non) dNil))))) (dC (.str "facts value")))) (dRet (dC (.bl false))) dNext)))) (dIfS (dTest (dBin kNe (dErr fun Ed => (dCallX sp_surely Ed (dCons (dVar 3) (dCons (dTup dNil) (dCons (dTup (dCons (dC (.str "out")) dNil)) dNil))))) (dC (.str "facts value")))) (dRet (dC (.bl false))) dNext))))) DD [some d0, some d1, some d2, some S.d, w4, none, none, none, none] μ := by
  have sf := scr_fit hS
  have sd : Dat S.d := sf.dat (by decide)
  have si := scr_isScript hS
  have no : ∀ {P : Prop}, isScript S.d = false → P := fun z => by rw [si] at z; cases z
  have nx := ek_three (DD := DD) (Ed := Ed) (d0 := d0) (d1 := d1) (d2 := d2) (w4 := w4) (μ := μ) hS q
  have loop : ∀ w : List D, w = tB.map (fun p => .ref p.1) → forL (dName 8) (dForget [8] (dIfS (dTest (dBin kNe (dErr fun Ed => dCallV 8 tB Ed (dCons (dVar 3) (dCons (dBin kRep (dTup (dCons (dTup (dCons (dC (.int 1)) (dCons (dC (.int 1)) dNil))) dNil)) (dC (.int 3))) dNil))) (dC (.str (EC.nm .minutes))))) (dRet (dC (.bl false))) dNext)) { DD with nx := fun ρ μ => (dSeq (dFor (dSeqI (dTup (dCons (dC (.ref (fA.adr "ring_bounds"))) (dCons (dC (.ref (fA.adr "left_bounds"))) dNil)))) (dName 8) (dForget [8] (dIfS (dTest (dBin kNe (dErr fun Ed => (dCallV 8 [(fA.adr "ring_bounds", sp_ring_bounds), (fA.adr "left_bounds", sp_left_bounds)] Ed (dCons (dVar 3) (dCons (dNeg (dC (.int 1))) dNil)))) (dC (.str "index value")))) (dRet (dC (.bl false))) dNext))) (dSeq (dIfS (dTest (dBin kNe (dErr fun Ed => (dCallX sp_spot_bounds Ed (dCons (dVar 3) (dCons (dC (.int 2)) (dCons (dC (.int 5)) dNil))))) (dC (.str "index value")))) (dRet (dC (.bl false))) dNext) (dSeq (dFor (dSeqI (dLst (dCons (dC .non) (dCons (dLst dNil) (dCons (dTup (dCons (dC .non) dNil)) (dCons (dTup (dCons (dTup (dCons (dC (.str "out")) (dCons (dC (.int 9)) dNil))) dNil)) (dCons (dTup (dCons (dTup (dCons (dC (.str "at")) (dCons (dC (.int 0)) dNil))) dNil)) (dCons (dBin kRep (dTup (dCons (dTup (dCons (dC (.str "out")) (dCons (dC (.int 0)) dNil))) dNil)) (dC (.int 7))) (dCons (dTup (dCons (dTup (dCons (dC (.str "at")) (dCons (dC (.int 12)) (dCons (dTup (dCons (dC (.int 1)) (dCons (dC (.int 1)) dNil))) dNil)))) dNil)) dNil))))))))) (dName 5) (dForget [5] (dSeq (dIfS (dTest (dBin kNe (dErr fun Ed => (dCallX sp_fits Ed (dCons (dVar 3) (dCons (dVar 5) dNil)))) (dC (.str "facts value")))) (dRet (dC (.bl false))) dNext) (dIfS (dTest (dBin kNe (dErr fun Ed => (dCallX sp_surely Ed (dCons (dVar 3) (dCons (dVar 5) (dCons (dC .non) dNil))))) (dC (.str "facts value")))) (dRet (dC (.bl false))) dNext)))) (dIfS (dTest (dBin kNe (dErr fun Ed => (dCallX sp_surely Ed (dCons (dVar 3) (dCons (dTup dNil) (dCons (dTup (dCons (dC (.str "out")) dNil)) dNil))))) (dC (.str "facts value")))) (dRet (dC (.bl false))) dNext)))) DD ρ μ } w [some d0, some d1, some d2, some S.d, w4, none, none, none, none] μ := fun w hw => by
    subst hw
    refine fn_loop (ds0 := [S.d, .tup (List.replicate (3 : Int).toNat [D.tup [.int 1, .int 1]]).flatten]) (fun w μ Q q => ⟨⟨by decide, by decide, by decide⟩, q⟩) nx tB (fun p hp => ⟨hp, fun μ Q E q => ?_⟩) none
    simp only [tB, List.mem_cons, List.not_mem_nil, or_false] at hp
    rcases hp with rfl | rfl | rfl
    · exact ⟨S.d, _, rfl, sd, fun z => no z, fun _ => ⟨_, rfl, by decide, q⟩⟩
    · exact ⟨S.d, _, rfl, sd, fun z => no z, fun _ => ⟨_, rfl, by decide, q⟩⟩
    · exact ⟨S.d, _, rfl, sd, fun z => no z, fun _ => ⟨_, rfl, by decide, q⟩⟩
  exact loop _ rfl
theorem ek_one {d0 d1 d2 : D} {S : Scr} {w4 : Option D} {DD : DEnds} {Ed : DXK} {μ : MS} (hS : S.Ok) (q : DD.nx [some d0, some d1, some d2, some S.d, w4, none, none, none, none] μ) : (dSeq (dFor (dSeqI (dTup (dCons (dC (.ref (fA.adr "alike"))) (dCons (dC (.ref (fA.adr "parting"))) dNil)))) (dName 8) (dForget [8] (dIfS (dTest (dBin kNe (dErr fun Ed => (dCallV 8 [(fA.adr "alike", sp_alike), (fA.adr "parting", sp_parting)] Ed (dCons (dVar 3) (dCons (dSl (dVar 3) dNoPart (dPart (dC (.int 1)))) dNil)))) (dC (.str "script value")))) (dRet (dC (.bl false))) dNext))) (dSeq (dFor (dSeqI (dTup (dCons (dC (.ref (fA.adr "rings"))) (dCons (dC (.ref (fA.adr "left"))) (dCons (dC (.ref (fA.adr "course"))) dNil))))) (dName 8) (dForget [8] (dIfS (dTest (dBin kNe (dErr fun Ed => (dCallV 8 [(fA.adr "rings", sp_rings), (fA.adr "left", sp_left), (fA.adr "course", sp_course)] Ed (dCons (dVar 3) (dCons (dBin kRep (dTup (dCons (dTup (dCons (dC (.int 1)) (dCons (dC (.int 1)) dNil))) dNil)) (dC (.int 3))) dNil)))) (dC (.str "minutes value")))) (dRet (dC (.bl false))) dNext))) (dSeq (dFor (dSeqI (dTup (dCons (dC (.ref (fA.adr "ring_bounds"))) (dCons (dC (.ref (fA.adr "left_bounds"))) dNil)))) (dName 8) (dForget [8] (dIfS (dTest (dBin kNe (dErr fun Ed => (dCallV 8 [(fA.adr "ring_bounds", sp_ring_bounds), (fA.adr "left_bounds", sp_left_bounds)] Ed (dCons (dVar 3) (dCons (dNeg (dC (.int 1))) dNil)))) (dC (.str "index value")))) (dRet (dC (.bl false))) dNext))) (dSeq (dIfS (dTest (dBin kNe (dErr fun Ed => (dCallX sp_spot_bounds Ed (dCons (dVar 3) (dCons (dC (.int 2)) (dCons (dC (.int 5)) dNil))))) (dC (.str "index value")))) (dRet (dC (.bl false))) dNext) (dSeq (dFor (dSeqI (dLst (dCons (dC .non) (dCons (dLst dNil) (dCons (dTup (dCons (dC .non) dNil)) (dCons (dTup (dCons (dTup (dCons (dC (.str "out")) (dCons (dC (.int 9)) dNil))) dNil)) (dCons (dTup (dCons (dTup (dCons (dC (.str "at")) (dCons (dC (.int 0)) dNil))) dNil)) (dCons (dBin kRep (dTup (dCons (dTup (dCons (dC (.str "out")) (dCons (dC (.int 0)) dNil))) dNil)) (dC (.int 7))) (dCons (dTup (dCons (dTup (dCons (dC (.str "at")) (dCons (dC (.int 12)) (dCons (dTup (dCons (dC (.int 1)) (dCons (dC (.int 1)) dNil))) dNil)))) dNil)) dNil))))))))) (dName 5) (dForget [5] (dSeq (dIfS (dTest (dBin kNe (dErr fun Ed => (dCallX sp_fits Ed (dCons (dVar 3) (dCons (dVar 5) dNil)))) (dC (.str "facts value")))) (dRet (dC (.bl false))) dNext) (dIfS (dTest (dBin kNe (dErr fun Ed => (dCallX sp_surely Ed (dCons (dVar 3) (dCons (dVar 5) (dCons (dC .non) dNil))))) (dC (.str "facts value")))) (dRet (dC (.bl false))) dNext)))) (dIfS (dTest (dBin kNe (dErr fun Ed => (dCallX sp_surely Ed (dCons (dVar 3) (dCons (dTup dNil) (dCons (dTup (dCons (dC (.str "out")) dNil)) dNil))))) (dC (.str "facts value")))) (dRet (dC (.bl false))) dNext)))))) DD [some d0, some d1, some d2, some S.d, w4, none, none, none, none] μ := by
  have sf := scr_fit hS
  have sd : Dat S.d := sf.dat (by decide)
  have si := scr_isScript hS
  have no : ∀ {P : Prop}, isScript S.d = false → P := fun z => by rw [si] at z; cases z
  have sd1 : Dat (.tup [fusesD S.fuses]) := (datN_tup (n := 2) fun d hd => by rw [List.mem_singleton.mp hd]; exact datN_fuses _).dat (by decide)
  have nx := ek_two (DD := DD) (Ed := Ed) (d0 := d0) (d1 := d1) (d2 := d2) (w4 := w4) (μ := μ) hS q
  have loop : ∀ w : List D, w = tA.map (fun p => .ref p.1) → forL (dName 8) (dForget [8] (dIfS (dTest (dBin kNe (dErr fun Ed => dCallV 8 tA Ed (dCons (dVar 3) (dCons (dSl (dVar 3) dNoPart (dPart (dC (.int 1)))) dNil))) (dC (.str (EC.nm .script))))) (dRet (dC (.bl false))) dNext)) { DD with nx := fun ρ μ => (dSeq (dFor (dSeqI (dTup (dCons (dC (.ref (fA.adr "rings"))) (dCons (dC (.ref (fA.adr "left"))) (dCons (dC (.ref (fA.adr "course"))) dNil))))) (dName 8) (dForget [8] (dIfS (dTest (dBin kNe (dErr fun Ed => (dCallV 8 [(fA.adr "rings", sp_rings), (fA.adr "left", sp_left), (fA.adr "course", sp_course)] Ed (dCons (dVar 3) (dCons (dBin kRep (dTup (dCons (dTup (dCons (dC (.int 1)) (dCons (dC (.int 1)) dNil))) dNil)) (dC (.int 3))) dNil)))) (dC (.str "minutes value")))) (dRet (dC (.bl false))) dNext))) (dSeq (dFor (dSeqI (dTup (dCons (dC (.ref (fA.adr "ring_bounds"))) (dCons (dC (.ref (fA.adr "left_bounds"))) dNil)))) (dName 8) (dForget [8] (dIfS (dTest (dBin kNe (dErr fun Ed => (dCallV 8 [(fA.adr "ring_bounds", sp_ring_bounds), (fA.adr "left_bounds", sp_left_bounds)] Ed (dCons (dVar 3) (dCons (dNeg (dC (.int 1))) dNil)))) (dC (.str "index value")))) (dRet (dC (.bl false))) dNext))) (dSeq (dIfS (dTest (dBin kNe (dErr fun Ed => (dCallX sp_spot_bounds Ed (dCons (dVar 3) (dCons (dC (.int 2)) (dCons (dC (.int 5)) dNil))))) (dC (.str "index value")))) (dRet (dC (.bl false))) dNext) (dSeq (dFor (dSeqI (dLst (dCons (dC .non) (dCons (dLst dNil) (dCons (dTup (dCons (dC .non) dNil)) (dCons (dTup (dCons (dTup (dCons (dC (.str "out")) (dCons (dC (.int 9)) dNil))) dNil)) (dCons (dTup (dCons (dTup (dCons (dC (.str "at")) (dCons (dC (.int 0)) dNil))) dNil)) (dCons (dBin kRep (dTup (dCons (dTup (dCons (dC (.str "out")) (dCons (dC (.int 0)) dNil))) dNil)) (dC (.int 7))) (dCons (dTup (dCons (dTup (dCons (dC (.str "at")) (dCons (dC (.int 12)) (dCons (dTup (dCons (dC (.int 1)) (dCons (dC (.int 1)) dNil))) dNil)))) dNil)) dNil))))))))) (dName 5) (dForget [5] (dSeq (dIfS (dTest (dBin kNe (dErr fun Ed => (dCallX sp_fits Ed (dCons (dVar 3) (dCons (dVar 5) dNil)))) (dC (.str "facts value")))) (dRet (dC (.bl false))) dNext) (dIfS (dTest (dBin kNe (dErr fun Ed => (dCallX sp_surely Ed (dCons (dVar 3) (dCons (dVar 5) (dCons (dC .non) dNil))))) (dC (.str "facts value")))) (dRet (dC (.bl false))) dNext)))) (dIfS (dTest (dBin kNe (dErr fun Ed => (dCallX sp_surely Ed (dCons (dVar 3) (dCons (dTup dNil) (dCons (dTup (dCons (dC (.str "out")) dNil)) dNil))))) (dC (.str "facts value")))) (dRet (dC (.bl false))) dNext))))) DD ρ μ } w [some d0, some d1, some d2, some S.d, w4, none, none, none, none] μ := fun w hw => by
    subst hw
    refine fn_loop (ds0 := [S.d, .tup (cut [fusesD S.fuses, stepsD S.steps] none (some 1))]) (fun w μ Q q => q) nx tA (fun p hp => ⟨hp, fun μ Q E q => ?_⟩) none
    simp only [tA, List.mem_cons, List.not_mem_nil, or_false] at hp
    rcases hp with rfl | rfl
    · exact ⟨S.d, _, rfl, sd, fun z => no z, fun _ => ⟨sd1, rfl, q⟩⟩
    · exact ⟨S.d, _, rfl, sd, fun z => no z, fun _ => ⟨sd1, rfl, q⟩⟩
  exact loop _ rfl
theorem pure_law (ds : List D) (μ : MS) (Q : DK) (Ed : DXK) (h : sp_law ds μ Q Ed) : t_law Ed { nx := fun _ μ => Q .non μ, rt := Q } (dstart nm_law ds) μ := by
  obtain ⟨ns, rfl, q⟩ := h
  have hL : sizeLine = 16777216 := sizeLine_eq
  refine ⟨by omega, by omega, ?_⟩
  have hn : (max 5 (min 12 (ns.length : Int))).toNat ≤ 12 := by omega
  refine forL_inv (fun i ρ μ' => ρ = [some (.scr ns), none, none, none, none, none, none, none, none]) _ 0 _ _ rfl (fun i d ρ μ1 N hd hi hN => ?_) fun ρ μ1 h => ?_
  · subst hi
    rw [intsD_get] at hd
    split at hd
    · rename_i hlt
      cases hd
      have e0 : (0 : Int) + i = (i : Nat) := by omega
      rw [e0]
      refine ⟨ns, i, rfl, by omega, fun a μ2 ha v2 => ?_⟩
      refine ⟨a, 12, 2, rfl, v2.vat, by decide, by decide, fun μ3 S v3 hS _ _ => ?_⟩
      have sf := scr_fit hS
      have sd : Dat S.d := sf.dat (by decide)
      have st := hS.st
      refine ⟨by rw [hL]; show 2 + 1 ≤ 16777216; decide, ?_⟩
      intro a4 ha4
      have hva := v3.vat
      have ne : a4 ≠ a := fun z => by
        obtain ⟨u, w, e, _⟩ := hva
        rw [← z, ha4] at e
        cases e
      refine refL_of mset_same ⟨by rw [List.length_map]; show S.steps.length + 1 ≤ sizeLine; omega, refL_of mset_same ⟨by rw [hL]; show 6 < 16777216; decide, ?_⟩⟩
      rw [mset_mset]
      have hv4 : IsVat (mset μ3 a4 (some (.lst ([D.non, .lst [fusesD S.fuses, stepsD S.steps], .tup [fusesD S.fuses, stepsD S.steps, .non], .tup [stepsD S.steps, fusesD S.fuses], .str "fuses 60", stepsD S.steps] ++ [.tup [fusesD S.fuses, .tup (S.steps.map Act.d ++ [.int 5])]])))) a := by
        obtain ⟨u, w, e, r⟩ := hva
        exact ⟨u, w, by rw [mset_ne ne.symm]; exact e, r⟩
      have dats : ∀ d ∈ [D.non, .lst [fusesD S.fuses, stepsD S.steps], .tup [fusesD S.fuses, stepsD S.steps, .non], .tup [stepsD S.steps, fusesD S.fuses], .str "fuses 60", stepsD S.steps] ++ [.tup [fusesD S.fuses, .tup (S.steps.map Act.d ++ [.int 5])]], Dat d := by
        have hf := datN_fuses S.fuses
        have hs := datN_steps S.steps
        intro d hd
        simp only [List.mem_append, List.mem_cons, List.not_mem_nil, or_false] at hd
        rcases hd with (rfl | rfl | rfl | rfl | rfl | rfl) | rfl
        · exact datN_non.dat (Nat.zero_le 40)
        · exact (datN_lst (n := 2) fun d hd => by
            simp only [List.mem_cons, List.not_mem_nil, or_false] at hd
            rcases hd with rfl | rfl
            · exact hf
            · exact hs).dat (by decide)
        · exact (datN_tup (n := 2) fun d hd => by
            simp only [List.mem_cons, List.not_mem_nil, or_false] at hd
            rcases hd with rfl | rfl | rfl
            · exact hf
            · exact hs
            · exact datN_non).dat (by decide)
        · exact (datN_tup (n := 2) fun d hd => by
            simp only [List.mem_cons, List.not_mem_nil, or_false] at hd
            rcases hd with rfl | rfl
            · exact hs
            · exact hf).dat (by decide)
        · exact fuses60
        · exact hs.dat (by decide)
        · exact (datN_tup (n := 2) fun d hd => by
            simp only [List.mem_cons, List.not_mem_nil, or_false] at hd
            rcases hd with rfl | rfl
            · exact hf
            · exact datN_tup (n := 1) fun d hd => by
                rcases List.mem_append.mp hd with hd | hd
                · obtain ⟨a, _, rfl⟩ := List.mem_map.mp hd; exact datN_act a (Nat.le_refl _)
                · rw [List.mem_singleton.mp hd]; exact datN_int _).dat (by decide)
      refine refL_of mset_same ⟨a, 100, 3, S.d, rfl, by have := sf.d; omega, sf, by decide, by decide, by decide, hv4, fun μ5 d v5 hfd => ?_⟩
      refine refL_of (by rw [v5.els a4 ne]; exact mset_same) ⟨by rw [hL]; show 7 < 16777216; decide, ?_⟩
      refine refL_of mset_same ?_
      rw [mset_mset]
      have hv6 : IsVat (mset μ5 a4 none) a := by
        obtain ⟨u, w, e, r⟩ := v5.vat
        exact ⟨u, w, by rw [mset_ne ne.symm]; exact e, r⟩
      have loop : ∀ xs : List D, (∀ x ∈ xs, Dat x) → forL (dName 5) (ek_odd Ed) { nx := fun ρ μ => (dSeq (dFor (dSeqI (dTup (dCons (dC (.ref (fA.adr "alike"))) (dCons (dC (.ref (fA.adr "parting"))) dNil)))) (dName 8) (dForget [8] (dIfS (dTest (dBin kNe (dErr fun Ed => (dCallV 8 [(fA.adr "alike", sp_alike), (fA.adr "parting", sp_parting)] Ed (dCons (dVar 3) (dCons (dSl (dVar 3) dNoPart (dPart (dC (.int 1)))) dNil)))) (dC (.str "script value")))) (dRet (dC (.bl false))) dNext))) (dSeq (dFor (dSeqI (dTup (dCons (dC (.ref (fA.adr "rings"))) (dCons (dC (.ref (fA.adr "left"))) (dCons (dC (.ref (fA.adr "course"))) dNil))))) (dName 8) (dForget [8] (dIfS (dTest (dBin kNe (dErr fun Ed => (dCallV 8 [(fA.adr "rings", sp_rings), (fA.adr "left", sp_left), (fA.adr "course", sp_course)] Ed (dCons (dVar 3) (dCons (dBin kRep (dTup (dCons (dTup (dCons (dC (.int 1)) (dCons (dC (.int 1)) dNil))) dNil)) (dC (.int 3))) dNil)))) (dC (.str "minutes value")))) (dRet (dC (.bl false))) dNext))) (dSeq (dFor (dSeqI (dTup (dCons (dC (.ref (fA.adr "ring_bounds"))) (dCons (dC (.ref (fA.adr "left_bounds"))) dNil)))) (dName 8) (dForget [8] (dIfS (dTest (dBin kNe (dErr fun Ed => (dCallV 8 [(fA.adr "ring_bounds", sp_ring_bounds), (fA.adr "left_bounds", sp_left_bounds)] Ed (dCons (dVar 3) (dCons (dNeg (dC (.int 1))) dNil)))) (dC (.str "index value")))) (dRet (dC (.bl false))) dNext))) (dSeq (dIfS (dTest (dBin kNe (dErr fun Ed => (dCallX sp_spot_bounds Ed (dCons (dVar 3) (dCons (dC (.int 2)) (dCons (dC (.int 5)) dNil))))) (dC (.str "index value")))) (dRet (dC (.bl false))) dNext) (dSeq (dFor (dSeqI (dLst (dCons (dC .non) (dCons (dLst dNil) (dCons (dTup (dCons (dC .non) dNil)) (dCons (dTup (dCons (dTup (dCons (dC (.str "out")) (dCons (dC (.int 9)) dNil))) dNil)) (dCons (dTup (dCons (dTup (dCons (dC (.str "at")) (dCons (dC (.int 0)) dNil))) dNil)) (dCons (dBin kRep (dTup (dCons (dTup (dCons (dC (.str "out")) (dCons (dC (.int 0)) dNil))) dNil)) (dC (.int 7))) (dCons (dTup (dCons (dTup (dCons (dC (.str "at")) (dCons (dC (.int 12)) (dCons (dTup (dCons (dC (.int 1)) (dCons (dC (.int 1)) dNil))) dNil)))) dNil)) dNil))))))))) (dName 5) (dForget [5] (dSeq (dIfS (dTest (dBin kNe (dErr fun Ed => (dCallX sp_fits Ed (dCons (dVar 3) (dCons (dVar 5) dNil)))) (dC (.str "facts value")))) (dRet (dC (.bl false))) dNext) (dIfS (dTest (dBin kNe (dErr fun Ed => (dCallX sp_surely Ed (dCons (dVar 3) (dCons (dVar 5) (dCons (dC .non) dNil))))) (dC (.str "facts value")))) (dRet (dC (.bl false))) dNext)))) (dIfS (dTest (dBin kNe (dErr fun Ed => (dCallX sp_surely Ed (dCons (dVar 3) (dCons (dTup dNil) (dCons (dTup (dCons (dC (.str "out")) dNil)) dNil))))) (dC (.str "facts value")))) (dRet (dC (.bl false))) dNext)))))) { nx := dLose [1, 2, 3, 4, 5, 8, 6, 7] N, rt := Q, ct := dLose [1, 2, 3, 4, 5, 8, 6, 7] N, bk := fun ρ μ => dRet (dC (.bl true)) { nx := fun _ μ => Q .non μ, rt := Q } ρ μ } ρ μ, rt := Q, ct := dLose [1, 2, 3, 4, 5, 8, 6, 7] N, bk := fun ρ μ => dRet (dC (.bl true)) { nx := fun _ μ => Q .non μ, rt := Q } ρ μ } xs [some (.scr ns), some (.int (i : Nat)), some (.ref a), some S.d, some (.ref a4), none, none, none, none] (mset μ5 a4 none) := by
        intro xs hx
        refine odd_loop (fun μ7 hv7 => ?_) xs _ hv6 hx
        exact ek_one (Ed := Ed) hS (hN _ _ rfl)
      refine loop _ fun x hx => ?_
      rcases List.mem_append.mp hx with hx | hx
      · exact dats x hx
      · rw [List.mem_singleton.mp hx]; exact hfd.dat (by decide)
    · cases hd
  · subst h
    exact q μ1
end Li

set_option Elab.async false
set_option linter.all false
set_option maxRecDepth 100000
set_option maxHeartbeats 2000000
namespace Li
open PySem PySem.Spec PyProof.Rows L2 HotX L2H
variable [Tbl] [cC : Cls] [fA : Fad]
abbrev s__law_vat : Stmt := topS 126
theorem sc__law_vat : FnScope nm__law_vat ps__law_vat (defScope s__law_vat) := ⟨rfl, rfl, rfl, by decide +kernel, rfl, by decide +kernel, by decide +kernel⟩
abbrev s__law_under : Stmt := topS 127
theorem sc__law_under : FnScope nm__law_under ps__law_under (defScope s__law_under) := ⟨rfl, rfl, rfl, by decide +kernel, rfl, by decide +kernel, by decide +kernel⟩
abbrev s__law_some : Stmt := topS 128
theorem sc__law_some : FnScope nm__law_some ps__law_some (defScope s__law_some) := ⟨rfl, rfl, rfl, by decide +kernel, rfl, by decide +kernel, by decide +kernel⟩
abbrev s__law_any_step : Stmt := topS 130
theorem sc__law_any_step : FnScope nm__law_any_step ps__law_any_step (defScope s__law_any_step) := ⟨rfl, rfl, rfl, by decide +kernel, rfl, by decide +kernel, by decide +kernel⟩
abbrev s__law_script : Stmt := topS 131
theorem sc__law_script : FnScope nm__law_script ps__law_script (defScope s__law_script) := ⟨rfl, rfl, rfl, by decide +kernel, rfl, by decide +kernel, by decide +kernel⟩
abbrev s_is_whole : Stmt := topS 18
theorem sc_is_whole : FnScope nm_is_whole ps_is_whole (defScope s_is_whole) := ⟨rfl, rfl, rfl, by decide +kernel, rfl, by decide +kernel, by decide +kernel⟩
abbrev s_is_word : Stmt := topS 22
theorem sc_is_word : FnScope nm_is_word ps_is_word (defScope s_is_word) := ⟨rfl, rfl, rfl, by decide +kernel, rfl, by decide +kernel, by decide +kernel⟩
abbrev s_is_step : Stmt := topS 24
theorem sc_is_step : FnScope nm_is_step ps_is_step (defScope s_is_step) := ⟨rfl, rfl, rfl, by decide +kernel, rfl, by decide +kernel, by decide +kernel⟩
abbrev s_are_steps : Stmt := topS 25
theorem sc_are_steps : FnScope nm_are_steps ps_are_steps (defScope s_are_steps) := ⟨rfl, rfl, rfl, by decide +kernel, rfl, by decide +kernel, by decide +kernel⟩
abbrev s_is_fuses : Stmt := topS 23
theorem sc_is_fuses : FnScope nm_is_fuses ps_is_fuses (defScope s_is_fuses) := ⟨rfl, rfl, rfl, by decide +kernel, rfl, by decide +kernel, by decide +kernel⟩
abbrev s_spots_of : Stmt := topS 26
theorem sc_spots_of : FnScope nm_spots_of ps_spots_of (defScope s_spots_of) := ⟨rfl, rfl, rfl, by decide +kernel, rfl, by decide +kernel, by decide +kernel⟩
abbrev s_is_script : Stmt := topS 27
theorem sc_is_script : FnScope nm_is_script ps_is_script (defScope s_is_script) := ⟨rfl, rfl, rfl, by decide +kernel, rfl, by decide +kernel, by decide +kernel⟩
abbrev s_need_script : Stmt := topS 30
theorem sc_need_script : FnScope nm_need_script ps_need_script (defScope s_need_script) := ⟨rfl, rfl, rfl, by decide +kernel, rfl, by decide +kernel, by decide +kernel⟩
abbrev s_alike : Stmt := topS 119
theorem sc_alike : FnScope nm_alike ps_alike (defScope s_alike) := ⟨rfl, rfl, rfl, by decide +kernel, rfl, by decide +kernel, by decide +kernel⟩
abbrev s_parting : Stmt := topS 120
theorem sc_parting : FnScope nm_parting ps_parting (defScope s_parting) := ⟨rfl, rfl, rfl, by decide +kernel, rfl, by decide +kernel, by decide +kernel⟩
abbrev s_state_with : Stmt := topS 83
theorem sc_state_with : FnScope nm_state_with ps_state_with (defScope s_state_with) := ⟨rfl, rfl, rfl, by decide +kernel, rfl, by decide +kernel, by decide +kernel⟩
abbrev s_need_state : Stmt := topS 86
theorem sc_need_state : FnScope nm_need_state ps_need_state (defScope s_need_state) := ⟨rfl, rfl, rfl, by decide +kernel, rfl, by decide +kernel, by decide +kernel⟩
abbrev s_rings : Stmt := topS 88
theorem sc_rings : FnScope nm_rings ps_rings (defScope s_rings) := ⟨rfl, rfl, rfl, by decide +kernel, rfl, by decide +kernel, by decide +kernel⟩
abbrev s_left : Stmt := topS 89
theorem sc_left : FnScope nm_left ps_left (defScope s_left) := ⟨rfl, rfl, rfl, by decide +kernel, rfl, by decide +kernel, by decide +kernel⟩
abbrev s_course : Stmt := topS 91
theorem sc_course : FnScope nm_course ps_course (defScope s_course) := ⟨rfl, rfl, rfl, by decide +kernel, rfl, by decide +kernel, by decide +kernel⟩
abbrev s_need_index : Stmt := topS 31
theorem sc_need_index : FnScope nm_need_index ps_need_index (defScope s_need_index) := ⟨rfl, rfl, rfl, by decide +kernel, rfl, by decide +kernel, by decide +kernel⟩
abbrev s_rings_of : Stmt := topS 28
theorem sc_rings_of : FnScope nm_rings_of ps_rings_of (defScope s_rings_of) := ⟨rfl, rfl, rfl, by decide +kernel, rfl, by decide +kernel, by decide +kernel⟩
abbrev s_ring_bounds : Stmt := topS 100
theorem sc_ring_bounds : FnScope nm_ring_bounds ps_ring_bounds (defScope s_ring_bounds) := ⟨rfl, rfl, rfl, by decide +kernel, rfl, by decide +kernel, by decide +kernel⟩
abbrev s_pieces_of : Stmt := topS 29
theorem sc_pieces_of : FnScope nm_pieces_of ps_pieces_of (defScope s_pieces_of) := ⟨rfl, rfl, rfl, by decide +kernel, rfl, by decide +kernel, by decide +kernel⟩
abbrev s_left_bounds : Stmt := topS 101
theorem sc_left_bounds : FnScope nm_left_bounds ps_left_bounds (defScope s_left_bounds) := ⟨rfl, rfl, rfl, by decide +kernel, rfl, by decide +kernel, by decide +kernel⟩
abbrev s__law_odd : Stmt := topS 137
theorem sc__law_odd : FnScope nm__law_odd ps__law_odd (defScope s__law_odd) := ⟨rfl, rfl, rfl, by decide +kernel, rfl, by decide +kernel, by decide +kernel⟩
abbrev s__law_bent : Stmt := topS 138
theorem sc__law_bent : FnScope nm__law_bent ps__law_bent (defScope s__law_bent) := ⟨rfl, rfl, rfl, by decide +kernel, rfl, by decide +kernel, by decide +kernel⟩
abbrev nm__law_names : List Str := ["e", "some", "words_so", "word", "good"]
abbrev ps__law_names : List Str := ["e"]
abbrev s__law_names : Stmt := topS 135
theorem sc__law_names : FnScope nm__law_names ps__law_names (defScope s__law_names) := ⟨rfl, rfl, rfl, by decide +kernel, rfl, by decide +kernel, by decide +kernel⟩
abbrev nm__law_error : List Str := ["call", "e"]
abbrev ps__law_error : List Str := ["call"]
abbrev s__law_error : Stmt := topS 136
theorem sc__law_error : FnScope nm__law_error ps__law_error (defScope s__law_error) := ⟨rfl, rfl, rfl, by decide +kernel, rfl, by decide +kernel, by decide +kernel⟩
abbrev s__law_is_whole : Stmt := topS 129
theorem sc__law_is_whole : FnScope nm__law_is_whole ps__law_is_whole (defScope s__law_is_whole) := ⟨rfl, rfl, rfl, by decide +kernel, rfl, by decide +kernel, by decide +kernel⟩
abbrev s__law_is_fuses : Stmt := topS 132
theorem sc__law_is_fuses : FnScope nm__law_is_fuses ps__law_is_fuses (defScope s__law_is_fuses) := ⟨rfl, rfl, rfl, by decide +kernel, rfl, by decide +kernel, by decide +kernel⟩
abbrev s__law_is_step : Stmt := topS 133
theorem sc__law_is_step : FnScope nm__law_is_step ps__law_is_step (defScope s__law_is_step) := ⟨rfl, rfl, rfl, by decide +kernel, rfl, by decide +kernel, by decide +kernel⟩
abbrev s__law_is_script : Stmt := topS 134
theorem sc__law_is_script : FnScope nm__law_is_script ps__law_is_script (defScope s__law_is_script) := ⟨rfl, rfl, rfl, by decide +kernel, rfl, by decide +kernel, by decide +kernel⟩
abbrev s_count_rings : Stmt := topS 35
theorem sc_count_rings : FnScope nm_count_rings ps_count_rings (defScope s_count_rings) := ⟨rfl, rfl, rfl, by decide +kernel, rfl, by decide +kernel, by decide +kernel⟩
abbrev s_count_spots : Stmt := topS 36
theorem sc_count_spots : FnScope nm_count_spots ps_count_spots (defScope s_count_spots) := ⟨rfl, rfl, rfl, by decide +kernel, rfl, by decide +kernel, by decide +kernel⟩
abbrev s_count_pieces : Stmt := topS 37
theorem sc_count_pieces : FnScope nm_count_pieces ps_count_pieces (defScope s_count_pieces) := ⟨rfl, rfl, rfl, by decide +kernel, rfl, by decide +kernel, by decide +kernel⟩
abbrev s_courses : Stmt := topS 94
theorem sc_courses : FnScope nm_courses ps_courses (defScope s_courses) := ⟨rfl, rfl, rfl, by decide +kernel, rfl, by decide +kernel, by decide +kernel⟩
abbrev s_sure_rings : Stmt := topS 103
theorem sc_sure_rings : FnScope nm_sure_rings ps_sure_rings (defScope s_sure_rings) := ⟨rfl, rfl, rfl, by decide +kernel, rfl, by decide +kernel, by decide +kernel⟩
abbrev s_needless : Stmt := topS 121
theorem sc_needless : FnScope nm_needless ps_needless (defScope s_needless) := ⟨rfl, rfl, rfl, by decide +kernel, rfl, by decide +kernel, by decide +kernel⟩
abbrev s_script_text : Stmt := topS 124
theorem sc_script_text : FnScope nm_script_text ps_script_text (defScope s_script_text) := ⟨rfl, rfl, rfl, by decide +kernel, rfl, by decide +kernel, by decide +kernel⟩
abbrev s_divisor : Stmt := topS 19
theorem sc_divisor : FnScope nm_divisor ps_divisor (defScope s_divisor) := ⟨rfl, rfl, rfl, by decide +kernel, rfl, by decide +kernel, by decide +kernel⟩
abbrev s_is_fraction : Stmt := topS 20
theorem sc_is_fraction : FnScope nm_is_fraction ps_is_fraction (defScope s_is_fraction) := ⟨rfl, rfl, rfl, by decide +kernel, rfl, by decide +kernel, by decide +kernel⟩
abbrev s_is_time : Stmt := topS 21
theorem sc_is_time : FnScope nm_is_time ps_is_time (defScope s_is_time) := ⟨rfl, rfl, rfl, by decide +kernel, rfl, by decide +kernel, by decide +kernel⟩
abbrev s_good_fact : Stmt := topS 32
theorem sc_good_fact : FnScope nm_good_fact ps_good_fact (defScope s_good_fact) := ⟨rfl, rfl, rfl, by decide +kernel, rfl, by decide +kernel, by decide +kernel⟩
abbrev s_is_fact : Stmt := topS 34
theorem sc_is_fact : FnScope nm_is_fact ps_is_fact (defScope s_is_fact) := ⟨rfl, rfl, rfl, by decide +kernel, rfl, by decide +kernel, by decide +kernel⟩
abbrev s_is_possible : Stmt := topS 87
theorem sc_is_possible : FnScope nm_is_possible ps_is_possible (defScope s_is_possible) := ⟨rfl, rfl, rfl, by decide +kernel, rfl, by decide +kernel, by decide +kernel⟩
abbrev s_case : Stmt := topS 95
theorem sc_case : FnScope nm_case ps_case (defScope s_case) := ⟨rfl, rfl, rfl, by decide +kernel, rfl, by decide +kernel, by decide +kernel⟩
abbrev s_can_ring : Stmt := topS 106
theorem sc_can_ring : FnScope nm_can_ring ps_can_ring (defScope s_can_ring) := ⟨rfl, rfl, rfl, by decide +kernel, rfl, by decide +kernel, by decide +kernel⟩
abbrev s_minutes_with : Stmt := topS 107
theorem sc_minutes_with : FnScope nm_minutes_with ps_minutes_with (defScope s_minutes_with) := ⟨rfl, rfl, rfl, by decide +kernel, rfl, by decide +kernel, by decide +kernel⟩
abbrev s_need_facts : Stmt := topS 33
theorem sc_need_facts : FnScope nm_need_facts ps_need_facts (defScope s_need_facts) := ⟨rfl, rfl, rfl, by decide +kernel, rfl, by decide +kernel, by decide +kernel⟩
abbrev s_fits : Stmt := topS 112
theorem sc_fits : FnScope nm_fits ps_fits (defScope s_fits) := ⟨rfl, rfl, rfl, by decide +kernel, rfl, by decide +kernel, by decide +kernel⟩
abbrev s_spot_bounds : Stmt := topS 113
theorem sc_spot_bounds : FnScope nm_spot_bounds ps_spot_bounds (defScope s_spot_bounds) := ⟨rfl, rfl, rfl, by decide +kernel, rfl, by decide +kernel, by decide +kernel⟩
abbrev s_surely : Stmt := topS 114
theorem sc_surely : FnScope nm_surely ps_surely (defScope s_surely) := ⟨rfl, rfl, rfl, by decide +kernel, rfl, by decide +kernel, by decide +kernel⟩
abbrev s__law_of_script : Stmt := topS 139
theorem sc__law_of_script : FnScope nm__law_of_script ps__law_of_script (defScope s__law_of_script) := ⟨rfl, rfl, rfl, by decide +kernel, rfl, by decide +kernel, by decide +kernel⟩
abbrev s_law : Stmt := topS 140
theorem sc_law : FnScope nm_law ps_law (defScope s_law) := ⟨rfl, rfl, rfl, by decide +kernel, rfl, by decide +kernel, by decide +kernel⟩
abbrev nm_worth : List Str := ["amount", "minutes", "one", "two", "three", "four", "top"]
abbrev ps_worth : List Str := ["amount", "minutes"]
abbrev s_worth : Stmt := topS 85
theorem sc_worth : FnScope nm_worth ps_worth (defScope s_worth) := ⟨rfl, rfl, rfl, by decide +kernel, rfl, by decide +kernel, by decide +kernel⟩
abbrev nm_way_of : List Str := ["state", "time", "gone"]
abbrev ps_way_of : List Str := ["state"]
abbrev s_way_of : Stmt := topS 90
theorem sc_way_of : FnScope nm_way_of ps_way_of (defScope s_way_of) := ⟨rfl, rfl, rfl, by decide +kernel, rfl, by decide +kernel, by decide +kernel⟩
abbrev lamQ (x : Str) : Str := (envOfC x (defScope s_law) 0 0 .none).qual ++ "<lambda>"
structure XRef (mg : Str → Option Value) (x : Str) (C : Addr) : Prop where
  g : mg x = some (.ref C)
structure Txt (K : PySem.W.Frag) (mg : Str → Option Value) (base : Heap) : Prop where
  f__law_vat : FnT K mg "_law_vat" s__law_vat ps__law_vat
  f__law_under : FnT K mg "_law_under" s__law_under ps__law_under
  f__law_some : FnT K mg "_law_some" s__law_some ps__law_some
  f__law_any_step : FnT K mg "_law_any_step" s__law_any_step ps__law_any_step
  f__law_script : FnT K mg "_law_script" s__law_script ps__law_script
  f_is_whole : FnT K mg "is_whole" s_is_whole ps_is_whole
  f_is_word : FnT K mg "is_word" s_is_word ps_is_word
  f_is_step : FnT K mg "is_step" s_is_step ps_is_step
  f_are_steps : FnT K mg "are_steps" s_are_steps ps_are_steps
  f_is_fuses : FnT K mg "is_fuses" s_is_fuses ps_is_fuses
  f_spots_of : FnT K mg "spots_of" s_spots_of ps_spots_of
  f_is_script : FnT K mg "is_script" s_is_script ps_is_script
  f_need_script : FnT K mg "need_script" s_need_script ps_need_script
  f_alike : FnT K mg "alike" s_alike ps_alike
  f_parting : FnT K mg "parting" s_parting ps_parting
  f_state_with : FnT K mg "state_with" s_state_with ps_state_with
  f_need_state : FnT K mg "need_state" s_need_state ps_need_state
  f_rings : FnT K mg "rings" s_rings ps_rings
  f_left : FnT K mg "left" s_left ps_left
  f_course : FnT K mg "course" s_course ps_course
  f_need_index : FnT K mg "need_index" s_need_index ps_need_index
  f_rings_of : FnT K mg "rings_of" s_rings_of ps_rings_of
  f_ring_bounds : FnT K mg "ring_bounds" s_ring_bounds ps_ring_bounds
  f_pieces_of : FnT K mg "pieces_of" s_pieces_of ps_pieces_of
  f_left_bounds : FnT K mg "left_bounds" s_left_bounds ps_left_bounds
  f__law_odd : FnT K mg "_law_odd" s__law_odd ps__law_odd
  f__law_bent : FnT K mg "_law_bent" s__law_bent ps__law_bent
  f__law_names : FnT K mg "_law_names" s__law_names ps__law_names
  f__law_error : FnT K mg "_law_error" s__law_error ps__law_error
  f__law_is_whole : FnT K mg "_law_is_whole" s__law_is_whole ps__law_is_whole
  f__law_is_fuses : FnT K mg "_law_is_fuses" s__law_is_fuses ps__law_is_fuses
  f__law_is_step : FnT K mg "_law_is_step" s__law_is_step ps__law_is_step
  f__law_is_script : FnT K mg "_law_is_script" s__law_is_script ps__law_is_script
  f_count_rings : FnT K mg "count_rings" s_count_rings ps_count_rings
  f_count_spots : FnT K mg "count_spots" s_count_spots ps_count_spots
  f_count_pieces : FnT K mg "count_pieces" s_count_pieces ps_count_pieces
  f_courses : FnT K mg "courses" s_courses ps_courses
  f_sure_rings : FnT K mg "sure_rings" s_sure_rings ps_sure_rings
  f_needless : FnT K mg "needless" s_needless ps_needless
  f_script_text : FnT K mg "script_text" s_script_text ps_script_text
  f_divisor : FnT K mg "divisor" s_divisor ps_divisor
  f_is_fraction : FnT K mg "is_fraction" s_is_fraction ps_is_fraction
  f_is_time : FnT K mg "is_time" s_is_time ps_is_time
  f_good_fact : FnT K mg "good_fact" s_good_fact ps_good_fact
  f_is_fact : FnT K mg "is_fact" s_is_fact ps_is_fact
  f_is_possible : FnT K mg "is_possible" s_is_possible ps_is_possible
  f_case : FnT K mg "case" s_case ps_case
  f_can_ring : FnT K mg "can_ring" s_can_ring ps_can_ring
  f_minutes_with : FnT K mg "minutes_with" s_minutes_with ps_minutes_with
  f_need_facts : FnT K mg "need_facts" s_need_facts ps_need_facts
  f_fits : FnT K mg "fits" s_fits ps_fits
  f_spot_bounds : FnT K mg "spot_bounds" s_spot_bounds ps_spot_bounds
  f_surely : FnT K mg "surely" s_surely ps_surely
  l__law_of_script : FnTL K mg base "_law_of_script" s__law_of_script ps__law_of_script (lamQ "_law_of_script")
  l_law : FnTL K mg base "law" s_law ps_law (lamQ "law")
  f_worth : FnT K mg "worth" s_worth ps_worth
  f_way_of : FnT K mg "way_of" s_way_of ps_way_of
  b_ValueError : mg "ValueError" = none
  b_abs : mg "abs" = none
  b_bool : mg "bool" = none
  b_int : mg "int" = none
  b_isinstance : mg "isinstance" = none
  b_len : mg "len" = none
  b_list : mg "list" = none
  b_max : mg "max" = none
  b_min : mg "min" = none
  b_range : mg "range" = none
  b_str : mg "str" = none
  b_tuple : mg "tuple" = none
  b_zip : mg "zip" = none
  c_MOST_SPOTS : Glb K mg "MOST_SPOTS" d_MOST_SPOTS
  c_MOST_STEPS : Glb K mg "MOST_STEPS" d_MOST_STEPS
  c_SIDES : Glb K mg "SIDES" d_SIDES
  g_FuseError : mg "FuseError" = some (.ref cC.FuseError)
  x_InvalidFacts : XCls K mg "InvalidFacts" cC.InvalidFacts
  x_InvalidFuses : XCls K mg "InvalidFuses" cC.InvalidFuses
  x_InvalidIndex : XCls K mg "InvalidIndex" cC.InvalidIndex
  x_InvalidMinutes : XCls K mg "InvalidMinutes" cC.InvalidMinutes
  x_InvalidNumber : XCls K mg "InvalidNumber" cC.InvalidNumber
  x_InvalidScript : XCls K mg "InvalidScript" cC.InvalidScript
  x_InvalidSide : XCls K mg "InvalidSide" cC.InvalidSide
  x_InvalidText : XRef mg "InvalidText" cC.InvalidText
  x_InvalidTimes : XCls K mg "InvalidTimes" cC.InvalidTimes
  x_NothingToUndo : XCls K mg "NothingToUndo" cC.NothingToUndo
  x_TooMany : XRef mg "TooMany" cC.TooMany
  v_alike : mg "alike" = some (.ref (fA.adr "alike"))
  v_can_ring : mg "can_ring" = some (.ref (fA.adr "can_ring"))
  v_case : mg "case" = some (.ref (fA.adr "case"))
  v_count_pieces : mg "count_pieces" = some (.ref (fA.adr "count_pieces"))
  v_count_rings : mg "count_rings" = some (.ref (fA.adr "count_rings"))
  v_count_spots : mg "count_spots" = some (.ref (fA.adr "count_spots"))
  v_course : mg "course" = some (.ref (fA.adr "course"))
  v_courses : mg "courses" = some (.ref (fA.adr "courses"))
  v_fits : mg "fits" = some (.ref (fA.adr "fits"))
  v_is_fact : mg "is_fact" = some (.ref (fA.adr "is_fact"))
  v_is_possible : mg "is_possible" = some (.ref (fA.adr "is_possible"))
  v_left : mg "left" = some (.ref (fA.adr "left"))
  v_left_bounds : mg "left_bounds" = some (.ref (fA.adr "left_bounds"))
  v_minutes_with : mg "minutes_with" = some (.ref (fA.adr "minutes_with"))
  v_needless : mg "needless" = some (.ref (fA.adr "needless"))
  v_parting : mg "parting" = some (.ref (fA.adr "parting"))
  v_ring_bounds : mg "ring_bounds" = some (.ref (fA.adr "ring_bounds"))
  v_rings : mg "rings" = some (.ref (fA.adr "rings"))
  v_script_text : mg "script_text" = some (.ref (fA.adr "script_text"))
  v_spot_bounds : mg "spot_bounds" = some (.ref (fA.adr "spot_bounds"))
  v_sure_rings : mg "sure_rings" = some (.ref (fA.adr "sure_rings"))
  v_surely : mg "surely" = some (.ref (fA.adr "surely"))
  er : Errs K
section
variable {P : Program} {w : World} {K : PySem.W.Frag} {mg : Str → Option Value} {base : Heap}
theorem fnx_void {x : Str} {st : Stmt} {ps : List Str} {k : Nat} {sp : DSp} (F : FnT K mg x st ps) (h : ∀ ds μ Q E, ¬ sp ds μ Q E) : FnX P w K mg base x k ps sp := by
  obtain ⟨f, fd, h1, h2, h3⟩ := F.ex
  exact ⟨f, fd, h1, h2.kp, h3, ⟨fun vs H Q E ⟨_, _, _, _, _, _, _, q, _⟩ => (h _ _ _ _ q).elim, fun A outer s H args us vs Q E _ _ _ _ ⟨_, _, _, _, _, _, _, q, _⟩ => (h _ _ _ _ q).elim⟩⟩
theorem PGs.conj {X : Cx} {es : List Expr} {t : TGs} {C : Hp → Prop} (h : PGs X es t) : PGs X es (fun xs σ H Q => C H ∧ t xs σ H Q) := ⟨fun pins s σ H xs us Q I r q => h.run pins s σ H xs us Q I r q.2⟩
theorem nms_ok (T : Txt K mg base) : NamesOk P w K mg base := names_ok T.f__law_names sc__law_names rfl fun f cdv A outer s H B a1 o1 i hh hz hf hB =>
  dss_cons (ds_set (i := 1) sc__law_names.nd rfl (.inl rfl) (de_lst (da_cons (de_isE (T.er.exc i) hz hf hB (by rfl) T.b_isinstance (dv 0) (de_cls (by rfl) T.x_InvalidScript.g) (fun F v r => rep_ref.mp r) (fun u h => h) (T.er.kit i .script)) (da_cons (de_isE (T.er.exc i) hz hf hB (by rfl) T.b_isinstance (dv 0) (de_cls (by rfl) T.x_InvalidFuses.g) (fun F v r => rep_ref.mp r) (fun u h => h) (T.er.kit i .fuses)) (da_cons (de_isE (T.er.exc i) hz hf hB (by rfl) T.b_isinstance (dv 0) (de_cls (by rfl) T.x_InvalidMinutes.g) (fun F v r => rep_ref.mp r) (fun u h => h) (T.er.kit i .minutes)) (da_cons (de_isE (T.er.exc i) hz hf hB (by rfl) T.b_isinstance (dv 0) (de_cls (by rfl) T.x_InvalidIndex.g) (fun F v r => rep_ref.mp r) (fun u h => h) (T.er.kit i .index)) (da_cons (de_isE (T.er.exc i) hz hf hB (by rfl) T.b_isinstance (dv 0) (de_cls (by rfl) T.x_InvalidSide.g) (fun F v r => rep_ref.mp r) (fun u h => h) (T.er.kit i .side)) (da_cons (de_isE (T.er.exc i) hz hf hB (by rfl) T.b_isinstance (dv 0) (de_cls (by rfl) T.x_InvalidTimes.g) (fun F v r => rep_ref.mp r) (fun u h => h) (T.er.kit i .times)) (da_cons (de_isE (T.er.exc i) hz hf hB (by rfl) T.b_isinstance (dv 0) (de_cls (by rfl) T.x_InvalidFacts.g) (fun F v r => rep_ref.mp r) (fun u h => h) (T.er.kit i .facts)) (da_cons (de_isE (T.er.exc i) hz hf hB (by rfl) T.b_isinstance (dv 0) (de_cls (by rfl) T.x_InvalidNumber.g) (fun F v r => rep_ref.mp r) (fun u h => h) (T.er.kit i .number)) (da_cons (de_isE (T.er.exc i) hz hf hB (by rfl) T.b_isinstance (dv 0) (de_cls (by rfl) T.x_NothingToUndo.g) (fun F v r => rep_ref.mp r) (fun u h => h) (T.er.kit i .undo)) (da_cons (de_isE (T.er.exc i) hz hf hB (by rfl) T.b_isinstance (dv 0) (de_cls (by rfl) T.x_TooMany.g) (fun F v r => rep_ref.mp r) (fun u h => h) (T.er.kit i .many)) (da_cons (de_isE (T.er.exc i) hz hf hB (by rfl) T.b_isinstance (dv 0) (de_cls (by rfl) T.x_InvalidText.g) (fun F v r => rep_ref.mp r) (fun u h => h) (T.er.kit i .text)) (da_cons (de_isE (T.er.exc i) hz hf hB (by rfl) T.b_isinstance (dv 0) (de_ty (by rfl) T.b_ValueError (by decide +kernel)) (fun F v r => rep_ty.mp r) (fun u h => h) (T.er.val i)) da_nil)))))))))))))) (dss_cons (ds_set (i := 2) sc__law_names.nd rfl (.inl rfl) de_str) (dss_one (ds_ret (de_join de_str
    (de_lcE (a1 := a1) (o1 := o1) ⟨hh.hd, hh.dat⟩ hB sc__law_names.nd (di_zipE (by rfl) T.b_zip (da_cons (de_split (dv 2) de_str) (da_cons (dv 1) da_nil))) (blkOk_by (own := [("word", 3), ("good", 4)]) (N := nm__law_names) (sc := defScope s__law_names) (by decide +kernel))
      (ctg_tupE hB [3, 4] fun _ _ _ _ _ => pg_tupE (a1 := a1) (o1 := o1) ⟨hh.hd, hh.dat⟩ (fun _ _ _ _ h => h.1) (PGs.conj (pgs_cons (pg_name (i := 3) sc__law_names.nd rfl (.inl rfl)) (pgs_cons (pg_name (i := 4) sc__law_names.nd rfl (.inl rfl)) pgs_nil))))
      (fun _ _ _ _ _ => dts_one (dt_val (dv 4))) (fun _ _ _ _ _ => dv 3))))))
theorem et_ok (T : Txt K mg base) : ErrText K mg := errText_of T.f__law_error sc__law_error (by rfl) (by decide +kernel) (by decide +kernel) (by decide +kernel) T.g_FuseError
theorem ok_worth (T : Txt K mg base) : FnX P w K mg base "worth" 1 ps_worth sp_worth := fnx_void T.f_worth fun _ _ _ _ h => h
theorem ok_way_of (T : Txt K mg base) : FnX P w K mg base "way_of" 1 ps_way_of sp_way_of := fnx_void T.f_way_of fun _ _ _ _ h => h
theorem ok__law_vat (T : Txt K mg base) : FnX P w K mg base "_law_vat" 1 ps__law_vat sp__law_vat := fnx_of (k := 0) (t := t__law_vat) T.f__law_vat sc__law_vat (fun ds μ Q E h => by first | (obtain ⟨rfl, _⟩ := h; rfl) | (obtain ⟨_, rfl, _⟩ := h; rfl) | (obtain ⟨_, _, rfl, _⟩ := h; rfl) | (obtain ⟨_, _, _, rfl, _⟩ := h; rfl) | (obtain ⟨_, _, _, _, rfl, _⟩ := h; rfl) | (obtain ⟨_, _, _, _, _, rfl, _⟩ := h; rfl)) (fun f cdv A outer s H E B Ed hr hE tk hx hp hu => (dss_cons (ds_set (i := 2) sc__law_vat.nd rfl (.inl rfl) (de_bin do_add (de_bin do_mul de_int (dv 1)) de_int)) (dss_cons (ds_if (dt_cmp (do_lt) (dv 1) (de_callB dc_len (by rfl) T.b_len boot_len (da_cons (dv 0) da_nil)) (nomark _)) (dss_one (ds_set (i := 2) sc__law_vat.nd rfl (.inl rfl) (de_callB dc_abs (by rfl) T.b_abs (by decide +kernel) (da_cons (de_callTy dc_int (by rfl) T.b_int (by decide +kernel) (da_cons (de_ix (dv 0) (dv 1)) da_nil)) da_nil)))) dss_nil) (dss_one (ds_ret (de_lstM (da_cons (de_ifExp (dt_cmp (do_ge) (dv 2) (de_bin do_pow de_int de_int) (nomark _)) (dv 2) de_int) (da_cons (de_bin do_add (de_bin do_mod (de_callTy dc_int (by rfl) T.b_int (by decide +kernel) (da_cons (de_bin do_add (de_bin do_add (de_bin do_mul (dv 2) de_int) (de_bin do_mul de_int (dv 1))) de_int) da_nil)) de_int) de_int) da_nil)))))))) pure__law_vat
theorem ok__law_under (T : Txt K mg base) : FnX P w K mg base "_law_under" 1 ps__law_under sp__law_under := fnx_of (k := 0) (t := t__law_under) T.f__law_under sc__law_under (fun ds μ Q E h => by first | (obtain ⟨rfl, _⟩ := h; rfl) | (obtain ⟨_, rfl, _⟩ := h; rfl) | (obtain ⟨_, _, rfl, _⟩ := h; rfl) | (obtain ⟨_, _, _, rfl, _⟩ := h; rfl) | (obtain ⟨_, _, _, _, rfl, _⟩ := h; rfl) | (obtain ⟨_, _, _, _, _, rfl, _⟩ := h; rfl)) (fun f cdv A outer s H E B Ed hr hE tk hx hp hu => (dss_cons (ds_if (dt_cmp (do_gt) (de_ix (dv 0) de_int) de_int (nomark _)) (dss_cons (ds_set (i := 2) sc__law_under.nd rfl (.inl rfl) (de_bin do_mod (de_callTy dc_int (by rfl) T.b_int (by decide +kernel) (da_cons (de_ix (dv 0) de_int) da_nil)) (dv 1))) (dss_cons (ds_asg (de_bin do_div (de_ix (dv 0) de_int) (dv 1)) (dg_sub (dv 0) de_int)) (dss_one (ds_ret (dv 2))))) dss_nil) (dss_cons (ds_asg (de_bin do_mod (de_callTy dc_int (by rfl) T.b_int (by decide +kernel) (da_cons (de_bin do_add (de_bin do_mul (de_ix (dv 0) de_int) de_int) de_int) da_nil)) de_int) (dg_sub (dv 0) de_int)) (dss_cons (ds_set (i := 3) sc__law_under.nd rfl (.inl rfl) (de_bin do_mod (de_callTy dc_int (by rfl) T.b_int (by decide +kernel) (da_cons (de_bin do_mul (de_ix (dv 0) de_int) (de_bin do_add (de_bin do_div (de_ix (dv 0) de_int) de_int) de_int)) da_nil)) de_int)) (dss_one (ds_ret (de_bin do_mod (de_callTy dc_int (by rfl) T.b_int (by decide +kernel) (da_cons (de_bin do_div (dv 3) de_int) da_nil)) (dv 1)))))))) pure__law_under
theorem ok__law_some (T : Txt K mg base) : FnX P w K mg base "_law_some" 2 ps__law_some sp__law_some := fnx_of (k := 1) (t := t__law_some) T.f__law_some sc__law_some (fun ds μ Q E h => by first | (obtain ⟨rfl, _⟩ := h; rfl) | (obtain ⟨_, rfl, _⟩ := h; rfl) | (obtain ⟨_, _, rfl, _⟩ := h; rfl) | (obtain ⟨_, _, _, rfl, _⟩ := h; rfl) | (obtain ⟨_, _, _, _, rfl, _⟩ := h; rfl) | (obtain ⟨_, _, _, _, _, rfl, _⟩ := h; rfl)) (fun f cdv A outer s H E B Ed hr hE tk hx hp hu => (dss_one (ds_ret (de_ix (dv 1) (de_fn (ok__law_under T) (hr.mono (by omega)) (by rfl) (da_cons (dv 0) (da_cons (de_callB dc_len (by rfl) T.b_len boot_len (da_cons (dv 1) da_nil)) da_nil))))))) pure__law_some
theorem ok__law_any_step (T : Txt K mg base) : FnX P w K mg base "_law_any_step" 3 ps__law_any_step sp__law_any_step := fnx_of (k := 2) (t := t__law_any_step) T.f__law_any_step sc__law_any_step (fun ds μ Q E h => by first | (obtain ⟨rfl, _⟩ := h; rfl) | (obtain ⟨_, rfl, _⟩ := h; rfl) | (obtain ⟨_, _, rfl, _⟩ := h; rfl) | (obtain ⟨_, _, _, rfl, _⟩ := h; rfl) | (obtain ⟨_, _, _, _, rfl, _⟩ := h; rfl) | (obtain ⟨_, _, _, _, _, rfl, _⟩ := h; rfl)) (fun f cdv A outer s H E B Ed hr hE tk hx hp hu => (dss_cons (ds_set (i := 2) sc__law_any_step.nd rfl (.inl rfl) (de_fn (ok__law_under T) (hr.mono (by omega)) (by rfl) (da_cons (dv 0) (da_cons (dv 1) da_nil)))) (dss_cons (ds_set (i := 3) sc__law_any_step.nd rfl (.inl rfl) (de_fn (ok__law_some T) (hr.mono (by omega)) (by rfl) (da_cons (dv 0) (da_cons (de_lst (da_cons de_str (da_cons de_str (da_cons de_str (da_cons de_str (da_cons de_str (da_cons de_str (da_cons de_str (da_cons de_str (da_cons de_str da_nil)))))))))) da_nil)))) (dss_cons (ds_if (dt_cmp (do_eq hu) (dv 3) de_str (nomark _)) (dss_one (ds_ret (de_tup (da_cons de_str (da_cons (dv 2) (da_cons (de_fn (ok__law_some T) (hr.mono (by omega)) (by rfl) (da_cons (dv 0) (da_cons (de_lst (da_cons de_str (da_cons de_str da_nil))) da_nil))) da_nil)))))) dss_nil) (dss_one (ds_ret (de_ifExp (dt_cmp (do_in hu) (dv 3) (de_tup (da_cons de_str (da_cons de_str da_nil))) (by rfl)) (de_tup (da_cons (dv 3) (da_cons (dv 2) da_nil))) (de_tup (da_cons (dv 3) da_nil))))))))) pure__law_any_step
theorem ok__law_script (T : Txt K mg base) : FnX P w K mg base "_law_script" 4 ps__law_script sp__law_script := fnx_of (k := 3) (t := t__law_script) T.f__law_script sc__law_script (fun ds μ Q E h => by first | (obtain ⟨rfl, _⟩ := h; rfl) | (obtain ⟨_, rfl, _⟩ := h; rfl) | (obtain ⟨_, _, rfl, _⟩ := h; rfl) | (obtain ⟨_, _, _, rfl, _⟩ := h; rfl) | (obtain ⟨_, _, _, _, rfl, _⟩ := h; rfl) | (obtain ⟨_, _, _, _, _, rfl, _⟩ := h; rfl)) (fun f cdv A outer s H E B Ed hr hE tk hx hp hu => (dss_cons (ds_set (i := 3) sc__law_script.nd rfl (.inl rfl) (de_tup da_nil)) (dss_cons (ds_for hp rfl (di_range1 (by rfl) T.b_range (da_cons (de_fn (ok__law_some T) (hr.mono (by omega)) (by rfl) (da_cons (dv 0) (da_cons (de_lst (da_cons de_int (da_cons de_int (da_cons de_int (da_cons de_int (da_cons de_int da_nil)))))) da_nil))) da_nil)) (dg_name (i := 4) sc__law_script.nd rfl (.inl rfl)) (dss_forget [4] (dss_one (ds_set (i := 3) sc__law_script.nd rfl (.inl rfl) (de_bin do_add (dv 3) (de_tup (da_cons (de_fn (ok__law_some T) (hr.mono (by omega)) (by rfl) (da_cons (dv 0) (da_cons (de_lst (da_cons de_int (da_cons de_int (da_cons de_int (da_cons de_int (da_cons de_int (da_cons (de_bin do_add de_int (de_fn (ok__law_under T) (hr.mono (by omega)) (by rfl) (da_cons (dv 0) (da_cons de_int da_nil)))) da_nil))))))) da_nil))) da_nil))))))) (dss_cons (ds_par3 (i := 5) (j := 6) (l := 7) rfl sc__law_script.nd rfl rfl rfl (by decide) (by decide) (by decide) rfl rfl rfl (da_cons (de_callB dc_len (by rfl) T.b_len boot_len (da_cons (dv 3) da_nil)) (da_cons de_int (da_cons (de_tup da_nil) da_nil))) (by rfl)) (dss_cons (ds_for hp rfl (di_range1 (by rfl) T.b_range (da_cons (de_fn (ok__law_under T) (hr.mono (by omega)) (by rfl) (da_cons (dv 0) (da_cons (de_bin do_add (dv 1) de_int) da_nil))) da_nil)) (dg_name (i := 4) sc__law_script.nd rfl (.inl rfl)) (dss_forget [4, 8] (dss_cons (ds_set (i := 8) sc__law_script.nd rfl (.inl rfl) (de_fn (ok__law_any_step T) (hr.mono (by omega)) (by rfl) (da_cons (dv 0) (da_cons (dv 5) da_nil)))) (dss_cons (ds_if (PW.pt (dw_and (dt_cmp (do_lt) (dv 6) (dv 2) (nomark _)) (dw_and1 (dt_cmp (do_eq hu) (de_fn (ok__law_under T) (hr.mono (by omega)) (by rfl) (da_cons (dv 0) (da_cons de_int da_nil))) de_int (nomark _))))) (dss_cons (ds_par (i := 8) (j := 6) rfl sc__law_script.nd rfl rfl (by decide) rfl rfl (da_cons (de_tup (da_cons de_str (da_cons (de_fn (ok__law_under T) (hr.mono (by omega)) (by rfl) (da_cons (dv 0) (da_cons (dv 5) da_nil))) da_nil))) (da_cons (de_bin do_add (dv 6) de_int) da_nil)) (by rfl)) (dss_one (ds_set (i := 5) sc__law_script.nd rfl (.inl rfl) (de_bin do_add (dv 5) de_int)))) dss_nil) (dss_one (ds_set (i := 7) sc__law_script.nd rfl (.inl rfl) (de_bin do_add (dv 7) (de_tup (da_cons (dv 8) da_nil))))))))) (dss_cons (ds_if (PW.pt (dw_and (dt_cmp (do_ne hu) (dv 7) (de_tup da_nil) (nomark _)) (dw_and (dt_cmp (do_in hu) (de_ix (de_ix (dv 7) (de_neg de_int)) de_int) (de_tup (da_cons de_str (da_cons de_str da_nil))) (by rfl)) (dw_and1 (dt_cmp (do_gt) (de_fn (ok__law_under T) (hr.mono (by omega)) (by rfl) (da_cons (dv 0) (da_cons de_int da_nil))) de_int (nomark _)))))) (dss_one (ds_set (i := 7) sc__law_script.nd rfl (.inl rfl) (de_bin do_add (de_slice (dv 7) do_none (do_some (de_neg de_int))) (de_tup (da_cons (de_tup (da_cons de_str da_nil)) da_nil))))) dss_nil) (dss_one (ds_ret (de_tup (da_cons (dv 3) (da_cons (dv 7) da_nil))))))))))) pure__law_script
theorem ok_is_whole (T : Txt K mg base) : FnX P w K mg base "is_whole" 1 ps_is_whole sp_is_whole := fnx_of (k := 0) (t := t_is_whole) T.f_is_whole sc_is_whole (fun ds μ Q E h => by first | (obtain ⟨rfl, _⟩ := h; rfl) | (obtain ⟨_, rfl, _⟩ := h; rfl) | (obtain ⟨_, _, rfl, _⟩ := h; rfl) | (obtain ⟨_, _, _, rfl, _⟩ := h; rfl) | (obtain ⟨_, _, _, _, rfl, _⟩ := h; rfl) | (obtain ⟨_, _, _, _, _, rfl, _⟩ := h; rfl)) (fun f cdv A outer s H E B Ed hr hE tk hx hp hu => (dss_one (ds_ret (de_and (de_callB dc_isi (by rfl) T.b_isinstance (by decide +kernel) (da_cons (dv 0) (da_cons (de_ty (by rfl) T.b_int (by decide +kernel)) da_nil))) (de_and (de_not (de_callB dc_isi (by rfl) T.b_isinstance (by decide +kernel) (da_cons (dv 0) (da_cons (de_ty (by rfl) T.b_bool (by decide +kernel)) da_nil)))) (de_one (de_chain (do_le) (do_le) (dv 1) (dv 0) (dv 2)))))))) pure_is_whole
theorem ok_is_word (T : Txt K mg base) : FnX P w K mg base "is_word" 1 ps_is_word sp_is_word := fnx_of (k := 0) (t := t_is_word) T.f_is_word sc_is_word (fun ds μ Q E h => by first | (obtain ⟨rfl, _⟩ := h; rfl) | (obtain ⟨_, rfl, _⟩ := h; rfl) | (obtain ⟨_, _, rfl, _⟩ := h; rfl) | (obtain ⟨_, _, _, rfl, _⟩ := h; rfl) | (obtain ⟨_, _, _, _, rfl, _⟩ := h; rfl) | (obtain ⟨_, _, _, _, _, rfl, _⟩ := h; rfl)) (fun f cdv A outer s H E B Ed hr hE tk hx hp hu => (dss_one (ds_ret (de_and (de_callB dc_isi (by rfl) T.b_isinstance (by decide +kernel) (da_cons (dv 0) (da_cons (de_ty (by rfl) T.b_str (by decide +kernel)) da_nil))) (de_one (de_cmp (do_in hu) (dv 0) (dv 1) (by rfl))))))) pure_is_word
theorem ok_is_step (T : Txt K mg base) : FnX P w K mg base "is_step" 2 ps_is_step sp_is_step := fnx_of (k := 1) (t := t_is_step) T.f_is_step sc_is_step (fun ds μ Q E h => by first | (obtain ⟨rfl, _⟩ := h; rfl) | (obtain ⟨_, rfl, _⟩ := h; rfl) | (obtain ⟨_, _, rfl, _⟩ := h; rfl) | (obtain ⟨_, _, _, rfl, _⟩ := h; rfl) | (obtain ⟨_, _, _, _, rfl, _⟩ := h; rfl) | (obtain ⟨_, _, _, _, _, rfl, _⟩ := h; rfl)) (fun f cdv A outer s H E B Ed hr hE tk hx hp hu => (dss_cons (ds_if (PW.pt (dw_or (dt_not (dt_val (de_callB dc_isi (by rfl) T.b_isinstance (by decide +kernel) (da_cons (dv 1) (da_cons (de_ty (by rfl) T.b_tuple (by decide +kernel)) da_nil))))) (dw_or (dt_cmp (do_eq hu) (dv 1) (de_tup da_nil) (nomark _)) (dw_or1 (dt_not (dt_val (de_callB dc_isi (by rfl) T.b_isinstance (by decide +kernel) (da_cons (de_ix (dv 1) de_int) (da_cons (de_ty (by rfl) T.b_str (by decide +kernel)) da_nil))))))))) (dss_one (ds_ret de_bl)) dss_nil) (dss_cons (ds_if (dt_cmp (do_in hu) (de_ix (dv 1) de_int) (de_tup (da_cons de_str (da_cons de_str da_nil))) (by rfl)) (dss_one (ds_ret (de_cmp (do_eq hu) (de_callB dc_len (by rfl) T.b_len boot_len (da_cons (dv 1) da_nil)) de_int (nomark _)))) dss_nil) (dss_cons (ds_if (dt_cmp (do_eq hu) (de_ix (dv 1) de_int) de_str (nomark _)) (dss_one (ds_ret (de_and (de_cmp (do_eq hu) (de_callB dc_len (by rfl) T.b_len boot_len (da_cons (dv 1) da_nil)) de_int (nomark _)) (de_and (de_fn (ok_is_whole T) (hr.mono (by omega)) (by rfl) (da_cons (de_ix (dv 1) de_int) (da_cons de_int (da_cons (de_bin do_sub (dv 0) de_int) da_nil)))) (de_one (de_fn (ok_is_word T) (hr.mono (by omega)) (by rfl) (da_cons (de_ix (dv 1) de_int) (da_cons (de_glob (by rfl) T.c_SIDES) da_nil)))))))) dss_nil) (dss_one (ds_ret (de_and (de_cmp (do_in hu) (de_ix (dv 1) de_int) (de_tup (da_cons de_str (da_cons de_str (da_cons de_str da_nil)))) (by rfl)) (de_and (de_cmp (do_eq hu) (de_callB dc_len (by rfl) T.b_len boot_len (da_cons (dv 1) da_nil)) de_int (nomark _)) (de_one (de_fn (ok_is_whole T) (hr.mono (by omega)) (by rfl) (da_cons (de_ix (dv 1) de_int) (da_cons de_int (da_cons (de_bin do_sub (dv 0) de_int) da_nil))))))))))))) pure_is_step
theorem ok_are_steps (T : Txt K mg base) : FnX P w K mg base "are_steps" 3 ps_are_steps sp_are_steps := fnx_of (k := 2) (t := t_are_steps) T.f_are_steps sc_are_steps (fun ds μ Q E h => by first | (obtain ⟨rfl, _⟩ := h; rfl) | (obtain ⟨_, rfl, _⟩ := h; rfl) | (obtain ⟨_, _, rfl, _⟩ := h; rfl) | (obtain ⟨_, _, _, rfl, _⟩ := h; rfl) | (obtain ⟨_, _, _, _, rfl, _⟩ := h; rfl) | (obtain ⟨_, _, _, _, _, rfl, _⟩ := h; rfl)) (fun f cdv A outer s H E B Ed hr hE tk hx hp hu => (dss_cons (ds_for hp rfl (di_seq (dv 1)) (dg_name (i := 2) sc_are_steps.nd rfl (.inl rfl)) (dss_forget [2] (dss_cons (ds_if (dt_not (dt_val (de_fn (ok_is_step T) (hr.mono (by omega)) (by rfl) (da_cons (dv 0) (da_cons (dv 2) da_nil))))) (dss_one (ds_ret de_bl)) dss_nil) (dss_one (ds_if (dt_cmp (do_eq hu) (de_ix (dv 2) de_int) de_str (nomark _)) (dss_one (ds_set (i := 0) sc_are_steps.nd rfl (.inl rfl) (de_bin do_add (dv 0) de_int))) dss_nil))))) (dss_one (ds_ret de_bl)))) pure_are_steps
theorem ok_is_fuses (T : Txt K mg base) : FnX P w K mg base "is_fuses" 2 ps_is_fuses sp_is_fuses := fnx_of (k := 1) (t := t_is_fuses) T.f_is_fuses sc_is_fuses (fun ds μ Q E h => by first | (obtain ⟨rfl, _⟩ := h; rfl) | (obtain ⟨_, rfl, _⟩ := h; rfl) | (obtain ⟨_, _, rfl, _⟩ := h; rfl) | (obtain ⟨_, _, _, rfl, _⟩ := h; rfl) | (obtain ⟨_, _, _, _, rfl, _⟩ := h; rfl) | (obtain ⟨_, _, _, _, _, rfl, _⟩ := h; rfl)) (fun f cdv A outer s H E B Ed hr hE tk hx hp hu => (dss_cons (ds_if (PW.pt (dw_or (dt_not (dt_val (de_callB dc_isi (by rfl) T.b_isinstance (by decide +kernel) (da_cons (dv 0) (da_cons (de_ty (by rfl) T.b_tuple (by decide +kernel)) da_nil))))) (dw_or1 (dt_not (dt_chain (do_le) (do_le) de_int (de_callB dc_len (by rfl) T.b_len boot_len (da_cons (dv 0) da_nil)) de_int))))) (dss_one (ds_ret de_bl)) dss_nil) (dss_one (ds_ret (de_cmp (do_eq hu) (de_lc rfl sc_is_fuses.nd (di_seq (dv 0)) (blkOk_by (own := [("fuse", 1)]) (N := nm_is_fuses) (sc := defScope (s_is_fuses)) (by decide +kernel)) (ctg_name 1 fun _ _ _ _ _ => pg_name (i := 1) sc_is_fuses.nd rfl (.inl rfl)) (fun _ _ _ _ _ => (dts_one (dt_not (dt_val (de_fn (ok_is_whole T) (hr.mono (by omega)) (by rfl) (da_cons (dv 1) (da_cons de_int (da_cons de_int da_nil)))))))) (fun _ _ _ _ _ => (dv 1))) (de_lst da_nil) (nomark _)))))) pure_is_fuses
theorem ok_spots_of (T : Txt K mg base) : FnX P w K mg base "spots_of" 1 ps_spots_of sp_spots_of := fnx_of (k := 0) (t := t_spots_of) T.f_spots_of sc_spots_of (fun ds μ Q E h => by first | (obtain ⟨rfl, _⟩ := h; rfl) | (obtain ⟨_, rfl, _⟩ := h; rfl) | (obtain ⟨_, _, rfl, _⟩ := h; rfl) | (obtain ⟨_, _, _, rfl, _⟩ := h; rfl) | (obtain ⟨_, _, _, _, rfl, _⟩ := h; rfl) | (obtain ⟨_, _, _, _, _, rfl, _⟩ := h; rfl)) (fun f cdv A outer s H E B Ed hr hE tk hx hp hu => (dss_one (ds_ret (de_callB dc_len (by rfl) T.b_len boot_len (da_cons (de_lc rfl sc_spots_of.nd (di_seq (dv 0)) (blkOk_by (own := [("step", 1)]) (N := nm_spots_of) (sc := defScope (s_spots_of)) (by decide +kernel)) (ctg_name 1 fun _ _ _ _ _ => pg_name (i := 1) sc_spots_of.nd rfl (.inl rfl)) (fun _ _ _ _ _ => (dts_one (dt_cmp (do_eq hu) (de_ix (dv 1) de_int) de_str (nomark _)))) (fun _ _ _ _ _ => (dv 1))) da_nil))))) pure_spots_of
theorem ok_is_script (T : Txt K mg base) : FnX P w K mg base "is_script" 4 ps_is_script sp_is_script := fnx_of (k := 3) (t := t_is_script) T.f_is_script sc_is_script (fun ds μ Q E h => by first | (obtain ⟨rfl, _⟩ := h; rfl) | (obtain ⟨_, rfl, _⟩ := h; rfl) | (obtain ⟨_, _, rfl, _⟩ := h; rfl) | (obtain ⟨_, _, _, rfl, _⟩ := h; rfl) | (obtain ⟨_, _, _, _, rfl, _⟩ := h; rfl) | (obtain ⟨_, _, _, _, _, rfl, _⟩ := h; rfl)) (fun f cdv A outer s H E B Ed hr hE tk hx hp hu => (dss_cons (ds_if (PW.pt (dw_or (dt_not (dt_val (de_callB dc_isi (by rfl) T.b_isinstance (by decide +kernel) (da_cons (dv 0) (da_cons (de_ty (by rfl) T.b_tuple (by decide +kernel)) da_nil))))) (dw_or (dt_cmp (do_ne hu) (de_callB dc_len (by rfl) T.b_len boot_len (da_cons (dv 0) da_nil)) de_int (nomark _)) (dw_or1 (dt_not (dt_val (de_fn (ok_is_fuses T) (hr.mono (by omega)) (by rfl) (da_cons (de_ix (dv 0) de_int) da_nil)))))))) (dss_one (ds_ret de_bl)) dss_nil) (dss_cons (ds_if (PW.pt (dw_or (dt_not (dt_val (de_callB dc_isi (by rfl) T.b_isinstance (by decide +kernel) (da_cons (de_ix (dv 0) de_int) (da_cons (de_ty (by rfl) T.b_tuple (by decide +kernel)) da_nil))))) (dw_or1 (dt_cmp (do_gt) (de_callB dc_len (by rfl) T.b_len boot_len (da_cons (de_ix (dv 0) de_int) da_nil)) (de_glob (by rfl) T.c_MOST_STEPS) (nomark _))))) (dss_one (ds_ret de_bl)) dss_nil) (dss_one (ds_ret (de_and (de_fn (ok_are_steps T) (hr.mono (by omega)) (by rfl) (da_cons (de_callB dc_len (by rfl) T.b_len boot_len (da_cons (de_ix (dv 0) de_int) da_nil)) (da_cons (de_ix (dv 0) de_int) da_nil))) (de_one (de_cmp (do_le) (de_fn (ok_spots_of T) (hr.mono (by omega)) (by rfl) (da_cons (de_ix (dv 0) de_int) da_nil)) (de_glob (by rfl) T.c_MOST_SPOTS) (nomark _))))))))) pure_is_script
theorem ok_need_script (T : Txt K mg base) : FnX P w K mg base "need_script" 5 ps_need_script sp_need_script := fnx_of (k := 4) (t := t_need_script) T.f_need_script sc_need_script (fun ds μ Q E h => by first | (obtain ⟨rfl, _⟩ := h; rfl) | (obtain ⟨_, rfl, _⟩ := h; rfl) | (obtain ⟨_, _, rfl, _⟩ := h; rfl) | (obtain ⟨_, _, _, rfl, _⟩ := h; rfl) | (obtain ⟨_, _, _, _, rfl, _⟩ := h; rfl) | (obtain ⟨_, _, _, _, _, rfl, _⟩ := h; rfl)) (fun f cdv A outer s H E B Ed hr hE tk hx hp hu => (dss_one (ds_if (dt_not (dt_val (de_fn (ok_is_script T) (hr.mono (by omega)) (by rfl) (da_cons (dv 0) da_nil)))) (dss_one (ds_raise rfl tk hE T.x_InvalidScript (by rfl))) dss_nil))) pure_need_script
theorem ok_alike (T : Txt K mg base) : FnX P w K mg base "alike" 6 ps_alike sp_alike := fnx_of (k := 5) (t := t_alike) T.f_alike sc_alike (fun ds μ Q E h => by first | (obtain ⟨rfl, _⟩ := h; rfl) | (obtain ⟨_, rfl, _⟩ := h; rfl) | (obtain ⟨_, _, rfl, _⟩ := h; rfl) | (obtain ⟨_, _, _, rfl, _⟩ := h; rfl) | (obtain ⟨_, _, _, _, rfl, _⟩ := h; rfl) | (obtain ⟨_, _, _, _, _, rfl, _⟩ := h; rfl)) (fun f cdv A outer s H E B Ed hr hE tk hx hp hu => (dss_cons (ds_drop (de_fnX (ok_need_script T) (hr.mono (by omega)) (by rfl) hx hE (da_cons (dv 0) da_nil))) (dss_cons (ds_drop (de_fnX (ok_need_script T) (hr.mono (by omega)) (by rfl) hx hE (da_cons (dv 1) da_nil))) dss_never))) pure_alike
theorem ok_parting (T : Txt K mg base) : FnX P w K mg base "parting" 6 ps_parting sp_parting := fnx_of (k := 5) (t := t_parting) T.f_parting sc_parting (fun ds μ Q E h => by first | (obtain ⟨rfl, _⟩ := h; rfl) | (obtain ⟨_, rfl, _⟩ := h; rfl) | (obtain ⟨_, _, rfl, _⟩ := h; rfl) | (obtain ⟨_, _, _, rfl, _⟩ := h; rfl) | (obtain ⟨_, _, _, _, rfl, _⟩ := h; rfl) | (obtain ⟨_, _, _, _, _, rfl, _⟩ := h; rfl)) (fun f cdv A outer s H E B Ed hr hE tk hx hp hu => (dss_cons (ds_drop (de_fnX (ok_need_script T) (hr.mono (by omega)) (by rfl) hx hE (da_cons (dv 0) da_nil))) (dss_cons (ds_drop (de_fnX (ok_need_script T) (hr.mono (by omega)) (by rfl) hx hE (da_cons (dv 1) da_nil))) dss_never))) pure_parting
theorem ok_state_with (T : Txt K mg base) : FnX P w K mg base "state_with" 2 ps_state_with sp_state_with := fnx_of (k := 1) (t := t_state_with) T.f_state_with sc_state_with (fun ds μ Q E h => by first | (obtain ⟨rfl, _⟩ := h; rfl) | (obtain ⟨_, rfl, _⟩ := h; rfl) | (obtain ⟨_, _, rfl, _⟩ := h; rfl) | (obtain ⟨_, _, _, rfl, _⟩ := h; rfl) | (obtain ⟨_, _, _, _, rfl, _⟩ := h; rfl) | (obtain ⟨_, _, _, _, _, rfl, _⟩ := h; rfl)) (fun f cdv A outer s H E B Ed hr hE tk hx hp hu => (dss_cons (ds_if (PW.pt (dw_or (dt_not (dt_val (de_callB dc_isi (by rfl) T.b_isinstance (by decide +kernel) (da_cons (dv 1) (da_cons (de_ty (by rfl) T.b_tuple (by decide +kernel)) da_nil))))) (dw_or1 (dt_cmp (do_ne hu) (de_callB dc_len (by rfl) T.b_len boot_len (da_cons (dv 1) da_nil)) (de_fn (ok_spots_of T) (hr.mono (by omega)) (by rfl) (da_cons (de_ix (dv 0) de_int) da_nil)) (nomark _))))) (dss_one (ds_ret de_non)) dss_nil) dss_never)) pure_state_with
theorem ok_need_state (T : Txt K mg base) : FnX P w K mg base "need_state" 6 ps_need_state sp_need_state := fnx_of (k := 5) (t := t_need_state) T.f_need_state sc_need_state (fun ds μ Q E h => by first | (obtain ⟨rfl, _⟩ := h; rfl) | (obtain ⟨_, rfl, _⟩ := h; rfl) | (obtain ⟨_, _, rfl, _⟩ := h; rfl) | (obtain ⟨_, _, _, rfl, _⟩ := h; rfl) | (obtain ⟨_, _, _, _, rfl, _⟩ := h; rfl) | (obtain ⟨_, _, _, _, _, rfl, _⟩ := h; rfl)) (fun f cdv A outer s H E B Ed hr hE tk hx hp hu => (dss_cons (ds_drop (de_fnX (ok_need_script T) (hr.mono (by omega)) (by rfl) hx hE (da_cons (dv 0) da_nil))) (dss_cons (ds_set (i := 2) sc_need_state.nd rfl (.inl rfl) (de_fn (ok_state_with T) (hr.mono (by omega)) (by rfl) (da_cons (dv 0) (da_cons (dv 1) da_nil)))) (dss_cons (ds_if (dt_cmp (do_is) (dv 2) de_non (nomark _)) (dss_one (ds_raise rfl tk hE T.x_InvalidMinutes (by rfl))) dss_nil) dss_never)))) pure_need_state
theorem ok_rings (T : Txt K mg base) : FnX P w K mg base "rings" 7 ps_rings sp_rings := fnx_of (k := 6) (t := t_rings) T.f_rings sc_rings (fun ds μ Q E h => by first | (obtain ⟨rfl, _⟩ := h; rfl) | (obtain ⟨_, rfl, _⟩ := h; rfl) | (obtain ⟨_, _, rfl, _⟩ := h; rfl) | (obtain ⟨_, _, _, rfl, _⟩ := h; rfl) | (obtain ⟨_, _, _, _, rfl, _⟩ := h; rfl) | (obtain ⟨_, _, _, _, _, rfl, _⟩ := h; rfl)) (fun f cdv A outer s H E B Ed hr hE tk hx hp hu => (dss_one (ds_ret (de_lc rfl sc_rings.nd (di_seq (de_ix (de_fnX (ok_need_state T) (hr.mono (by omega)) (by rfl) hx hE (da_cons (dv 0) (da_cons (dv 1) da_nil))) de_int)) (blkOk_by (own := [("time", 2)]) (N := nm_rings) (sc := defScope (s_rings)) (by decide +kernel)) (ctg_name 2 fun _ _ _ _ _ => pg_name (i := 2) sc_rings.nd rfl (.inl rfl)) (fun _ _ _ _ _ => dts_nil) (fun _ _ _ _ _ => (de_fn (ok_worth T) (hr.mono (by omega)) (by rfl) (da_cons (dv 2) (da_cons (dv 1) da_nil)))))))) pure_rings
theorem ok_left (T : Txt K mg base) : FnX P w K mg base "left" 7 ps_left sp_left := fnx_of (k := 6) (t := t_left) T.f_left sc_left (fun ds μ Q E h => by first | (obtain ⟨rfl, _⟩ := h; rfl) | (obtain ⟨_, rfl, _⟩ := h; rfl) | (obtain ⟨_, _, rfl, _⟩ := h; rfl) | (obtain ⟨_, _, _, rfl, _⟩ := h; rfl) | (obtain ⟨_, _, _, _, rfl, _⟩ := h; rfl) | (obtain ⟨_, _, _, _, _, rfl, _⟩ := h; rfl)) (fun f cdv A outer s H E B Ed hr hE tk hx hp hu => (dss_one (ds_ret (de_lc rfl sc_left.nd (di_seq (de_ix (de_fnX (ok_need_state T) (hr.mono (by omega)) (by rfl) hx hE (da_cons (dv 0) (da_cons (dv 1) da_nil))) de_int)) (blkOk_by (own := [("piece", 2)]) (N := nm_left) (sc := defScope (s_left)) (by decide +kernel)) (ctg_name 2 fun _ _ _ _ _ => pg_name (i := 2) sc_left.nd rfl (.inl rfl)) (fun _ _ _ _ _ => dts_nil) (fun _ _ _ _ _ => (de_fn (ok_worth T) (hr.mono (by omega)) (by rfl) (da_cons (de_ix (dv 2) de_int) (da_cons (dv 1) da_nil)))))))) pure_left
theorem ok_course (T : Txt K mg base) : FnX P w K mg base "course" 7 ps_course sp_course := fnx_of (k := 6) (t := t_course) T.f_course sc_course (fun ds μ Q E h => by first | (obtain ⟨rfl, _⟩ := h; rfl) | (obtain ⟨_, rfl, _⟩ := h; rfl) | (obtain ⟨_, _, rfl, _⟩ := h; rfl) | (obtain ⟨_, _, _, rfl, _⟩ := h; rfl) | (obtain ⟨_, _, _, _, rfl, _⟩ := h; rfl) | (obtain ⟨_, _, _, _, _, rfl, _⟩ := h; rfl)) (fun f cdv A outer s H E B Ed hr hE tk hx hp hu => (dss_one (ds_ret (de_fn (ok_way_of T) (hr.mono (by omega)) (by rfl) (da_cons (de_fnX (ok_need_state T) (hr.mono (by omega)) (by rfl) hx hE (da_cons (dv 0) (da_cons (dv 1) da_nil))) da_nil))))) pure_course
theorem ok_need_index (T : Txt K mg base) : FnX P w K mg base "need_index" 2 ps_need_index sp_need_index := fnx_of (k := 1) (t := t_need_index) T.f_need_index sc_need_index (fun ds μ Q E h => by first | (obtain ⟨rfl, _⟩ := h; rfl) | (obtain ⟨_, rfl, _⟩ := h; rfl) | (obtain ⟨_, _, rfl, _⟩ := h; rfl) | (obtain ⟨_, _, _, rfl, _⟩ := h; rfl) | (obtain ⟨_, _, _, _, rfl, _⟩ := h; rfl) | (obtain ⟨_, _, _, _, _, rfl, _⟩ := h; rfl)) (fun f cdv A outer s H E B Ed hr hE tk hx hp hu => (dss_one (ds_if (dt_not (dt_val (de_fn (ok_is_whole T) (hr.mono (by omega)) (by rfl) (da_cons (dv 0) (da_cons de_int (da_cons (de_bin do_sub (dv 1) de_int) da_nil)))))) (dss_one (ds_raise rfl tk hE T.x_InvalidIndex (by rfl))) dss_nil))) pure_need_index
theorem ok_rings_of (T : Txt K mg base) : FnX P w K mg base "rings_of" 1 ps_rings_of sp_rings_of := fnx_of (k := 0) (t := t_rings_of) T.f_rings_of sc_rings_of (fun ds μ Q E h => by first | (obtain ⟨rfl, _⟩ := h; rfl) | (obtain ⟨_, rfl, _⟩ := h; rfl) | (obtain ⟨_, _, rfl, _⟩ := h; rfl) | (obtain ⟨_, _, _, rfl, _⟩ := h; rfl) | (obtain ⟨_, _, _, _, rfl, _⟩ := h; rfl) | (obtain ⟨_, _, _, _, _, rfl, _⟩ := h; rfl)) (fun f cdv A outer s H E B Ed hr hE tk hx hp hu => (dss_one (ds_ret (de_callB dc_len (by rfl) T.b_len boot_len (da_cons (de_lc rfl sc_rings_of.nd (di_seq (de_ix (dv 0) de_int)) (blkOk_by (own := [("step", 1)]) (N := nm_rings_of) (sc := defScope (s_rings_of)) (by decide +kernel)) (ctg_name 1 fun _ _ _ _ _ => pg_name (i := 1) sc_rings_of.nd rfl (.inl rfl)) (fun _ _ _ _ _ => (dts_one (dt_cmp (do_eq hu) (de_ix (dv 1) de_int) de_str (nomark _)))) (fun _ _ _ _ _ => (dv 1))) da_nil))))) pure_rings_of
theorem ok_ring_bounds (T : Txt K mg base) : FnX P w K mg base "ring_bounds" 6 ps_ring_bounds sp_ring_bounds := fnx_of (k := 5) (t := t_ring_bounds) T.f_ring_bounds sc_ring_bounds (fun ds μ Q E h => by first | (obtain ⟨rfl, _⟩ := h; rfl) | (obtain ⟨_, rfl, _⟩ := h; rfl) | (obtain ⟨_, _, rfl, _⟩ := h; rfl) | (obtain ⟨_, _, _, rfl, _⟩ := h; rfl) | (obtain ⟨_, _, _, _, rfl, _⟩ := h; rfl) | (obtain ⟨_, _, _, _, _, rfl, _⟩ := h; rfl)) (fun f cdv A outer s H E B Ed hr hE tk hx hp hu => (dss_cons (ds_drop (de_fnX (ok_need_script T) (hr.mono (by omega)) (by rfl) hx hE (da_cons (dv 0) da_nil))) (dss_cons (ds_drop (de_fnX (ok_need_index T) (hr.mono (by omega)) (by rfl) hx hE (da_cons (dv 1) (da_cons (de_fn (ok_rings_of T) (hr.mono (by omega)) (by rfl) (da_cons (dv 0) da_nil)) da_nil)))) dss_never))) pure_ring_bounds
theorem ok_pieces_of (T : Txt K mg base) : FnX P w K mg base "pieces_of" 2 ps_pieces_of sp_pieces_of := fnx_of (k := 1) (t := t_pieces_of) T.f_pieces_of sc_pieces_of (fun ds μ Q E h => by first | (obtain ⟨rfl, _⟩ := h; rfl) | (obtain ⟨_, rfl, _⟩ := h; rfl) | (obtain ⟨_, _, rfl, _⟩ := h; rfl) | (obtain ⟨_, _, _, rfl, _⟩ := h; rfl) | (obtain ⟨_, _, _, _, rfl, _⟩ := h; rfl) | (obtain ⟨_, _, _, _, _, rfl, _⟩ := h; rfl)) (fun f cdv A outer s H E B Ed hr hE tk hx hp hu => (dss_one (ds_ret (de_bin do_add (de_callB dc_len (by rfl) T.b_len boot_len (da_cons (de_ix (dv 0) de_int) da_nil)) (de_fn (ok_spots_of T) (hr.mono (by omega)) (by rfl) (da_cons (de_ix (dv 0) de_int) da_nil)))))) pure_pieces_of
theorem ok_left_bounds (T : Txt K mg base) : FnX P w K mg base "left_bounds" 6 ps_left_bounds sp_left_bounds := fnx_of (k := 5) (t := t_left_bounds) T.f_left_bounds sc_left_bounds (fun ds μ Q E h => by first | (obtain ⟨rfl, _⟩ := h; rfl) | (obtain ⟨_, rfl, _⟩ := h; rfl) | (obtain ⟨_, _, rfl, _⟩ := h; rfl) | (obtain ⟨_, _, _, rfl, _⟩ := h; rfl) | (obtain ⟨_, _, _, _, rfl, _⟩ := h; rfl) | (obtain ⟨_, _, _, _, _, rfl, _⟩ := h; rfl)) (fun f cdv A outer s H E B Ed hr hE tk hx hp hu => (dss_cons (ds_drop (de_fnX (ok_need_script T) (hr.mono (by omega)) (by rfl) hx hE (da_cons (dv 0) da_nil))) (dss_cons (ds_drop (de_fnX (ok_need_index T) (hr.mono (by omega)) (by rfl) hx hE (da_cons (dv 1) (da_cons (de_fn (ok_pieces_of T) (hr.mono (by omega)) (by rfl) (da_cons (dv 0) da_nil)) da_nil)))) dss_never))) pure_left_bounds
theorem okK__law_odd (T : Txt K mg base) : ∀ n : Nat, FnX P w K mg base "_law_odd" (3 + n) ps__law_odd (spK__law_odd n)
  | 0 => fnx_void T.f__law_odd (by rintro _ _ _ _ ⟨_, _, _, h, _⟩; omega)
  | n + 1 => by
    have hrec := okK__law_odd T n
    exact fnx_of (k := 3 + n) (t := t__law_odd (spK__law_odd n)) T.f__law_odd sc__law_odd (fun ds μ Q E h => by obtain ⟨_, _, rfl, _⟩ := h; rfl) (fun f cdv A outer s H E B Ed hr hE tk hx hp hu => (dss_cons (ds_set (i := 2) sc__law_odd.nd rfl (.inl rfl) (de_lst (da_cons de_non (da_cons de_bl (da_cons de_bl (da_cons de_int (da_cons de_int (da_cons de_int (da_cons de_int (da_cons de_int (da_cons (de_neg de_int) (da_cons (de_bin do_pow de_int de_int) (da_cons de_str (da_cons de_str (da_cons de_str (da_cons de_str (da_cons de_str da_nil))))))))))))))))) (dss_cons (ds_set (i := 2) sc__law_odd.nd rfl (.inl rfl) (de_bin do_add (dv 2) (de_lst (da_cons (de_tup da_nil) (da_cons (de_lst da_nil) (da_cons (de_tup (da_cons de_int da_nil)) (da_cons (de_tup (da_cons de_int (da_cons de_int da_nil))) (da_cons (de_tup (da_cons de_str da_nil)) (da_cons (de_tup (da_cons de_str da_nil)) (da_cons (de_tup (da_cons de_str (da_cons de_int da_nil))) (da_cons (de_tup (da_cons de_int (da_cons de_int da_nil))) da_nil))))))))))) (dss_cons (ds_set (i := 2) sc__law_odd.nd rfl (.inl rfl) (de_bin do_add (dv 2) (de_lst (da_cons (de_tup (da_cons de_str (da_cons de_int da_nil))) (da_cons (de_tup (da_cons de_str (da_cons de_int (da_cons de_str da_nil)))) da_nil))))) (dss_cons (ds_if (PW.pt (dw_or (dt_cmp (do_eq hu) (dv 1) de_int (nomark _)) (dw_or1 (dt_cmp (do_lt) (de_fn (ok__law_under T) (hr.mono (by omega)) (by rfl) (da_cons (dv 0) (da_cons de_int da_nil))) de_int (nomark _))))) (dss_one (ds_ret (de_fn (ok__law_some T) (hr.mono (by omega)) (by rfl) (da_cons (dv 0) (da_cons (dv 2) da_nil))))) dss_nil) (dss_cons (ds_setLc (i := 3) rfl sc__law_odd.nd rfl rfl (sw_true rfl rfl rfl (by decide +kernel)) (di_range1 (by rfl) T.b_range (da_cons (de_fn (ok__law_under T) (hr.mono (by omega)) (by rfl) (da_cons (dv 0) (da_cons de_int da_nil))) da_nil)) (blkOk_by (own := [("part", 4)]) (N := nm__law_odd) (sc := defScope (s__law_odd)) (by decide +kernel)) (ctg_name 4 fun _ _ _ _ _ => pg_name (i := 4) sc__law_odd.nd rfl (.inl rfl)) (fun _ _ _ _ _ => dts_nil) (fun _ _ _ _ _ => (de_fn hrec (hr.mono (by omega)) (by rfl) (da_cons (dv 0) (da_cons (de_bin do_sub (dv 1) de_int) da_nil))))) (dss_one (ds_ret (de_ifExp (dt_cmp (do_eq hu) (de_fn (ok__law_under T) (hr.mono (by omega)) (by rfl) (da_cons (dv 0) (da_cons de_int da_nil))) de_int (nomark _)) (dv 3) (de_callTy dc_tuple (by rfl) T.b_tuple (by decide +kernel) (da_cons (dv 3) da_nil))))))))))) (pure__law_odd n)
theorem ok__law_odd (T : Txt K mg base) : FnX P w K mg base "_law_odd" 6 ps__law_odd sp__law_odd := okK__law_odd T 3
theorem okK__law_bent (T : Txt K mg base) : ∀ n : Nat, FnX P w K mg base "_law_bent" (7 + n) ps__law_bent (spK__law_bent n)
  | 0 => fnx_void T.f__law_bent (by rintro _ _ _ _ ⟨_, _, _, _, _, h, _⟩; omega)
  | n + 1 => by
    have hrec := okK__law_bent T n
    exact fnx_of (k := 7 + n) (t := t__law_bent (spK__law_bent n)) T.f__law_bent sc__law_bent (fun ds μ Q E h => by obtain ⟨_, _, _, _, rfl, _⟩ := h; rfl) (fun f cdv A outer s H E B Ed hr hE tk hx hp hu => (dss_cons (ds_if (PW.pt (dw_or (dt_not (dt_val (de_callB dc_isi (by rfl) T.b_isinstance (by decide +kernel) (da_cons (dv 1) (da_cons (de_ty (by rfl) T.b_tuple (by decide +kernel)) da_nil))))) (dw_or (dt_cmp (do_eq hu) (dv 1) (de_tup da_nil) (nomark _)) (dw_or1 (dt_cmp (do_eq hu) (de_fn (ok__law_under T) (hr.mono (by omega)) (by rfl) (da_cons (dv 0) (da_cons de_int da_nil))) de_int (nomark _)))))) (dss_cons (ds_set (i := 2) sc__law_bent.nd rfl (.inl rfl) (de_lst (da_cons (de_fn (ok__law_odd T) (hr.mono (by omega)) (by rfl) (da_cons (dv 0) (da_cons de_int da_nil))) (da_cons (de_fn (ok__law_odd T) (hr.mono (by omega)) (by rfl) (da_cons (dv 0) (da_cons de_int da_nil))) da_nil)))) (dss_cons (ds_if (dt_val (de_callB dc_isi (by rfl) T.b_isinstance (by decide +kernel) (da_cons (dv 1) (da_cons (de_ty (by rfl) T.b_str (by decide +kernel)) da_nil)))) (dss_one (ds_set (i := 2) sc__law_bent.nd rfl (.inl rfl) (de_bin do_add (dv 2) (de_lst (da_cons de_str (da_cons de_str (da_cons de_str (da_cons de_str (da_cons (de_slice (dv 1) do_none (do_some (de_neg de_int))) (da_cons (de_upper (dv 1)) (da_cons de_str da_nil))))))))))) (dss_one (ds_if (dt_val (de_callB dc_isi (by rfl) T.b_isinstance (by decide +kernel) (da_cons (dv 1) (da_cons (de_ty (by rfl) T.b_int (by decide +kernel)) da_nil)))) (dss_one (ds_set (i := 2) sc__law_bent.nd rfl (.inl rfl) (de_bin do_add (dv 2) (de_lst (da_cons (de_bin do_addB (dv 1) de_int) (da_cons (de_bin do_subB (dv 1) de_int) (da_cons (de_notI (dv 1)) (da_cons (de_callTy dc_str (by rfl) T.b_str (by decide +kernel) (da_cons (dv 1) da_nil)) (da_cons (de_bin do_mulB de_int (dv 1)) da_nil))))))))) dss_nil))) (dss_one (ds_ret (de_fn (ok__law_some T) (hr.mono (by omega)) (by rfl) (da_cons (dv 0) (da_cons (dv 2) da_nil))))))) dss_nil) (dss_cons (ds_par (i := 3) (j := 4) rfl sc__law_bent.nd rfl rfl (by decide) rfl rfl (da_cons (de_fn (ok__law_under T) (hr.mono (by omega)) (by rfl) (da_cons (dv 0) (da_cons (de_callB dc_len (by rfl) T.b_len boot_len (da_cons (dv 1) da_nil)) da_nil))) (da_cons (de_fn (ok__law_under T) (hr.mono (by omega)) (by rfl) (da_cons (dv 0) (da_cons de_int da_nil))) da_nil)) (by rfl)) (dss_cons (ds_if (dt_cmp (do_eq hu) (dv 4) de_int (nomark _)) (dss_one (ds_ret (de_bin do_add (de_slice (dv 1) do_none (do_some (dv 3))) (de_slice (dv 1) (do_some (de_bin do_add (dv 3) de_int)) do_none)))) dss_nil) (dss_cons (ds_if (dt_cmp (do_eq hu) (dv 4) de_int (nomark _)) (dss_one (ds_ret (de_bin do_add (de_slice (dv 1) do_none (do_some (de_bin do_add (dv 3) de_int))) (de_slice (dv 1) (do_some (dv 3)) do_none)))) dss_nil) (dss_cons (ds_if (dt_cmp (do_eq hu) (dv 4) de_int (nomark _)) (dss_one (ds_ret (de_revT (dv 1)))) dss_nil) (dss_cons (ds_if (dt_cmp (do_eq hu) (dv 4) de_int (nomark _)) (dss_one (ds_ret (de_callTy dc_list (by rfl) T.b_list (by decide +kernel) (da_cons (dv 1) da_nil)))) dss_nil) (dss_one (ds_ret (de_bin do_add (de_bin do_add (de_slice (dv 1) do_none (do_some (dv 3))) (de_tup (da_cons (de_fn hrec (hr.mono (by omega)) (by rfl) (da_cons (dv 0) (da_cons (de_ix (dv 1) (dv 3)) da_nil))) da_nil))) (de_slice (dv 1) (do_some (de_bin do_add (dv 3) de_int)) do_none))))))))))) (pure__law_bent n)
theorem ok__law_bent (T : Txt K mg base) : FnX P w K mg base "_law_bent" 28 ps__law_bent sp__law_bent := okK__law_bent T 21
theorem ok__law_is_whole (T : Txt K mg base) : FnX P w K mg base "_law_is_whole" 1 ps__law_is_whole sp__law_is_whole := fnx_of (k := 0) (t := t__law_is_whole) T.f__law_is_whole sc__law_is_whole (fun ds μ Q E h => by first | (obtain ⟨rfl, _⟩ := h; rfl) | (obtain ⟨_, rfl, _⟩ := h; rfl) | (obtain ⟨_, _, rfl, _⟩ := h; rfl) | (obtain ⟨_, _, _, rfl, _⟩ := h; rfl) | (obtain ⟨_, _, _, _, rfl, _⟩ := h; rfl) | (obtain ⟨_, _, _, _, _, rfl, _⟩ := h; rfl)) (fun f cdv A outer s H E B Ed hr hE tk hx hp hu => (dss_one (ds_ret (de_and (de_callB dc_isi (by rfl) T.b_isinstance (by decide +kernel) (da_cons (dv 0) (da_cons (de_ty (by rfl) T.b_int (by decide +kernel)) da_nil))) (de_and (de_not (de_callB dc_isi (by rfl) T.b_isinstance (by decide +kernel) (da_cons (dv 0) (da_cons (de_ty (by rfl) T.b_bool (by decide +kernel)) da_nil)))) (de_one (de_chain (do_le) (do_le) (dv 1) (dv 0) (dv 2)))))))) pure__law_is_whole
theorem ok__law_is_fuses (T : Txt K mg base) : FnX P w K mg base "_law_is_fuses" 2 ps__law_is_fuses sp__law_is_fuses := fnx_of (k := 1) (t := t__law_is_fuses) T.f__law_is_fuses sc__law_is_fuses (fun ds μ Q E h => by first | (obtain ⟨rfl, _⟩ := h; rfl) | (obtain ⟨_, rfl, _⟩ := h; rfl) | (obtain ⟨_, _, rfl, _⟩ := h; rfl) | (obtain ⟨_, _, _, rfl, _⟩ := h; rfl) | (obtain ⟨_, _, _, _, rfl, _⟩ := h; rfl) | (obtain ⟨_, _, _, _, _, rfl, _⟩ := h; rfl)) (fun f cdv A outer s H E B Ed hr hE tk hx hp hu => (dss_cons (ds_if (PW.pt (dw_or (dt_not (dt_val (de_callB dc_isi (by rfl) T.b_isinstance (by decide +kernel) (da_cons (dv 0) (da_cons (de_ty (by rfl) T.b_tuple (by decide +kernel)) da_nil))))) (dw_or1 (dt_cmp (do_notIn hu) (de_callB dc_len (by rfl) T.b_len boot_len (da_cons (dv 0) da_nil)) (de_tup (da_cons de_int (da_cons de_int (da_cons de_int da_nil)))) (by rfl))))) (dss_one (ds_ret de_bl)) dss_nil) (dss_one (ds_ret (de_cmp (do_eq hu) (de_lc rfl sc__law_is_fuses.nd (di_seq (dv 0)) (blkOk_by (own := [("fuse", 1)]) (N := nm__law_is_fuses) (sc := defScope (s__law_is_fuses)) (by decide +kernel)) (ctg_name 1 fun _ _ _ _ _ => pg_name (i := 1) sc__law_is_fuses.nd rfl (.inl rfl)) (fun _ _ _ _ _ => (dts_one (dt_not (dt_val (de_fn (ok__law_is_whole T) (hr.mono (by omega)) (by rfl) (da_cons (dv 1) (da_cons de_int (da_cons de_int da_nil)))))))) (fun _ _ _ _ _ => (dv 1))) (de_lst da_nil) (nomark _)))))) pure__law_is_fuses
theorem ok__law_is_step (T : Txt K mg base) : FnX P w K mg base "_law_is_step" 2 ps__law_is_step sp__law_is_step := fnx_of (k := 1) (t := t__law_is_step) T.f__law_is_step sc__law_is_step (fun ds μ Q E h => by first | (obtain ⟨rfl, _⟩ := h; rfl) | (obtain ⟨_, rfl, _⟩ := h; rfl) | (obtain ⟨_, _, rfl, _⟩ := h; rfl) | (obtain ⟨_, _, _, rfl, _⟩ := h; rfl) | (obtain ⟨_, _, _, _, rfl, _⟩ := h; rfl) | (obtain ⟨_, _, _, _, _, rfl, _⟩ := h; rfl)) (fun f cdv A outer s H E B Ed hr hE tk hx hp hu => (dss_cons (ds_if (PW.pt (dw_or (dt_not (dt_val (de_callB dc_isi (by rfl) T.b_isinstance (by decide +kernel) (da_cons (dv 1) (da_cons (de_ty (by rfl) T.b_tuple (by decide +kernel)) da_nil))))) (dw_or (dt_cmp (do_notIn hu) (de_callB dc_len (by rfl) T.b_len boot_len (da_cons (dv 1) da_nil)) (de_tup (da_cons de_int (da_cons de_int (da_cons de_int da_nil)))) (by rfl)) (dw_or1 (dt_not (dt_val (de_callB dc_isi (by rfl) T.b_isinstance (by decide +kernel) (da_cons (de_ix (dv 1) de_int) (da_cons (de_ty (by rfl) T.b_str (by decide +kernel)) da_nil))))))))) (dss_one (ds_ret de_bl)) dss_nil) (dss_cons (ds_if (dt_cmp (do_eq hu) (de_callB dc_len (by rfl) T.b_len boot_len (da_cons (dv 1) da_nil)) de_int (nomark _)) (dss_one (ds_ret (de_cmp (do_in hu) (de_ix (dv 1) de_int) (de_tup (da_cons de_str (da_cons de_str da_nil))) (by rfl)))) dss_nil) (dss_cons (ds_if (dt_not (dt_val (de_fn (ok__law_is_whole T) (hr.mono (by omega)) (by rfl) (da_cons (de_ix (dv 1) de_int) (da_cons de_int (da_cons (de_bin do_sub (dv 0) de_int) da_nil)))))) (dss_one (ds_ret de_bl)) dss_nil) (dss_cons (ds_if (dt_cmp (do_eq hu) (de_callB dc_len (by rfl) T.b_len boot_len (da_cons (dv 1) da_nil)) de_int (nomark _)) (dss_one (ds_ret (de_cmp (do_in hu) (de_ix (dv 1) de_int) (de_tup (da_cons de_str (da_cons de_str (da_cons de_str da_nil)))) (by rfl)))) dss_nil) (dss_one (ds_ret (de_and (de_cmp (do_eq hu) (de_ix (dv 1) de_int) de_str (nomark _)) (de_and (de_callB dc_isi (by rfl) T.b_isinstance (by decide +kernel) (da_cons (de_ix (dv 1) de_int) (da_cons (de_ty (by rfl) T.b_str (by decide +kernel)) da_nil))) (de_one (de_cmp (do_in hu) (de_ix (dv 1) de_int) (de_tup (da_cons de_str (da_cons de_str da_nil))) (by rfl)))))))))))) pure__law_is_step
theorem ok__law_is_script (T : Txt K mg base) : FnX P w K mg base "_law_is_script" 3 ps__law_is_script sp__law_is_script := fnx_of (k := 2) (t := t__law_is_script) T.f__law_is_script sc__law_is_script (fun ds μ Q E h => by first | (obtain ⟨rfl, _⟩ := h; rfl) | (obtain ⟨_, rfl, _⟩ := h; rfl) | (obtain ⟨_, _, rfl, _⟩ := h; rfl) | (obtain ⟨_, _, _, rfl, _⟩ := h; rfl) | (obtain ⟨_, _, _, _, rfl, _⟩ := h; rfl) | (obtain ⟨_, _, _, _, _, rfl, _⟩ := h; rfl)) (fun f cdv A outer s H E B Ed hr hE tk hx hp hu => (dss_cons (ds_if (PW.pt (dw_or (dt_not (dt_val (de_callB dc_isi (by rfl) T.b_isinstance (by decide +kernel) (da_cons (dv 0) (da_cons (de_ty (by rfl) T.b_tuple (by decide +kernel)) da_nil))))) (dw_or (dt_cmp (do_ne hu) (de_callB dc_len (by rfl) T.b_len boot_len (da_cons (dv 0) da_nil)) de_int (nomark _)) (dw_or1 (dt_not (dt_val (de_fn (ok__law_is_fuses T) (hr.mono (by omega)) (by rfl) (da_cons (de_ix (dv 0) de_int) da_nil)))))))) (dss_one (ds_ret de_bl)) dss_nil) (dss_cons (ds_if (PW.pt (dw_or (dt_not (dt_val (de_callB dc_isi (by rfl) T.b_isinstance (by decide +kernel) (da_cons (de_ix (dv 0) de_int) (da_cons (de_ty (by rfl) T.b_tuple (by decide +kernel)) da_nil))))) (dw_or1 (dt_cmp (do_gt) (de_callB dc_len (by rfl) T.b_len boot_len (da_cons (de_ix (dv 0) de_int) da_nil)) de_int (nomark _))))) (dss_one (ds_ret de_bl)) dss_nil) (dss_cons (ds_set (i := 1) sc__law_is_script.nd rfl (.inl rfl) (de_callB dc_len (by rfl) T.b_len boot_len (da_cons (de_ix (dv 0) de_int) da_nil))) (dss_cons (ds_for hp rfl (di_seq (de_ix (dv 0) de_int)) (dg_name (i := 2) sc__law_is_script.nd rfl (.inl rfl)) (dss_forget [2] (dss_cons (ds_if (dt_not (dt_val (de_fn (ok__law_is_step T) (hr.mono (by omega)) (by rfl) (da_cons (dv 1) (da_cons (dv 2) da_nil))))) (dss_one (ds_ret de_bl)) dss_nil) (dss_one (ds_set (i := 1) sc__law_is_script.nd rfl (.inl rfl) (de_bin do_add (dv 1) (de_callTy dc_int (by rfl) T.b_int (by decide +kernel) (da_cons (de_cmp (do_eq hu) (de_ix (dv 2) de_int) de_str (nomark _)) da_nil)))))))) (dss_one (ds_ret (de_cmp (do_le) (dv 1) (de_bin do_add (de_callB dc_len (by rfl) T.b_len boot_len (da_cons (de_ix (dv 0) de_int) da_nil)) de_int) (nomark _))))))))) pure__law_is_script
theorem ok_count_rings (T : Txt K mg base) : FnX P w K mg base "count_rings" 6 ps_count_rings sp_count_rings := fnx_of (k := 5) (t := t_count_rings) T.f_count_rings sc_count_rings (fun ds μ Q E h => by first | (obtain ⟨rfl, _⟩ := h; rfl) | (obtain ⟨_, rfl, _⟩ := h; rfl) | (obtain ⟨_, _, rfl, _⟩ := h; rfl) | (obtain ⟨_, _, _, rfl, _⟩ := h; rfl) | (obtain ⟨_, _, _, _, rfl, _⟩ := h; rfl) | (obtain ⟨_, _, _, _, _, rfl, _⟩ := h; rfl)) (fun f cdv A outer s H E B Ed hr hE tk hx hp hu => (dss_cons (ds_drop (de_fnX (ok_need_script T) (hr.mono (by omega)) (by rfl) hx hE (da_cons (dv 0) da_nil))) (dss_one (ds_ret (de_fn (ok_rings_of T) (hr.mono (by omega)) (by rfl) (da_cons (dv 0) da_nil)))))) pure_count_rings
theorem ok_count_spots (T : Txt K mg base) : FnX P w K mg base "count_spots" 6 ps_count_spots sp_count_spots := fnx_of (k := 5) (t := t_count_spots) T.f_count_spots sc_count_spots (fun ds μ Q E h => by first | (obtain ⟨rfl, _⟩ := h; rfl) | (obtain ⟨_, rfl, _⟩ := h; rfl) | (obtain ⟨_, _, rfl, _⟩ := h; rfl) | (obtain ⟨_, _, _, rfl, _⟩ := h; rfl) | (obtain ⟨_, _, _, _, rfl, _⟩ := h; rfl) | (obtain ⟨_, _, _, _, _, rfl, _⟩ := h; rfl)) (fun f cdv A outer s H E B Ed hr hE tk hx hp hu => (dss_cons (ds_drop (de_fnX (ok_need_script T) (hr.mono (by omega)) (by rfl) hx hE (da_cons (dv 0) da_nil))) (dss_one (ds_ret (de_fn (ok_spots_of T) (hr.mono (by omega)) (by rfl) (da_cons (de_ix (dv 0) de_int) da_nil)))))) pure_count_spots
theorem ok_count_pieces (T : Txt K mg base) : FnX P w K mg base "count_pieces" 6 ps_count_pieces sp_count_pieces := fnx_of (k := 5) (t := t_count_pieces) T.f_count_pieces sc_count_pieces (fun ds μ Q E h => by first | (obtain ⟨rfl, _⟩ := h; rfl) | (obtain ⟨_, rfl, _⟩ := h; rfl) | (obtain ⟨_, _, rfl, _⟩ := h; rfl) | (obtain ⟨_, _, _, rfl, _⟩ := h; rfl) | (obtain ⟨_, _, _, _, rfl, _⟩ := h; rfl) | (obtain ⟨_, _, _, _, _, rfl, _⟩ := h; rfl)) (fun f cdv A outer s H E B Ed hr hE tk hx hp hu => (dss_cons (ds_drop (de_fnX (ok_need_script T) (hr.mono (by omega)) (by rfl) hx hE (da_cons (dv 0) da_nil))) (dss_one (ds_ret (de_fn (ok_pieces_of T) (hr.mono (by omega)) (by rfl) (da_cons (dv 0) da_nil)))))) pure_count_pieces
theorem ok_courses (T : Txt K mg base) : FnX P w K mg base "courses" 6 ps_courses sp_courses := fnx_of (k := 5) (t := t_courses) T.f_courses sc_courses (fun ds μ Q E h => by first | (obtain ⟨rfl, _⟩ := h; rfl) | (obtain ⟨_, rfl, _⟩ := h; rfl) | (obtain ⟨_, _, rfl, _⟩ := h; rfl) | (obtain ⟨_, _, _, rfl, _⟩ := h; rfl) | (obtain ⟨_, _, _, _, rfl, _⟩ := h; rfl) | (obtain ⟨_, _, _, _, _, rfl, _⟩ := h; rfl)) (fun f cdv A outer s H E B Ed hr hE tk hx hp hu => (dss_cons (ds_drop (de_fnX (ok_need_script T) (hr.mono (by omega)) (by rfl) hx hE (da_cons (dv 0) da_nil))) dss_never)) pure_courses
theorem ok_sure_rings (T : Txt K mg base) : FnX P w K mg base "sure_rings" 6 ps_sure_rings sp_sure_rings := fnx_of (k := 5) (t := t_sure_rings) T.f_sure_rings sc_sure_rings (fun ds μ Q E h => by first | (obtain ⟨rfl, _⟩ := h; rfl) | (obtain ⟨_, rfl, _⟩ := h; rfl) | (obtain ⟨_, _, rfl, _⟩ := h; rfl) | (obtain ⟨_, _, _, rfl, _⟩ := h; rfl) | (obtain ⟨_, _, _, _, rfl, _⟩ := h; rfl) | (obtain ⟨_, _, _, _, _, rfl, _⟩ := h; rfl)) (fun f cdv A outer s H E B Ed hr hE tk hx hp hu => (dss_cons (ds_drop (de_fnX (ok_need_script T) (hr.mono (by omega)) (by rfl) hx hE (da_cons (dv 0) da_nil))) dss_never)) pure_sure_rings
theorem ok_needless (T : Txt K mg base) : FnX P w K mg base "needless" 6 ps_needless sp_needless := fnx_of (k := 5) (t := t_needless) T.f_needless sc_needless (fun ds μ Q E h => by first | (obtain ⟨rfl, _⟩ := h; rfl) | (obtain ⟨_, rfl, _⟩ := h; rfl) | (obtain ⟨_, _, rfl, _⟩ := h; rfl) | (obtain ⟨_, _, _, rfl, _⟩ := h; rfl) | (obtain ⟨_, _, _, _, rfl, _⟩ := h; rfl) | (obtain ⟨_, _, _, _, _, rfl, _⟩ := h; rfl)) (fun f cdv A outer s H E B Ed hr hE tk hx hp hu => (dss_cons (ds_drop (de_fnX (ok_need_script T) (hr.mono (by omega)) (by rfl) hx hE (da_cons (dv 0) da_nil))) dss_never)) pure_needless
theorem ok_script_text (T : Txt K mg base) : FnX P w K mg base "script_text" 6 ps_script_text sp_script_text := fnx_of (k := 5) (t := t_script_text) T.f_script_text sc_script_text (fun ds μ Q E h => by first | (obtain ⟨rfl, _⟩ := h; rfl) | (obtain ⟨_, rfl, _⟩ := h; rfl) | (obtain ⟨_, _, rfl, _⟩ := h; rfl) | (obtain ⟨_, _, _, rfl, _⟩ := h; rfl) | (obtain ⟨_, _, _, _, rfl, _⟩ := h; rfl) | (obtain ⟨_, _, _, _, _, rfl, _⟩ := h; rfl)) (fun f cdv A outer s H E B Ed hr hE tk hx hp hu => (dss_cons (ds_drop (de_fnX (ok_need_script T) (hr.mono (by omega)) (by rfl) hx hE (da_cons (dv 0) da_nil))) dss_never)) pure_script_text
theorem ok_divisor (T : Txt K mg base) : FnX P w K mg base "divisor" 1 ps_divisor sp_divisor := fnx_of (k := 0) (t := t_divisor) T.f_divisor sc_divisor (fun ds μ Q E h => by first | (obtain ⟨rfl, _⟩ := h; rfl) | (obtain ⟨_, rfl, _⟩ := h; rfl) | (obtain ⟨_, _, rfl, _⟩ := h; rfl) | (obtain ⟨_, _, _, rfl, _⟩ := h; rfl) | (obtain ⟨_, _, _, _, rfl, _⟩ := h; rfl) | (obtain ⟨_, _, _, _, _, rfl, _⟩ := h; rfl)) (fun f cdv A outer s H E B Ed hr hE tk hx hp hu => (dss_cons (ds_par (i := 2) (j := 3) rfl sc_divisor.nd rfl rfl (by decide) rfl rfl (da_cons (de_callB dc_abs (by rfl) T.b_abs (by decide +kernel) (da_cons (dv 0) da_nil)) (da_cons (de_callB dc_abs (by rfl) T.b_abs (by decide +kernel) (da_cons (dv 1) da_nil)) da_nil)) (by rfl)) (dss_cons (ds_while hp (dt_cmp (do_gt) (dv 3) de_int (nomark _)) (dss_one (ds_par (i := 2) (j := 3) rfl sc_divisor.nd rfl rfl (by decide) rfl rfl (da_cons (dv 3) (da_cons (de_bin do_mod (dv 2) (dv 3)) da_nil)) (by rfl)))) (dss_one (ds_ret (dv 2)))))) pure_divisor
theorem ok_is_fraction (T : Txt K mg base) : FnX P w K mg base "is_fraction" 2 ps_is_fraction sp_is_fraction := fnx_of (k := 1) (t := t_is_fraction) T.f_is_fraction sc_is_fraction (fun ds μ Q E h => by first | (obtain ⟨rfl, _⟩ := h; rfl) | (obtain ⟨_, rfl, _⟩ := h; rfl) | (obtain ⟨_, _, rfl, _⟩ := h; rfl) | (obtain ⟨_, _, _, rfl, _⟩ := h; rfl) | (obtain ⟨_, _, _, _, rfl, _⟩ := h; rfl) | (obtain ⟨_, _, _, _, _, rfl, _⟩ := h; rfl)) (fun f cdv A outer s H E B Ed hr hE tk hx hp hu => (dss_cons (ds_if (PW.pt (dw_or (dt_not (dt_val (de_callB dc_isi (by rfl) T.b_isinstance (by decide +kernel) (da_cons (dv 0) (da_cons (de_ty (by rfl) T.b_tuple (by decide +kernel)) da_nil))))) (dw_or1 (dt_cmp (do_ne hu) (de_callB dc_len (by rfl) T.b_len boot_len (da_cons (dv 0) da_nil)) de_int (nomark _))))) (dss_one (ds_ret de_bl)) dss_nil) (dss_cons (ds_if (PW.pt (dw_or (dt_not (dt_val (de_fn (ok_is_whole T) (hr.mono (by omega)) (by rfl) (da_cons (de_ix (dv 0) de_int) (da_cons (dv 1) (da_cons (dv 2) da_nil)))))) (dw_or1 (dt_not (dt_val (de_fn (ok_is_whole T) (hr.mono (by omega)) (by rfl) (da_cons (de_ix (dv 0) de_int) (da_cons de_int (da_cons (dv 3) da_nil))))))))) (dss_one (ds_ret de_bl)) dss_nil) (dss_one (ds_ret (de_cmp (do_eq hu) (de_fn (ok_divisor T) (hr.mono (by omega)) (by rfl) (da_cons (de_ix (dv 0) de_int) (da_cons (de_ix (dv 0) de_int) da_nil))) de_int (nomark _))))))) pure_is_fraction
theorem ok_is_time (T : Txt K mg base) : FnX P w K mg base "is_time" 3 ps_is_time sp_is_time := fnx_of (k := 2) (t := t_is_time) T.f_is_time sc_is_time (fun ds μ Q E h => by first | (obtain ⟨rfl, _⟩ := h; rfl) | (obtain ⟨_, rfl, _⟩ := h; rfl) | (obtain ⟨_, _, rfl, _⟩ := h; rfl) | (obtain ⟨_, _, _, rfl, _⟩ := h; rfl) | (obtain ⟨_, _, _, _, rfl, _⟩ := h; rfl) | (obtain ⟨_, _, _, _, _, rfl, _⟩ := h; rfl)) (fun f cdv A outer s H E B Ed hr hE tk hx hp hu => (dss_one (ds_ret (de_and (de_fn (ok_is_fraction T) (hr.mono (by omega)) (by rfl) (da_cons (dv 0) (da_cons de_int (da_cons (de_bin do_pow de_int de_int) (da_cons (de_bin do_pow de_int de_int) da_nil))))) (de_one (de_cmp (do_le) (de_ix (dv 0) de_int) (de_bin do_mul de_int (de_ix (dv 0) de_int)) (nomark _))))))) pure_is_time
theorem ok_good_fact (T : Txt K mg base) : FnX P w K mg base "good_fact" 4 ps_good_fact sp_good_fact := fnx_of (k := 3) (t := t_good_fact) T.f_good_fact sc_good_fact (fun ds μ Q E h => by first | (obtain ⟨rfl, _⟩ := h; rfl) | (obtain ⟨_, rfl, _⟩ := h; rfl) | (obtain ⟨_, _, rfl, _⟩ := h; rfl) | (obtain ⟨_, _, _, rfl, _⟩ := h; rfl) | (obtain ⟨_, _, _, _, rfl, _⟩ := h; rfl) | (obtain ⟨_, _, _, _, _, rfl, _⟩ := h; rfl)) (fun f cdv A outer s H E B Ed hr hE tk hx hp hu => (dss_cons (ds_if (PW.pt (dw_or (dt_not (dt_val (de_callB dc_isi (by rfl) T.b_isinstance (by decide +kernel) (da_cons (dv 1) (da_cons (de_ty (by rfl) T.b_tuple (by decide +kernel)) da_nil))))) (dw_or (dt_cmp (do_eq hu) (dv 1) (de_tup da_nil) (nomark _)) (dw_or1 (dt_not (dt_val (de_callB dc_isi (by rfl) T.b_isinstance (by decide +kernel) (da_cons (de_ix (dv 1) de_int) (da_cons (de_ty (by rfl) T.b_str (by decide +kernel)) da_nil))))))))) (dss_one (ds_ret de_bl)) dss_nil) (dss_cons (ds_if (dt_cmp (do_in hu) (de_ix (dv 1) de_int) (de_tup (da_cons de_str (da_cons de_str da_nil))) (by rfl)) (dss_one (ds_ret (de_and (de_cmp (do_eq hu) (de_callB dc_len (by rfl) T.b_len boot_len (da_cons (dv 1) da_nil)) de_int (nomark _)) (de_one (de_fn (ok_is_whole T) (hr.mono (by omega)) (by rfl) (da_cons (de_ix (dv 1) de_int) (da_cons de_int (da_cons (de_bin do_sub (de_fn (ok_pieces_of T) (hr.mono (by omega)) (by rfl) (da_cons (dv 0) da_nil)) de_int) da_nil)))))))) dss_nil) (dss_cons (ds_if (PW.pt (dw_or (dt_cmp (do_notIn hu) (de_ix (dv 1) de_int) (de_tup (da_cons de_str (da_cons de_str (da_cons de_str da_nil)))) (by rfl)) (dw_or1 (dt_cmp (do_ne hu) (de_callB dc_len (by rfl) T.b_len boot_len (da_cons (dv 1) da_nil)) de_int (nomark _))))) (dss_one (ds_ret de_bl)) dss_nil) (dss_one (ds_ret (de_and (de_fn (ok_is_whole T) (hr.mono (by omega)) (by rfl) (da_cons (de_ix (dv 1) de_int) (da_cons de_int (da_cons (de_bin do_sub (de_fn (ok_rings_of T) (hr.mono (by omega)) (by rfl) (da_cons (dv 0) da_nil)) de_int) da_nil)))) (de_one (de_fn (ok_is_time T) (hr.mono (by omega)) (by rfl) (da_cons (de_ix (dv 1) de_int) da_nil)))))))))) pure_good_fact
theorem ok_is_fact (T : Txt K mg base) : FnX P w K mg base "is_fact" 6 ps_is_fact sp_is_fact := fnx_of (k := 5) (t := t_is_fact) T.f_is_fact sc_is_fact (fun ds μ Q E h => by first | (obtain ⟨rfl, _⟩ := h; rfl) | (obtain ⟨_, rfl, _⟩ := h; rfl) | (obtain ⟨_, _, rfl, _⟩ := h; rfl) | (obtain ⟨_, _, _, rfl, _⟩ := h; rfl) | (obtain ⟨_, _, _, _, rfl, _⟩ := h; rfl) | (obtain ⟨_, _, _, _, _, rfl, _⟩ := h; rfl)) (fun f cdv A outer s H E B Ed hr hE tk hx hp hu => (dss_cons (ds_drop (de_fnX (ok_need_script T) (hr.mono (by omega)) (by rfl) hx hE (da_cons (dv 0) da_nil))) (dss_one (ds_ret (de_fn (ok_good_fact T) (hr.mono (by omega)) (by rfl) (da_cons (dv 0) (da_cons (dv 1) da_nil))))))) pure_is_fact
theorem ok_is_possible (T : Txt K mg base) : FnX P w K mg base "is_possible" 6 ps_is_possible sp_is_possible := fnx_of (k := 5) (t := t_is_possible) T.f_is_possible sc_is_possible (fun ds μ Q E h => by first | (obtain ⟨rfl, _⟩ := h; rfl) | (obtain ⟨_, rfl, _⟩ := h; rfl) | (obtain ⟨_, _, rfl, _⟩ := h; rfl) | (obtain ⟨_, _, _, rfl, _⟩ := h; rfl) | (obtain ⟨_, _, _, _, rfl, _⟩ := h; rfl) | (obtain ⟨_, _, _, _, _, rfl, _⟩ := h; rfl)) (fun f cdv A outer s H E B Ed hr hE tk hx hp hu => (dss_cons (ds_drop (de_fnX (ok_need_script T) (hr.mono (by omega)) (by rfl) hx hE (da_cons (dv 0) da_nil))) dss_never)) pure_is_possible
theorem ok_case (T : Txt K mg base) : FnX P w K mg base "case" 6 ps_case sp_case := fnx_of (k := 5) (t := t_case) T.f_case sc_case (fun ds μ Q E h => by first | (obtain ⟨rfl, _⟩ := h; rfl) | (obtain ⟨_, rfl, _⟩ := h; rfl) | (obtain ⟨_, _, rfl, _⟩ := h; rfl) | (obtain ⟨_, _, _, rfl, _⟩ := h; rfl) | (obtain ⟨_, _, _, _, rfl, _⟩ := h; rfl) | (obtain ⟨_, _, _, _, _, rfl, _⟩ := h; rfl)) (fun f cdv A outer s H E B Ed hr hE tk hx hp hu => (dss_cons (ds_drop (de_fnX (ok_need_script T) (hr.mono (by omega)) (by rfl) hx hE (da_cons (dv 0) da_nil))) dss_never)) pure_case
theorem ok_can_ring (T : Txt K mg base) : FnX P w K mg base "can_ring" 6 ps_can_ring sp_can_ring := fnx_of (k := 5) (t := t_can_ring) T.f_can_ring sc_can_ring (fun ds μ Q E h => by first | (obtain ⟨rfl, _⟩ := h; rfl) | (obtain ⟨_, rfl, _⟩ := h; rfl) | (obtain ⟨_, _, rfl, _⟩ := h; rfl) | (obtain ⟨_, _, _, rfl, _⟩ := h; rfl) | (obtain ⟨_, _, _, _, rfl, _⟩ := h; rfl) | (obtain ⟨_, _, _, _, _, rfl, _⟩ := h; rfl)) (fun f cdv A outer s H E B Ed hr hE tk hx hp hu => (dss_cons (ds_drop (de_fnX (ok_need_script T) (hr.mono (by omega)) (by rfl) hx hE (da_cons (dv 0) da_nil))) dss_never)) pure_can_ring
theorem ok_minutes_with (T : Txt K mg base) : FnX P w K mg base "minutes_with" 6 ps_minutes_with sp_minutes_with := fnx_of (k := 5) (t := t_minutes_with) T.f_minutes_with sc_minutes_with (fun ds μ Q E h => by first | (obtain ⟨rfl, _⟩ := h; rfl) | (obtain ⟨_, rfl, _⟩ := h; rfl) | (obtain ⟨_, _, rfl, _⟩ := h; rfl) | (obtain ⟨_, _, _, rfl, _⟩ := h; rfl) | (obtain ⟨_, _, _, _, rfl, _⟩ := h; rfl) | (obtain ⟨_, _, _, _, _, rfl, _⟩ := h; rfl)) (fun f cdv A outer s H E B Ed hr hE tk hx hp hu => (dss_cons (ds_drop (de_fnX (ok_need_script T) (hr.mono (by omega)) (by rfl) hx hE (da_cons (dv 0) da_nil))) dss_never)) pure_minutes_with
theorem ok_need_facts (T : Txt K mg base) : FnX P w K mg base "need_facts" 5 ps_need_facts sp_need_facts := fnx_of (k := 4) (t := t_need_facts) T.f_need_facts sc_need_facts (fun ds μ Q E h => by first | (obtain ⟨rfl, _⟩ := h; rfl) | (obtain ⟨_, rfl, _⟩ := h; rfl) | (obtain ⟨_, _, rfl, _⟩ := h; rfl) | (obtain ⟨_, _, _, rfl, _⟩ := h; rfl) | (obtain ⟨_, _, _, _, rfl, _⟩ := h; rfl) | (obtain ⟨_, _, _, _, _, rfl, _⟩ := h; rfl)) (fun f cdv A outer s H E B Ed hr hE tk hx hp hu => (dss_cons (ds_if (PW.pt (dw_or (dt_not (dt_val (de_callB dc_isi (by rfl) T.b_isinstance (by decide +kernel) (da_cons (dv 1) (da_cons (de_ty (by rfl) T.b_tuple (by decide +kernel)) da_nil))))) (dw_or1 (dt_cmp (do_gt) (de_callB dc_len (by rfl) T.b_len boot_len (da_cons (dv 1) da_nil)) de_int (nomark _))))) (dss_one (ds_raise rfl tk hE T.x_InvalidFacts (by rfl))) dss_nil) (dss_one (ds_if (dt_cmp (do_ne hu) (de_lc rfl sc_need_facts.nd (di_seq (dv 1)) (blkOk_by (own := [("fact", 2)]) (N := nm_need_facts) (sc := defScope (s_need_facts)) (by decide +kernel)) (ctg_name 2 fun _ _ _ _ _ => pg_name (i := 2) sc_need_facts.nd rfl (.inl rfl)) (fun _ _ _ _ _ => (dts_one (dt_not (dt_val (de_fn (ok_good_fact T) (hr.mono (by omega)) (by rfl) (da_cons (dv 0) (da_cons (dv 2) da_nil))))))) (fun _ _ _ _ _ => (dv 2))) (de_lst da_nil) (nomark _)) (dss_one (ds_raise rfl tk hE T.x_InvalidFacts (by rfl))) dss_nil)))) pure_need_facts
theorem ok_fits (T : Txt K mg base) : FnX P w K mg base "fits" 6 ps_fits sp_fits := fnx_of (k := 5) (t := t_fits) T.f_fits sc_fits (fun ds μ Q E h => by first | (obtain ⟨rfl, _⟩ := h; rfl) | (obtain ⟨_, rfl, _⟩ := h; rfl) | (obtain ⟨_, _, rfl, _⟩ := h; rfl) | (obtain ⟨_, _, _, rfl, _⟩ := h; rfl) | (obtain ⟨_, _, _, _, rfl, _⟩ := h; rfl) | (obtain ⟨_, _, _, _, _, rfl, _⟩ := h; rfl)) (fun f cdv A outer s H E B Ed hr hE tk hx hp hu => (dss_cons (ds_drop (de_fnX (ok_need_script T) (hr.mono (by omega)) (by rfl) hx hE (da_cons (dv 0) da_nil))) (dss_cons (ds_drop (de_fnX (ok_need_facts T) (hr.mono (by omega)) (by rfl) hx hE (da_cons (dv 0) (da_cons (dv 1) da_nil)))) dss_never))) pure_fits
theorem ok_spot_bounds (T : Txt K mg base) : FnX P w K mg base "spot_bounds" 6 ps_spot_bounds sp_spot_bounds := fnx_of (k := 5) (t := t_spot_bounds) T.f_spot_bounds sc_spot_bounds (fun ds μ Q E h => by first | (obtain ⟨rfl, _⟩ := h; rfl) | (obtain ⟨_, rfl, _⟩ := h; rfl) | (obtain ⟨_, _, rfl, _⟩ := h; rfl) | (obtain ⟨_, _, _, rfl, _⟩ := h; rfl) | (obtain ⟨_, _, _, _, rfl, _⟩ := h; rfl) | (obtain ⟨_, _, _, _, _, rfl, _⟩ := h; rfl)) (fun f cdv A outer s H E B Ed hr hE tk hx hp hu => (dss_cons (ds_drop (de_fnX (ok_need_script T) (hr.mono (by omega)) (by rfl) hx hE (da_cons (dv 0) da_nil))) (dss_cons (ds_drop (de_fnX (ok_need_index T) (hr.mono (by omega)) (by rfl) hx hE (da_cons (dv 1) (da_cons (de_fn (ok_spots_of T) (hr.mono (by omega)) (by rfl) (da_cons (de_ix (dv 0) de_int) da_nil)) da_nil)))) dss_never))) pure_spot_bounds
theorem ok_surely (T : Txt K mg base) : FnX P w K mg base "surely" 6 ps_surely sp_surely := fnx_of (k := 5) (t := t_surely) T.f_surely sc_surely (fun ds μ Q E h => by first | (obtain ⟨rfl, _⟩ := h; rfl) | (obtain ⟨_, rfl, _⟩ := h; rfl) | (obtain ⟨_, _, rfl, _⟩ := h; rfl) | (obtain ⟨_, _, _, rfl, _⟩ := h; rfl) | (obtain ⟨_, _, _, _, rfl, _⟩ := h; rfl) | (obtain ⟨_, _, _, _, _, rfl, _⟩ := h; rfl)) (fun f cdv A outer s H E B Ed hr hE tk hx hp hu => (dss_cons (ds_drop (de_fnX (ok_need_script T) (hr.mono (by omega)) (by rfl) hx hE (da_cons (dv 0) da_nil))) (dss_cons (ds_drop (de_fnX (ok_need_facts T) (hr.mono (by omega)) (by rfl) hx hE (da_cons (dv 0) (da_cons (dv 1) da_nil)))) (dss_cons (ds_if (dt_not (dt_val (de_fn (ok_good_fact T) (hr.mono (by omega)) (by rfl) (da_cons (dv 0) (da_cons (dv 2) da_nil))))) (dss_one (ds_raise rfl tk hE T.x_InvalidFacts (by rfl))) dss_nil) dss_never)))) pure_surely
theorem ok__law_of_script (T : Txt K mg base) : FnX P w K mg base "_law_of_script" 12 ps__law_of_script sp__law_of_script := fnxL_of (k := 11) (t := t__law_of_script) T.l__law_of_script sc__law_of_script (fun ds μ Q E h => by first | (obtain ⟨rfl, _⟩ := h; rfl) | (obtain ⟨_, rfl, _⟩ := h; rfl) | (obtain ⟨_, _, rfl, _⟩ := h; rfl) | (obtain ⟨_, _, _, rfl, _⟩ := h; rfl) | (obtain ⟨_, _, _, _, rfl, _⟩ := h; rfl) | (obtain ⟨_, _, _, _, _, rfl, _⟩ := h; rfl)) (fun f c Pt TB hT hu0 A outer s H E B Ed hr hE tk hx hp hu => (dss_cons (ds_set (i := 1) sc__law_of_script.nd rfl (.inl rfl) (de_lstM da_nil)) (dss_cons (ds_for hp rfl (di_seq (de_tup (da_cons (de_cls (by rfl) T.v_count_rings) (da_cons (de_cls (by rfl) T.v_count_spots) (da_cons (de_cls (by rfl) T.v_count_pieces) (da_cons (de_cls (by rfl) T.v_courses) (da_cons (de_cls (by rfl) T.v_sure_rings) (da_cons (de_cls (by rfl) T.v_needless) (da_cons (de_cls (by rfl) T.v_script_text) da_nil))))))))) (dg_name (i := 2) sc__law_of_script.nd rfl (.inr rfl)) (dss_forget [2] (dss_one (ds_drop (de_append (dv 1) (de_err (k := 6) T.er (nms_ok T) (et_ok T) (by rfl) rfl TB hT hu0 (hr.mono (by omega)) (show LamX.LamS (defScope (s__law_of_script)) _ from LamX.lamS_by (by decide +kernel)) (by rfl) (fun _ _ _ _ _ => rfl) fun A outer s H E f c' B' Ed hr hE hx => (de_callV (k := 6) (fnv_cons (FnV.of (ok_count_rings T) T.v_count_rings (by omega)) (fnv_cons (FnV.of (ok_count_spots T) T.v_count_spots (by omega)) (fnv_cons (FnV.of (ok_count_pieces T) T.v_count_pieces (by omega)) (fnv_cons (FnV.of (ok_courses T) T.v_courses (by omega)) (fnv_cons (FnV.of (ok_sure_rings T) T.v_sure_rings (by omega)) (fnv_cons (FnV.of (ok_needless T) T.v_needless (by omega)) (fnv_cons (FnV.of (ok_script_text T) T.v_script_text (by omega)) fnv_nil))))))) (hr.mono (by omega)) hx hE (da_cons (dv 0) da_nil)))))))) (dss_cons (ds_for hp rfl (di_seq (de_tup (da_cons (de_cls (by rfl) T.v_is_fact) (da_cons (de_cls (by rfl) T.v_is_possible) (da_cons (de_cls (by rfl) T.v_rings) (da_cons (de_cls (by rfl) T.v_left) (da_cons (de_cls (by rfl) T.v_course) (da_cons (de_cls (by rfl) T.v_case) (da_cons (de_cls (by rfl) T.v_ring_bounds) da_nil))))))))) (dg_name (i := 2) sc__law_of_script.nd rfl (.inr rfl)) (dss_forget [2] (dss_one (ds_drop (de_append (dv 1) (de_err (k := 7) T.er (nms_ok T) (et_ok T) (by rfl) rfl TB hT hu0 (hr.mono (by omega)) (show LamX.LamS (defScope (s__law_of_script)) _ from LamX.lamS_by (by decide +kernel)) (by rfl) (fun _ _ _ _ _ => rfl) fun A outer s H E f c' B' Ed hr hE hx => (de_callV (k := 7) (fnv_cons (FnV.of (ok_is_fact T) T.v_is_fact (by omega)) (fnv_cons (FnV.of (ok_is_possible T) T.v_is_possible (by omega)) (fnv_cons (FnV.of (ok_rings T) T.v_rings (by omega)) (fnv_cons (FnV.of (ok_left T) T.v_left (by omega)) (fnv_cons (FnV.of (ok_course T) T.v_course (by omega)) (fnv_cons (FnV.of (ok_case T) T.v_case (by omega)) (fnv_cons (FnV.of (ok_ring_bounds T) T.v_ring_bounds (by omega)) fnv_nil))))))) (hr.mono (by omega)) hx hE (da_cons (dv 0) (da_cons de_non da_nil))))))))) (dss_cons (ds_for hp rfl (di_seq (de_tup (da_cons (de_cls (by rfl) T.v_left_bounds) (da_cons (de_cls (by rfl) T.v_can_ring) (da_cons (de_cls (by rfl) T.v_minutes_with) da_nil))))) (dg_name (i := 2) sc__law_of_script.nd rfl (.inr rfl)) (dss_forget [2] (dss_one (ds_drop (de_append (dv 1) (de_err (k := 6) T.er (nms_ok T) (et_ok T) (by rfl) rfl TB hT hu0 (hr.mono (by omega)) (show LamX.LamS (defScope (s__law_of_script)) _ from LamX.lamS_by (by decide +kernel)) (by rfl) (fun _ _ _ _ _ => rfl) fun A outer s H E f c' B' Ed hr hE hx => (de_callV (k := 6) (fnv_cons (FnV.of (ok_left_bounds T) T.v_left_bounds (by omega)) (fnv_cons (FnV.of (ok_can_ring T) T.v_can_ring (by omega)) (fnv_cons (FnV.of (ok_minutes_with T) T.v_minutes_with (by omega)) fnv_nil))) (hr.mono (by omega)) hx hE (da_cons (dv 0) (da_cons de_non da_nil))))))))) (dss_cons (ds_for hp rfl (di_seq (de_tup (da_cons (de_cls (by rfl) T.v_fits) (da_cons (de_cls (by rfl) T.v_alike) (da_cons (de_cls (by rfl) T.v_parting) da_nil))))) (dg_name (i := 2) sc__law_of_script.nd rfl (.inr rfl)) (dss_forget [2] (dss_one (ds_drop (de_append (dv 1) (de_err (k := 6) T.er (nms_ok T) (et_ok T) (by rfl) rfl TB hT hu0 (hr.mono (by omega)) (show LamX.LamS (defScope (s__law_of_script)) _ from LamX.lamS_by (by decide +kernel)) (by rfl) (fun _ _ _ _ _ => rfl) fun A outer s H E f c' B' Ed hr hE hx => (de_callV (k := 6) (fnv_cons (FnV.of (ok_fits T) T.v_fits (by omega)) (fnv_cons (FnV.of (ok_alike T) T.v_alike (by omega)) (fnv_cons (FnV.of (ok_parting T) T.v_parting (by omega)) fnv_nil))) (hr.mono (by omega)) hx hE (da_cons (dv 0) (da_cons de_non da_nil))))))))) (dss_cons (ds_for hp rfl (di_seq (de_tup (da_cons (de_cls (by rfl) T.v_spot_bounds) (da_cons (de_cls (by rfl) T.v_surely) da_nil)))) (dg_name (i := 2) sc__law_of_script.nd rfl (.inr rfl)) (dss_forget [2] (dss_one (ds_drop (de_append (dv 1) (de_err (k := 6) T.er (nms_ok T) (et_ok T) (by rfl) rfl TB hT hu0 (hr.mono (by omega)) (show LamX.LamS (defScope (s__law_of_script)) _ from LamX.lamS_by (by decide +kernel)) (by rfl) (fun _ _ _ _ _ => rfl) fun A outer s H E f c' B' Ed hr hE hx => (de_callV (k := 6) (fnv_cons (FnV.of (ok_spot_bounds T) T.v_spot_bounds (by omega)) (fnv_cons (FnV.of (ok_surely T) T.v_surely (by omega)) fnv_nil)) (hr.mono (by omega)) hx hE (da_cons (dv 0) (da_cons de_non (da_cons de_non da_nil)))))))))) (dss_frz 1 (dss_one (ds_ret (dv 1))))))))))) pure__law_of_script
theorem law_fn (T : Txt K mg base) {f : Addr} {fd : FuncData} {c Pt : Addr} (F : Fun K "law" "law" s_law f fd) (h4 : fd.code = .ref c) (h5 : LamX.TabB base mg c Pt) (h6 : (Pt, lamQ "law") ∈ Tbl.T) (h7 : ∀ p ∈ Tbl.T, p.1 = Pt → p.2 = lamQ "law") : DFn P w K mg base 33 f fd ps_law sp_law := dfnL_of (k := 32) (t := t_law) F h4 h5 h6 h7 sc_law (fun ds μ Q E h => by first | (obtain ⟨rfl, _⟩ := h; rfl) | (obtain ⟨_, rfl, _⟩ := h; rfl) | (obtain ⟨_, _, rfl, _⟩ := h; rfl) | (obtain ⟨_, _, _, rfl, _⟩ := h; rfl) | (obtain ⟨_, _, _, _, rfl, _⟩ := h; rfl) | (obtain ⟨_, _, _, _, _, rfl, _⟩ := h; rfl)) (fun f c Pt TB hT hu0 A outer s H E B Ed hr hE tk hx hp hu => (dss_cons (ds_for hp rfl (di_range1 (by rfl) T.b_range (da_cons (de_callB (dc_max rfl) (by rfl) T.b_max (by decide +kernel) (da_cons de_int (da_cons (de_callB (dc_min rfl) (by rfl) T.b_min (by decide +kernel) (da_cons de_int (da_cons (de_callB dc_len (by rfl) T.b_len boot_len (da_cons (dv 0) da_nil)) da_nil))) da_nil))) da_nil)) (dg_name (i := 1) sc_law.nd rfl (.inl rfl)) (dss_forget [1, 2, 3, 4, 5, 8, 6, 7] (dss_cons (ds_set (i := 2) sc_law.nd rfl (.inl rfl) (de_fn (ok__law_vat T) (hr.mono (by omega)) (by rfl) (da_cons (dv 0) (da_cons (dv 1) da_nil)))) (dss_cons (ds_set (i := 3) sc_law.nd rfl (.inr rfl) (de_fn (ok__law_script T) (hr.mono (by omega)) (by rfl) (da_cons (dv 2) (da_cons de_int (da_cons de_int da_nil))))) (dss_cons (ds_set (i := 4) sc_law.nd rfl (.inl rfl) (de_lstM (da_cons de_non (da_cons (de_callTy dc_list (by rfl) T.b_list (by decide +kernel) (da_cons (dv 3) da_nil)) (da_cons (de_bin do_add (dv 3) (de_tup (da_cons de_non da_nil))) (da_cons (de_revT (dv 3)) (da_cons de_str (da_cons (de_ix (dv 3) de_int) da_nil)))))))) (dss_cons (ds_drop (de_append (dv 4) (de_tup (da_cons (de_ix (dv 3) de_int) (da_cons (de_bin do_add (de_ix (dv 3) de_int) (de_tup (da_cons de_int da_nil))) da_nil))))) (dss_cons (ds_drop (de_append (dv 4) (de_fn (ok__law_bent T) (hr.mono (by omega)) (by rfl) (da_cons (dv 2) (da_cons (dv 3) da_nil))))) (dss_cons (ds_for hp rfl (di_seq (dv 4)) (dg_name (i := 5) sc_law.nd rfl (.inr rfl)) (dss_forget [5, 6, 7] (dss_cons (ds_set (i := 6) sc_law.nd rfl (.inl rfl) (de_ifExp (dt_val (de_fn (ok__law_is_script T) (hr.mono (by omega)) (by rfl) (da_cons (dv 5) da_nil))) (de_lst da_nil) (de_fnX (ok__law_of_script T) (hr.mono (by omega)) (by rfl) hx hE (da_cons (dv 5) da_nil)))) (dss_one (ds_if (dt_cmp (do_ne hu) (de_lc rfl sc_law.nd (di_seq (dv 6)) (blkOk_by (own := [("word", 7)]) (N := nm_law) (sc := defScope (s_law)) (by decide +kernel)) (ctg_name 7 fun _ _ _ _ _ => pg_name (i := 7) sc_law.nd rfl (.inl rfl)) (fun _ _ _ _ _ => (dts_one (dt_cmp (do_ne hu) (dv 7) de_str (nomark _)))) (fun _ _ _ _ _ => (dv 7))) (de_lst da_nil) (nomark _)) (dss_one (ds_ret de_bl)) dss_nil))))) (dss_cons (ds_for hp rfl (di_seq (de_tup (da_cons (de_cls (by rfl) T.v_alike) (da_cons (de_cls (by rfl) T.v_parting) da_nil)))) (dg_name (i := 8) sc_law.nd rfl (.inr rfl)) (dss_forget [8] (dss_one (ds_if (dt_cmp (do_ne hu) (de_err (k := 6) T.er (nms_ok T) (et_ok T) (by rfl) rfl TB hT hu0 (hr.mono (by omega)) (show LamX.LamS (defScope (s_law)) _ from LamX.lamS_by (by decide +kernel)) (by rfl) (fun _ _ _ _ _ => rfl) fun A outer s H E f c' B' Ed hr hE hx => (de_callV (k := 6) (fnv_cons (FnV.of (ok_alike T) T.v_alike (by omega)) (fnv_cons (FnV.of (ok_parting T) T.v_parting (by omega)) fnv_nil)) (hr.mono (by omega)) hx hE (da_cons (dv 3) (da_cons (de_slice (dv 3) do_none (do_some de_int)) da_nil)))) de_str (nomark _)) (dss_one (ds_ret de_bl)) dss_nil)))) (dss_cons (ds_for hp rfl (di_seq (de_tup (da_cons (de_cls (by rfl) T.v_rings) (da_cons (de_cls (by rfl) T.v_left) (da_cons (de_cls (by rfl) T.v_course) da_nil))))) (dg_name (i := 8) sc_law.nd rfl (.inr rfl)) (dss_forget [8] (dss_one (ds_if (dt_cmp (do_ne hu) (de_err (k := 7) T.er (nms_ok T) (et_ok T) (by rfl) rfl TB hT hu0 (hr.mono (by omega)) (show LamX.LamS (defScope (s_law)) _ from LamX.lamS_by (by decide +kernel)) (by rfl) (fun _ _ _ _ _ => rfl) fun A outer s H E f c' B' Ed hr hE hx => (de_callV (k := 7) (fnv_cons (FnV.of (ok_rings T) T.v_rings (by omega)) (fnv_cons (FnV.of (ok_left T) T.v_left (by omega)) (fnv_cons (FnV.of (ok_course T) T.v_course (by omega)) fnv_nil))) (hr.mono (by omega)) hx hE (da_cons (dv 3) (da_cons (de_bin do_rep (de_tup (da_cons (de_tup (da_cons de_int (da_cons de_int da_nil))) da_nil)) de_int) da_nil)))) de_str (nomark _)) (dss_one (ds_ret de_bl)) dss_nil)))) (dss_cons (ds_for hp rfl (di_seq (de_tup (da_cons (de_cls (by rfl) T.v_ring_bounds) (da_cons (de_cls (by rfl) T.v_left_bounds) da_nil)))) (dg_name (i := 8) sc_law.nd rfl (.inr rfl)) (dss_forget [8] (dss_one (ds_if (dt_cmp (do_ne hu) (de_err (k := 6) T.er (nms_ok T) (et_ok T) (by rfl) rfl TB hT hu0 (hr.mono (by omega)) (show LamX.LamS (defScope (s_law)) _ from LamX.lamS_by (by decide +kernel)) (by rfl) (fun _ _ _ _ _ => rfl) fun A outer s H E f c' B' Ed hr hE hx => (de_callV (k := 6) (fnv_cons (FnV.of (ok_ring_bounds T) T.v_ring_bounds (by omega)) (fnv_cons (FnV.of (ok_left_bounds T) T.v_left_bounds (by omega)) fnv_nil)) (hr.mono (by omega)) hx hE (da_cons (dv 3) (da_cons (de_neg de_int) da_nil)))) de_str (nomark _)) (dss_one (ds_ret de_bl)) dss_nil)))) (dss_cons (ds_if (dt_cmp (do_ne hu) (de_err (k := 6) T.er (nms_ok T) (et_ok T) (by rfl) rfl TB hT hu0 (hr.mono (by omega)) (show LamX.LamS (defScope (s_law)) _ from LamX.lamS_by (by decide +kernel)) (by rfl) (fun _ _ _ _ _ => rfl) fun A outer s H E f c' B' Ed hr hE hx => (de_fnX (ok_spot_bounds T) (hr.mono (by omega)) (by rfl) hx hE (da_cons (dv 3) (da_cons de_int (da_cons de_int da_nil))))) de_str (nomark _)) (dss_one (ds_ret de_bl)) dss_nil) (dss_cons (ds_for hp rfl (di_seq (de_lst (da_cons de_non (da_cons (de_lst da_nil) (da_cons (de_tup (da_cons de_non da_nil)) (da_cons (de_tup (da_cons (de_tup (da_cons de_str (da_cons de_int da_nil))) da_nil)) (da_cons (de_tup (da_cons (de_tup (da_cons de_str (da_cons de_int da_nil))) da_nil)) (da_cons (de_bin do_rep (de_tup (da_cons (de_tup (da_cons de_str (da_cons de_int da_nil))) da_nil)) de_int) (da_cons (de_tup (da_cons (de_tup (da_cons de_str (da_cons de_int (da_cons (de_tup (da_cons de_int (da_cons de_int da_nil))) da_nil)))) da_nil)) da_nil))))))))) (dg_name (i := 5) sc_law.nd rfl (.inr rfl)) (dss_forget [5] (dss_cons (ds_if (dt_cmp (do_ne hu) (de_err (k := 6) T.er (nms_ok T) (et_ok T) (by rfl) rfl TB hT hu0 (hr.mono (by omega)) (show LamX.LamS (defScope (s_law)) _ from LamX.lamS_by (by decide +kernel)) (by rfl) (fun _ _ _ _ _ => rfl) fun A outer s H E f c' B' Ed hr hE hx => (de_fnX (ok_fits T) (hr.mono (by omega)) (by rfl) hx hE (da_cons (dv 3) (da_cons (dv 5) da_nil)))) de_str (nomark _)) (dss_one (ds_ret de_bl)) dss_nil) (dss_one (ds_if (dt_cmp (do_ne hu) (de_err (k := 6) T.er (nms_ok T) (et_ok T) (by rfl) rfl TB hT hu0 (hr.mono (by omega)) (show LamX.LamS (defScope (s_law)) _ from LamX.lamS_by (by decide +kernel)) (by rfl) (fun _ _ _ _ _ => rfl) fun A outer s H E f c' B' Ed hr hE hx => (de_fnX (ok_surely T) (hr.mono (by omega)) (by rfl) hx hE (da_cons (dv 3) (da_cons (dv 5) (da_cons de_non da_nil))))) de_str (nomark _)) (dss_one (ds_ret de_bl)) dss_nil))))) (dss_one (ds_if (dt_cmp (do_ne hu) (de_err (k := 6) T.er (nms_ok T) (et_ok T) (by rfl) rfl TB hT hu0 (hr.mono (by omega)) (show LamX.LamS (defScope (s_law)) _ from LamX.lamS_by (by decide +kernel)) (by rfl) (fun _ _ _ _ _ => rfl) fun A outer s H E f c' B' Ed hr hE hx => (de_fnX (ok_surely T) (hr.mono (by omega)) (by rfl) hx hE (da_cons (dv 3) (da_cons (de_tup da_nil) (da_cons (de_tup (da_cons de_str da_nil)) da_nil))))) de_str (nomark _)) (dss_one (ds_ret de_bl)) dss_nil))))))))))))))) (dss_one (ds_ret de_bl)))) pure_law
end
end Li

set_option Elab.async false
set_option linter.all false
set_option maxRecDepth 100000
set_option maxHeartbeats 0
namespace Li
open PySem PySem.Spec PyProof.Rows L2
abbrev tblK (K : PySem.W.Frag) : Tbl := ⟨htf.map fun d => ((He.cT K d).2, lamQ d.1)⟩
theorem tbl_mem {K : PySem.W.Frag} {x : PySem.Str} (hx : (x, none) ∈ htf) : ((He.cT K (x, none)).2, lamQ x) ∈ (tblK K).T := List.mem_map.mpr ⟨_, hx, rfl⟩
theorem tbl_one {K : PySem.W.Frag} (h : distB K htf = true) {x : PySem.Str} (hx : (x, none) ∈ htf) : ∀ p ∈ (tblK K).T, p.1 = (He.cT K (x, none)).2 → p.2 = lamQ x := fun p hp e => by
  obtain ⟨d, hd, rfl⟩ := List.mem_map.mp hp
  have := tab_uniq (of_decide_eq_true h) hd hx e
  rw [this]
theorem hex_parts {K : PySem.W.Frag} (h : hex K = true) : errsB K = true ∧ distB K htf = true ∧ valB K (.tup [.str "left", .str "right"]) (.ref (He.ga K "SIDES")) = true := by
  unfold hex at h
  simp only [Bool.and_eq_true] at h
  obtain ⟨⟨he, hd⟩, h0⟩ := h
  exact ⟨he, hd, h0⟩
theorem txt_of {w : World} {K : PySem.W.Frag} {h : Heap} {mg : Str → Option Value} (X : K.In h) (G : h.Ns mainGlobals mg) (c : He.SaysX hfa hfn [] htf hex w h K) (base : Heap) (TB : ∀ p ∈ htf.map (He.cT K), LamX.TabB base mg p.1 p.2) : @Txt (tblK K) (clsK K) ⟨He.ga K⟩ K mg base := by
  letI : Tbl := tblK K
  letI : Cls := clsK K
  letI : Fad := ⟨He.ga K⟩
  obtain ⟨he, hd, hv_SIDES⟩ := hex_parts c.more
  exact {
    f__law_vat := by
      obtain ⟨fd, F⟩ := c.t.d.def_ 0 (d := dd__law_vat) rfl
      exact funT_of (He.glo_ok X G (c.t.d.fact 0 (f := .glo "_law_vat") rfl)) F fun _ _ _ _ _ _ us hl => match us, hl with | [_, _], _ => rfl
    f__law_under := by
      obtain ⟨fd, F⟩ := c.t.d.def_ 1 (d := dd__law_under) rfl
      exact funT_of (He.glo_ok X G (c.t.d.fact 1 (f := .glo "_law_under") rfl)) F fun _ _ _ _ _ _ us hl => match us, hl with | [_, _], _ => rfl
    f__law_some := by
      obtain ⟨fd, F⟩ := c.t.d.def_ 2 (d := dd__law_some) rfl
      exact funT_of (He.glo_ok X G (c.t.d.fact 2 (f := .glo "_law_some") rfl)) F fun _ _ _ _ _ _ us hl => match us, hl with | [_, _], _ => rfl
    f__law_any_step := by
      obtain ⟨fd, F⟩ := c.t.d.def_ 3 (d := dd__law_any_step) rfl
      exact funT_of (He.glo_ok X G (c.t.d.fact 3 (f := .glo "_law_any_step") rfl)) F fun _ _ _ _ _ _ us hl => match us, hl with | [_, _], _ => rfl
    f__law_script := by
      obtain ⟨fd, F⟩ := c.t.d.def_ 4 (d := dd__law_script) rfl
      exact funT_of (He.glo_ok X G (c.t.d.fact 4 (f := .glo "_law_script") rfl)) F fun _ _ _ _ _ _ us hl => match us, hl with | [_, _, _], _ => rfl
    f_is_whole := by
      obtain ⟨fd, F⟩ := c.t.d.def_ 5 (d := dd_is_whole) rfl
      exact funT_of (He.glo_ok X G (c.t.d.fact 5 (f := .glo "is_whole") rfl)) F fun _ _ _ _ _ _ us hl => match us, hl with | [_, _, _], _ => rfl
    f_is_word := by
      obtain ⟨fd, F⟩ := c.t.d.def_ 6 (d := dd_is_word) rfl
      exact funT_of (He.glo_ok X G (c.t.d.fact 6 (f := .glo "is_word") rfl)) F fun _ _ _ _ _ _ us hl => match us, hl with | [_, _], _ => rfl
    f_is_step := by
      obtain ⟨fd, F⟩ := c.t.d.def_ 7 (d := dd_is_step) rfl
      exact funT_of (He.glo_ok X G (c.t.d.fact 7 (f := .glo "is_step") rfl)) F fun _ _ _ _ _ _ us hl => match us, hl with | [_, _], _ => rfl
    f_are_steps := by
      obtain ⟨fd, F⟩ := c.t.d.def_ 8 (d := dd_are_steps) rfl
      exact funT_of (He.glo_ok X G (c.t.d.fact 8 (f := .glo "are_steps") rfl)) F fun _ _ _ _ _ _ us hl => match us, hl with | [_, _], _ => rfl
    f_is_fuses := by
      obtain ⟨fd, F⟩ := c.t.d.def_ 9 (d := dd_is_fuses) rfl
      exact funT_of (He.glo_ok X G (c.t.d.fact 9 (f := .glo "is_fuses") rfl)) F fun _ _ _ _ _ _ us hl => match us, hl with | [_], _ => rfl
    f_spots_of := by
      obtain ⟨fd, F⟩ := c.t.d.def_ 10 (d := dd_spots_of) rfl
      exact funT_of (He.glo_ok X G (c.t.d.fact 10 (f := .glo "spots_of") rfl)) F fun _ _ _ _ _ _ us hl => match us, hl with | [_], _ => rfl
    f_is_script := by
      obtain ⟨fd, F⟩ := c.t.d.def_ 11 (d := dd_is_script) rfl
      exact funT_of (He.glo_ok X G (c.t.d.fact 11 (f := .glo "is_script") rfl)) F fun _ _ _ _ _ _ us hl => match us, hl with | [_], _ => rfl
    f_need_script := by
      obtain ⟨fd, F⟩ := c.t.d.def_ 12 (d := dd_need_script) rfl
      exact funT_of (He.glo_ok X G (c.t.d.fact 12 (f := .glo "need_script") rfl)) F fun _ _ _ _ _ _ us hl => match us, hl with | [_], _ => rfl
    f_alike := by
      obtain ⟨fd, F⟩ := c.t.d.def_ 13 (d := dd_alike) rfl
      exact funT_of (He.glo_ok X G (c.t.d.fact 13 (f := .glo "alike") rfl)) F fun _ _ _ _ _ _ us hl => match us, hl with | [_, _], _ => rfl
    f_parting := by
      obtain ⟨fd, F⟩ := c.t.d.def_ 14 (d := dd_parting) rfl
      exact funT_of (He.glo_ok X G (c.t.d.fact 14 (f := .glo "parting") rfl)) F fun _ _ _ _ _ _ us hl => match us, hl with | [_, _], _ => rfl
    f_state_with := by
      obtain ⟨fd, F⟩ := c.t.d.def_ 15 (d := dd_state_with) rfl
      exact funT_of (He.glo_ok X G (c.t.d.fact 15 (f := .glo "state_with") rfl)) F fun _ _ _ _ _ _ us hl => match us, hl with | [_, _], _ => rfl
    f_need_state := by
      obtain ⟨fd, F⟩ := c.t.d.def_ 16 (d := dd_need_state) rfl
      exact funT_of (He.glo_ok X G (c.t.d.fact 16 (f := .glo "need_state") rfl)) F fun _ _ _ _ _ _ us hl => match us, hl with | [_, _], _ => rfl
    f_rings := by
      obtain ⟨fd, F⟩ := c.t.d.def_ 17 (d := dd_rings) rfl
      exact funT_of (He.glo_ok X G (c.t.d.fact 17 (f := .glo "rings") rfl)) F fun _ _ _ _ _ _ us hl => match us, hl with | [_, _], _ => rfl
    f_left := by
      obtain ⟨fd, F⟩ := c.t.d.def_ 18 (d := dd_left) rfl
      exact funT_of (He.glo_ok X G (c.t.d.fact 18 (f := .glo "left") rfl)) F fun _ _ _ _ _ _ us hl => match us, hl with | [_, _], _ => rfl
    f_course := by
      obtain ⟨fd, F⟩ := c.t.d.def_ 19 (d := dd_course) rfl
      exact funT_of (He.glo_ok X G (c.t.d.fact 19 (f := .glo "course") rfl)) F fun _ _ _ _ _ _ us hl => match us, hl with | [_, _], _ => rfl
    f_need_index := by
      obtain ⟨fd, F⟩ := c.t.d.def_ 20 (d := dd_need_index) rfl
      exact funT_of (He.glo_ok X G (c.t.d.fact 20 (f := .glo "need_index") rfl)) F fun _ _ _ _ _ _ us hl => match us, hl with | [_, _], _ => rfl
    f_rings_of := by
      obtain ⟨fd, F⟩ := c.t.d.def_ 21 (d := dd_rings_of) rfl
      exact funT_of (He.glo_ok X G (c.t.d.fact 21 (f := .glo "rings_of") rfl)) F fun _ _ _ _ _ _ us hl => match us, hl with | [_], _ => rfl
    f_ring_bounds := by
      obtain ⟨fd, F⟩ := c.t.d.def_ 22 (d := dd_ring_bounds) rfl
      exact funT_of (He.glo_ok X G (c.t.d.fact 22 (f := .glo "ring_bounds") rfl)) F fun _ _ _ _ _ _ us hl => match us, hl with | [_, _], _ => rfl
    f_pieces_of := by
      obtain ⟨fd, F⟩ := c.t.d.def_ 23 (d := dd_pieces_of) rfl
      exact funT_of (He.glo_ok X G (c.t.d.fact 23 (f := .glo "pieces_of") rfl)) F fun _ _ _ _ _ _ us hl => match us, hl with | [_], _ => rfl
    f_left_bounds := by
      obtain ⟨fd, F⟩ := c.t.d.def_ 24 (d := dd_left_bounds) rfl
      exact funT_of (He.glo_ok X G (c.t.d.fact 24 (f := .glo "left_bounds") rfl)) F fun _ _ _ _ _ _ us hl => match us, hl with | [_, _], _ => rfl
    f__law_odd := by
      obtain ⟨fd, F⟩ := c.t.d.def_ 25 (d := dd__law_odd) rfl
      exact funT_of (He.glo_ok X G (c.t.d.fact 25 (f := .glo "_law_odd") rfl)) F fun _ _ _ _ _ _ us hl => match us, hl with | [_, _], _ => rfl
    f__law_bent := by
      obtain ⟨fd, F⟩ := c.t.d.def_ 26 (d := dd__law_bent) rfl
      exact funT_of (He.glo_ok X G (c.t.d.fact 26 (f := .glo "_law_bent") rfl)) F fun _ _ _ _ _ _ us hl => match us, hl with | [_, _], _ => rfl
    f__law_names := by
      obtain ⟨fd, F⟩ := c.t.d.def_ 27 (d := dd__law_names) rfl
      exact funT_of (He.glo_ok X G (c.t.d.fact 27 (f := .glo "_law_names") rfl)) F fun _ _ _ _ _ _ us hl => match us, hl with | [_], _ => rfl
    f__law_error := by
      obtain ⟨fd, F⟩ := c.t.d.def_ 28 (d := dd__law_error) rfl
      exact funT_of (He.glo_ok X G (c.t.d.fact 28 (f := .glo "_law_error") rfl)) F fun _ _ _ _ _ _ us hl => match us, hl with | [_], _ => rfl
    f__law_is_whole := by
      obtain ⟨fd, F⟩ := c.t.d.def_ 29 (d := dd__law_is_whole) rfl
      exact funT_of (He.glo_ok X G (c.t.d.fact 29 (f := .glo "_law_is_whole") rfl)) F fun _ _ _ _ _ _ us hl => match us, hl with | [_, _, _], _ => rfl
    f__law_is_fuses := by
      obtain ⟨fd, F⟩ := c.t.d.def_ 30 (d := dd__law_is_fuses) rfl
      exact funT_of (He.glo_ok X G (c.t.d.fact 30 (f := .glo "_law_is_fuses") rfl)) F fun _ _ _ _ _ _ us hl => match us, hl with | [_], _ => rfl
    f__law_is_step := by
      obtain ⟨fd, F⟩ := c.t.d.def_ 31 (d := dd__law_is_step) rfl
      exact funT_of (He.glo_ok X G (c.t.d.fact 31 (f := .glo "_law_is_step") rfl)) F fun _ _ _ _ _ _ us hl => match us, hl with | [_, _], _ => rfl
    f__law_is_script := by
      obtain ⟨fd, F⟩ := c.t.d.def_ 32 (d := dd__law_is_script) rfl
      exact funT_of (He.glo_ok X G (c.t.d.fact 32 (f := .glo "_law_is_script") rfl)) F fun _ _ _ _ _ _ us hl => match us, hl with | [_], _ => rfl
    f_count_rings := by
      obtain ⟨fd, F⟩ := c.t.d.def_ 33 (d := dd_count_rings) rfl
      exact funT_of (He.glo_ok X G (c.t.d.fact 33 (f := .glo "count_rings") rfl)) F fun _ _ _ _ _ _ us hl => match us, hl with | [_], _ => rfl
    f_count_spots := by
      obtain ⟨fd, F⟩ := c.t.d.def_ 34 (d := dd_count_spots) rfl
      exact funT_of (He.glo_ok X G (c.t.d.fact 34 (f := .glo "count_spots") rfl)) F fun _ _ _ _ _ _ us hl => match us, hl with | [_], _ => rfl
    f_count_pieces := by
      obtain ⟨fd, F⟩ := c.t.d.def_ 35 (d := dd_count_pieces) rfl
      exact funT_of (He.glo_ok X G (c.t.d.fact 35 (f := .glo "count_pieces") rfl)) F fun _ _ _ _ _ _ us hl => match us, hl with | [_], _ => rfl
    f_courses := by
      obtain ⟨fd, F⟩ := c.t.d.def_ 36 (d := dd_courses) rfl
      exact funT_of (He.glo_ok X G (c.t.d.fact 36 (f := .glo "courses") rfl)) F fun _ _ _ _ _ _ us hl => match us, hl with | [_], _ => rfl
    f_sure_rings := by
      obtain ⟨fd, F⟩ := c.t.d.def_ 37 (d := dd_sure_rings) rfl
      exact funT_of (He.glo_ok X G (c.t.d.fact 37 (f := .glo "sure_rings") rfl)) F fun _ _ _ _ _ _ us hl => match us, hl with | [_], _ => rfl
    f_needless := by
      obtain ⟨fd, F⟩ := c.t.d.def_ 38 (d := dd_needless) rfl
      exact funT_of (He.glo_ok X G (c.t.d.fact 38 (f := .glo "needless") rfl)) F fun _ _ _ _ _ _ us hl => match us, hl with | [_], _ => rfl
    f_script_text := by
      obtain ⟨fd, F⟩ := c.t.d.def_ 39 (d := dd_script_text) rfl
      exact funT_of (He.glo_ok X G (c.t.d.fact 39 (f := .glo "script_text") rfl)) F fun _ _ _ _ _ _ us hl => match us, hl with | [_], _ => rfl
    f_divisor := by
      obtain ⟨fd, F⟩ := c.t.d.def_ 40 (d := dd_divisor) rfl
      exact funT_of (He.glo_ok X G (c.t.d.fact 40 (f := .glo "divisor") rfl)) F fun _ _ _ _ _ _ us hl => match us, hl with | [_, _], _ => rfl
    f_is_fraction := by
      obtain ⟨fd, F⟩ := c.t.d.def_ 41 (d := dd_is_fraction) rfl
      exact funT_of (He.glo_ok X G (c.t.d.fact 41 (f := .glo "is_fraction") rfl)) F fun _ _ _ _ _ _ us hl => match us, hl with | [_, _, _, _], _ => rfl
    f_is_time := by
      obtain ⟨fd, F⟩ := c.t.d.def_ 42 (d := dd_is_time) rfl
      exact funT_of (He.glo_ok X G (c.t.d.fact 42 (f := .glo "is_time") rfl)) F fun _ _ _ _ _ _ us hl => match us, hl with | [_], _ => rfl
    f_good_fact := by
      obtain ⟨fd, F⟩ := c.t.d.def_ 43 (d := dd_good_fact) rfl
      exact funT_of (He.glo_ok X G (c.t.d.fact 43 (f := .glo "good_fact") rfl)) F fun _ _ _ _ _ _ us hl => match us, hl with | [_, _], _ => rfl
    f_is_fact := by
      obtain ⟨fd, F⟩ := c.t.d.def_ 44 (d := dd_is_fact) rfl
      exact funT_of (He.glo_ok X G (c.t.d.fact 44 (f := .glo "is_fact") rfl)) F fun _ _ _ _ _ _ us hl => match us, hl with | [_, _], _ => rfl
    f_is_possible := by
      obtain ⟨fd, F⟩ := c.t.d.def_ 45 (d := dd_is_possible) rfl
      exact funT_of (He.glo_ok X G (c.t.d.fact 45 (f := .glo "is_possible") rfl)) F fun _ _ _ _ _ _ us hl => match us, hl with | [_, _], _ => rfl
    f_case := by
      obtain ⟨fd, F⟩ := c.t.d.def_ 46 (d := dd_case) rfl
      exact funT_of (He.glo_ok X G (c.t.d.fact 46 (f := .glo "case") rfl)) F fun _ _ _ _ _ _ us hl => match us, hl with | [_, _], _ => rfl
    f_can_ring := by
      obtain ⟨fd, F⟩ := c.t.d.def_ 47 (d := dd_can_ring) rfl
      exact funT_of (He.glo_ok X G (c.t.d.fact 47 (f := .glo "can_ring") rfl)) F fun _ _ _ _ _ _ us hl => match us, hl with | [_, _], _ => rfl
    f_minutes_with := by
      obtain ⟨fd, F⟩ := c.t.d.def_ 48 (d := dd_minutes_with) rfl
      exact funT_of (He.glo_ok X G (c.t.d.fact 48 (f := .glo "minutes_with") rfl)) F fun _ _ _ _ _ _ us hl => match us, hl with | [_, _], _ => rfl
    f_need_facts := by
      obtain ⟨fd, F⟩ := c.t.d.def_ 49 (d := dd_need_facts) rfl
      exact funT_of (He.glo_ok X G (c.t.d.fact 49 (f := .glo "need_facts") rfl)) F fun _ _ _ _ _ _ us hl => match us, hl with | [_, _], _ => rfl
    f_fits := by
      obtain ⟨fd, F⟩ := c.t.d.def_ 50 (d := dd_fits) rfl
      exact funT_of (He.glo_ok X G (c.t.d.fact 50 (f := .glo "fits") rfl)) F fun _ _ _ _ _ _ us hl => match us, hl with | [_, _], _ => rfl
    f_spot_bounds := by
      obtain ⟨fd, F⟩ := c.t.d.def_ 51 (d := dd_spot_bounds) rfl
      exact funT_of (He.glo_ok X G (c.t.d.fact 51 (f := .glo "spot_bounds") rfl)) F fun _ _ _ _ _ _ us hl => match us, hl with | [_, _, _], _ => rfl
    f_surely := by
      obtain ⟨fd, F⟩ := c.t.d.def_ 52 (d := dd_surely) rfl
      exact funT_of (He.glo_ok X G (c.t.d.fact 52 (f := .glo "surely") rfl)) F fun _ _ _ _ _ _ us hl => match us, hl with | [_, _, _], _ => rfl
    l__law_of_script := by
      obtain ⟨fd, F⟩ := c.t.d.def_ 53 (d := dd__law_of_script) rfl
      exact funTL_of (He.glo_ok X G (c.t.d.fact 53 (f := .glo "_law_of_script") rfl)) F (fun _ _ _ _ _ _ us hl => match us, hl with | [_], _ => rfl) (TB _ (by simp [htf])) rfl (tbl_mem (by simp [htf])) (tbl_one hd (by simp [htf]))
    l_law := by
      obtain ⟨fd, F⟩ := c.t.d.def_ 54 (d := dd_law) rfl
      exact funTL_of (He.glo_ok X G (c.t.d.fact 54 (f := .glo "law") rfl)) F (fun _ _ _ _ _ _ us hl => match us, hl with | [_], _ => rfl) (TB _ (by simp [htf])) rfl (tbl_mem (by simp [htf])) (tbl_one hd (by simp [htf]))
    f_worth := by
      obtain ⟨fd, F⟩ := c.t.d.def_ 55 (d := dd_worth) rfl
      exact funT_of (He.glo_ok X G (c.t.d.fact 55 (f := .glo "worth") rfl)) F fun _ _ _ _ _ _ us hl => match us, hl with | [_, _], _ => rfl
    f_way_of := by
      obtain ⟨fd, F⟩ := c.t.d.def_ 56 (d := dd_way_of) rfl
      exact funT_of (He.glo_ok X G (c.t.d.fact 56 (f := .glo "way_of") rfl)) F fun _ _ _ _ _ _ us hl => match us, hl with | [_], _ => rfl
    b_ValueError := He.free_ok X G (c.t.d.fact 57 (f := .free "ValueError") rfl)
    b_abs := He.free_ok X G (c.t.d.fact 58 (f := .free "abs") rfl)
    b_bool := He.free_ok X G (c.t.d.fact 59 (f := .free "bool") rfl)
    b_int := He.free_ok X G (c.t.d.fact 60 (f := .free "int") rfl)
    b_isinstance := He.free_ok X G (c.t.d.fact 61 (f := .free "isinstance") rfl)
    b_len := He.free_ok X G (c.t.d.fact 62 (f := .free "len") rfl)
    b_list := He.free_ok X G (c.t.d.fact 63 (f := .free "list") rfl)
    b_max := He.free_ok X G (c.t.d.fact 64 (f := .free "max") rfl)
    b_min := He.free_ok X G (c.t.d.fact 65 (f := .free "min") rfl)
    b_range := He.free_ok X G (c.t.d.fact 66 (f := .free "range") rfl)
    b_str := He.free_ok X G (c.t.d.fact 67 (f := .free "str") rfl)
    b_tuple := He.free_ok X G (c.t.d.fact 68 (f := .free "tuple") rfl)
    b_zip := He.free_ok X G (c.t.d.fact 69 (f := .free "zip") rfl)
    c_MOST_SPOTS := glbInt (He.int_ok X G (c.t.d.fact 92 (f := .int "MOST_SPOTS" 2) rfl))
    c_MOST_STEPS := glbInt (He.int_ok X G (c.t.d.fact 93 (f := .int "MOST_STEPS" 12) rfl))
    c_SIDES := glb_of hv_SIDES (He.glo_ok X G (c.t.d.fact 94 (f := .glo "SIDES") rfl))
    g_FuseError := He.glo_ok X G (c.t.d.fact 70 (f := .glo "FuseError") rfl)
    x_InvalidFacts := xcls_of X G (c.t.d.fact 77 (f := .glo "InvalidFacts") rfl) (c.t.d.fact 89 (f := .exc "InvalidFacts") rfl)
    x_InvalidFuses := xcls_of X G (c.t.d.fact 72 (f := .glo "InvalidFuses") rfl) (c.t.d.fact 84 (f := .exc "InvalidFuses") rfl)
    x_InvalidIndex := xcls_of X G (c.t.d.fact 74 (f := .glo "InvalidIndex") rfl) (c.t.d.fact 86 (f := .exc "InvalidIndex") rfl)
    x_InvalidMinutes := xcls_of X G (c.t.d.fact 73 (f := .glo "InvalidMinutes") rfl) (c.t.d.fact 85 (f := .exc "InvalidMinutes") rfl)
    x_InvalidNumber := xcls_of X G (c.t.d.fact 78 (f := .glo "InvalidNumber") rfl) (c.t.d.fact 90 (f := .exc "InvalidNumber") rfl)
    x_InvalidScript := xcls_of X G (c.t.d.fact 71 (f := .glo "InvalidScript") rfl) (c.t.d.fact 83 (f := .exc "InvalidScript") rfl)
    x_InvalidSide := xcls_of X G (c.t.d.fact 75 (f := .glo "InvalidSide") rfl) (c.t.d.fact 87 (f := .exc "InvalidSide") rfl)
    x_InvalidText := ⟨He.glo_ok X G (c.t.d.fact 81 (f := .glo "InvalidText") rfl)⟩
    x_InvalidTimes := xcls_of X G (c.t.d.fact 76 (f := .glo "InvalidTimes") rfl) (c.t.d.fact 88 (f := .exc "InvalidTimes") rfl)
    x_NothingToUndo := xcls_of X G (c.t.d.fact 79 (f := .glo "NothingToUndo") rfl) (c.t.d.fact 91 (f := .exc "NothingToUndo") rfl)
    x_TooMany := ⟨He.glo_ok X G (c.t.d.fact 80 (f := .glo "TooMany") rfl)⟩
    v_alike := He.glo_ok X G (c.t.d.fact 13 (f := .glo "alike") rfl)
    v_can_ring := He.glo_ok X G (c.t.d.fact 47 (f := .glo "can_ring") rfl)
    v_case := He.glo_ok X G (c.t.d.fact 46 (f := .glo "case") rfl)
    v_count_pieces := He.glo_ok X G (c.t.d.fact 35 (f := .glo "count_pieces") rfl)
    v_count_rings := He.glo_ok X G (c.t.d.fact 33 (f := .glo "count_rings") rfl)
    v_count_spots := He.glo_ok X G (c.t.d.fact 34 (f := .glo "count_spots") rfl)
    v_course := He.glo_ok X G (c.t.d.fact 19 (f := .glo "course") rfl)
    v_courses := He.glo_ok X G (c.t.d.fact 36 (f := .glo "courses") rfl)
    v_fits := He.glo_ok X G (c.t.d.fact 50 (f := .glo "fits") rfl)
    v_is_fact := He.glo_ok X G (c.t.d.fact 44 (f := .glo "is_fact") rfl)
    v_is_possible := He.glo_ok X G (c.t.d.fact 45 (f := .glo "is_possible") rfl)
    v_left := He.glo_ok X G (c.t.d.fact 18 (f := .glo "left") rfl)
    v_left_bounds := He.glo_ok X G (c.t.d.fact 24 (f := .glo "left_bounds") rfl)
    v_minutes_with := He.glo_ok X G (c.t.d.fact 48 (f := .glo "minutes_with") rfl)
    v_needless := He.glo_ok X G (c.t.d.fact 38 (f := .glo "needless") rfl)
    v_parting := He.glo_ok X G (c.t.d.fact 14 (f := .glo "parting") rfl)
    v_ring_bounds := He.glo_ok X G (c.t.d.fact 22 (f := .glo "ring_bounds") rfl)
    v_rings := He.glo_ok X G (c.t.d.fact 17 (f := .glo "rings") rfl)
    v_script_text := He.glo_ok X G (c.t.d.fact 39 (f := .glo "script_text") rfl)
    v_spot_bounds := He.glo_ok X G (c.t.d.fact 51 (f := .glo "spot_bounds") rfl)
    v_sure_rings := He.glo_ok X G (c.t.d.fact 37 (f := .glo "sure_rings") rfl)
    v_surely := He.glo_ok X G (c.t.d.fact 52 (f := .glo "surely") rfl)
    er := errsB_ok he }
theorem lawEnd {w : World} {K : PySem.W.Frag} {h : Heap} {mg : Str → Option Value} {fa : Addr} (X : K.In h) (G : h.Ns mainGlobals mg) (hmg : mg ("law" : Str) = some (.ref fa)) (c : He.SaysX hfa hfn [] htf hex w h K) :
    LamX.LawAtS PySem.Challenge.rw_litinmidst_k19_errors_in_order w K (L2N.CX RR.prog w) 33 63 "script" mg fa h := by
  letI : Tbl := tblK K
  letI : Cls := clsK K
  letI : Fad := ⟨He.ga K⟩
  obtain ⟨fd, F⟩ := c.t.d.def_ 54 (d := dd_law) rfl
  have e := hmg.symm.trans (He.glo_ok X G (c.t.d.fact 54 (f := .glo "law") rfl))
  cases e
  have b := FunD.bindsA (ps := ["script"]) F fun _ _ _ _ _ _ us hl => match us, hl with | [_], _ => rfl
  obtain ⟨FL, hcode⟩ := lawL_of (x := "law") (st := s_law) F rfl
  obtain ⟨he, hd, _⟩ := hex_parts c.more
  refine ⟨fd, htf.map (He.cT K), LSp K sp_law, fun p hp => ?_, fun p hp => ?_, fun p hp => ?_, fun s v => b s [v] rfl, fun H a ns hl _ hT hS => ?_, fun base KB GB TB => law_fn (txt_of X G c base TB) FL hcode (TB _ (List.mem_map_of_mem (by simp [htf]))) (tbl_mem (by simp [htf])) (tbl_one hd (by simp [htf]))⟩
  · obtain ⟨q, hq, rfl⟩ := List.mem_map.mp hp; exact c.empty q hq
  · obtain ⟨q, hq, rfl⟩ := List.mem_map.mp hp; exact c.out q hq
  · obtain ⟨q, hq, rfl⟩ := List.mem_map.mp hp; exact PySem.W.codeHd_of_K X (c.hd q hq)
  · refine law_start hS (fun p hp => ?_) fun Qd q => ⟨ns, rfl, q⟩
    obtain ⟨d, hd, rfl⟩ := List.mem_map.mp hp
    exact LamX.TabS.nil (hT _ (List.mem_map_of_mem hd))
end Li
open PySem PySem.W PySem.Calls PyProof.Rows
theorem PySem.Challenge.cw_litinmidst_k19_errors_in_order_holds : PySem.Challenge.rw_litinmidst_k19_errors_in_order.Holds := by
  w_on; o_law
  refine HandSHeadRun.head_any (r := OpenLaw.row PySem.Challenge.rw_litinmidst_k19_errors_in_order) (q := view (OpenLaw.row PySem.Challenge.rw_litinmidst_k19_errors_in_order).prog [140]) (H := Li.hk) (ob := Li.hob) (M := 12000) (loose := Li.looseA) (d := HandSHeadRun.topDef (OpenLaw.row PySem.Challenge.rw_litinmidst_k19_errors_in_order).prog 140) (kwd := []) Li.hob_eq
    (by kernel_rfl) (fun s => by kernel_rfl) Li.hrun (by kernel_rfl) (by kernel_rfl) (by kernel_rfl) (by rfl) (by first | assumption | decide +kernel) (by decide +kernel) ⟨rfl, rfl, rfl, rfl, rfl, by decide +kernel⟩ ?hw ?hc
  case hw => w_witness2
  case hc =>
    refine LamX.walk_ofTsE (l := PySem.Challenge.rw_litinmidst_k19_errors_in_order) (n := 63) (k := 33) (x := "script") (CX := fun w => L2N.CX (OpenLaw.row PySem.Challenge.rw_litinmidst_k19_errors_in_order).prog w) rfl (by decide) (by kernel_rfl) ⟨rfl, by decide, by decide⟩ ?F ?hX
    case hX => exact fun _ _ _ _ _ z => by obtain ⟨_, _, _, _, _, _, _, _, _, _, _, _, z⟩ := z; exact z
    case F =>
      intro w mg fa h Y G hmg0
      obtain ⟨K, KX, c⟩ := Y
      have hmg : mg ("law" : PySem.Str) = some (.ref fa) := by
        have e : (HandSHeadRun.topDef (OpenLaw.row PySem.Challenge.rw_litinmidst_k19_errors_in_order).prog 140).name = ("law" : PySem.Str) := by kernel_rfl
        rw [← e]
        exact hmg0
      exact ⟨K, KX, Li.lawEnd KX G hmg c⟩
