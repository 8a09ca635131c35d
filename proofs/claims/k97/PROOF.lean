import PyProof.Rows.All
import Wide.All
import OpenK.AllK
import Wide.FinOn
import HandS.ForMost
import HandS.Exc
import HandS.WordsExc
import HandS.CallSlots
import HandS.CallLocal
import HandS.Defaults
import HandS.Evl
import HandS.TupAny
import HandS.Star
import HandS.FStr
import HandS.Small
import HandS.Style
import HandS.Text
import HandS.Steps
import HandS.RaiseMore
import HandS.Iter
import HandS.Zip
import HandS.IsInst
import HandS.ExcOwn
import HandS.ReplaceLit
import KE.GoesComp
import KE.GoesRaise
import KE.KAsSuite
import KE.KExcSuper
import KE.KSuper
import HandS.ExcInit
import HandS.ExcField
import PyProof.RulesMatch
import HandS.Dict
import HandS.More
import PyProof.Rows.CallKwBuiltin
import HandS.Lambda
import KE.KNest
import KE.KDictZip
import KE.IntTextLaws
import HandS.EndTab
import HandS.HeadWalk
import HandS.Head2
import HandS.HeadHook4
import HandS.NestedK
import PySem.Challenge.RW_splitscar_k97_texts_of_files_refused
set_option Elab.async false
set_option linter.all false
set_option maxRecDepth 100000
set_option maxHeartbeats 1000000
/-! DL: data, worlds, judgements over HandS. Tuples and frozen lists are values. -/
namespace DL
open PySem PySem.Spec PyProof.Rows L2
open Evl (Ex ex_l ex_t)

/-! ### data -/
inductive D where
  | non | bl (b : Bool) | int (i : Int) | str (x : Str) | ty (n : String) | ref (a : Addr)
  | tup (xs : List D) | lst (xs : List D) | rls (xs : List D)

mutual
/-- v stands for d, over the known heap F -/
def Den (K : PySem.W.Frag) (F : Hp) : D → V → Prop
  | .non, v => v = .non
  | .bl b, v => v = .bl b
  | .int i, v => v = .int i
  | .str x, v => v = .str x
  | .ty n, v => v = .ty n
  | .ref a, v => v = .ref a
  | .tup ds, v => ∃ a xs, v = .ref a ∧ SqT K F a xs ∧ DenL K F ds xs
  | .lst ds, v => ∃ a xs, v = .ref a ∧ F a = some (.lst xs) ∧ DenL K F ds xs
  | .rls ds, v => ∃ a xs, v = .ref a ∧ SqL K F a xs ∧ DenL K F ds xs
def DenL (K : PySem.W.Frag) (F : Hp) : List D → List V → Prop
  | [], vs => vs = []
  | d :: ds, vs => ∃ v r, vs = v :: r ∧ Den K F d v ∧ DenL K F ds r
end

mutual
theorem Den.mono {K : PySem.W.Frag} {F F' : Hp} (e : Ex F F') : ∀ {d : D} {v : V}, Den K F d v → Den K F' d v
  | .non, _, h => h
  | .bl _, _, h => h
  | .int _, _, h => h
  | .str _, _, h => h
  | .ty _, _, h => h
  | .ref _, _, h => h
  | .tup _, _, h => by
    unfold Den at h ⊢
    obtain ⟨a, xs, e1, h1, h2⟩ := h
    exact ⟨a, xs, e1, ex_t e h1, DenL.mono e h2⟩
  | .lst _, _, h => by
    unfold Den at h ⊢
    obtain ⟨a, xs, e1, h1, h2⟩ := h
    exact ⟨a, xs, e1, e _ _ h1, DenL.mono e h2⟩
  | .rls _, _, h => by
    unfold Den at h ⊢
    obtain ⟨a, xs, e1, h1, h2⟩ := h
    exact ⟨a, xs, e1, ex_l e h1, DenL.mono e h2⟩
theorem DenL.mono {K : PySem.W.Frag} {F F' : Hp} (e : Ex F F') : ∀ {ds : List D} {vs : List V}, DenL K F ds vs → DenL K F' ds vs
  | [], _, h => h
  | _ :: _, _, h => by
    unfold DenL at h ⊢
    obtain ⟨v, r, e1, h1, h2⟩ := h
    exact ⟨v, r, e1, Den.mono e h1, DenL.mono e h2⟩
end
section
variable {K : PySem.W.Frag} {F F' : Hp}
theorem denL_nil {vs : List V} (h : DenL K F [] vs) : vs = [] := by unfold DenL at h; exact h
theorem DenL.nil : DenL K F [] [] := by unfold DenL; rfl
theorem DenL.cons {d : D} {v : V} {ds : List D} {vs : List V} (h : Den K F d v) (t : DenL K F ds vs) : DenL K F (d :: ds) (v :: vs) := by
  unfold DenL; exact ⟨v, vs, rfl, h, t⟩
theorem denL_cons {d : D} {ds : List D} {vs : List V} (h : DenL K F (d :: ds) vs) : ∃ v r, vs = v :: r ∧ Den K F d v ∧ DenL K F ds r := by
  unfold DenL at h; exact h
theorem DenL.len : ∀ {ds : List D} {vs : List V}, DenL K F ds vs → ds.length = vs.length
  | [], vs, h => by rw [denL_nil h]; rfl
  | d :: ds, vs, h => by
    obtain ⟨v, r, rfl, _, h2⟩ := denL_cons h
    exact congrArg Nat.succ (DenL.len h2)
theorem DenL.at : ∀ {ds : List D} {vs : List V} {i : Nat} {d : D}, DenL K F ds vs → ds[i]? = some d → ∃ v, vs[i]? = some v ∧ Den K F d v
  | [], vs, i, d, h, e => by simp at e
  | d :: ds, vs, 0, d', h, e => by
    obtain ⟨v, r, rfl, h1, h2⟩ := denL_cons h
    simp at e; subst e
    exact ⟨v, rfl, h1⟩
  | d :: ds, vs, i + 1, d', h, e => by
    obtain ⟨v, r, rfl, h1, h2⟩ := denL_cons h
    exact DenL.at (i := i) h2 (by simpa using e)
theorem DenL.at' : ∀ {ds : List D} {vs : List V} {i : Nat} {v : V}, DenL K F ds vs → vs[i]? = some v → ∃ d, ds[i]? = some d ∧ Den K F d v
  | [], vs, i, d, h, e => by rw [denL_nil h] at e; simp at e
  | d :: ds, vs, 0, v', h, e => by
    obtain ⟨v, r, rfl, h1, h2⟩ := denL_cons h
    simp at e; subst e
    exact ⟨d, rfl, h1⟩
  | d :: ds, vs, i + 1, v', h, e => by
    obtain ⟨v, r, rfl, h1, h2⟩ := denL_cons h
    exact DenL.at' (i := i) h2 (by simpa using e)
theorem DenL.append : ∀ {ds es : List D} {vs us : List V}, DenL K F ds vs → DenL K F es us → DenL K F (ds ++ es) (vs ++ us)
  | [], es, vs, us, h, g => by rw [denL_nil h]; exact g
  | d :: ds, es, vs, us, h, g => by
    obtain ⟨v, r, rfl, h1, h2⟩ := denL_cons h
    exact DenL.cons h1 (DenL.append h2 g)
theorem DenL.take : ∀ {ds : List D} {vs : List V} (n : Nat), DenL K F ds vs → DenL K F (ds.take n) (vs.take n)
  | _, _, 0, _ => by simp; exact DenL.nil
  | [], vs, n + 1, h => by rw [denL_nil h]; simp; exact DenL.nil
  | d :: ds, vs, n + 1, h => by
    obtain ⟨v, r, rfl, h1, h2⟩ := denL_cons h
    exact DenL.cons h1 (DenL.take n h2)
theorem DenL.drop : ∀ {ds : List D} {vs : List V} (n : Nat), DenL K F ds vs → DenL K F (ds.drop n) (vs.drop n)
  | _, _, 0, h => by simpa using h
  | [], vs, n + 1, h => by rw [denL_nil h]; simp; exact DenL.nil
  | d :: ds, vs, n + 1, h => by
    obtain ⟨v, r, rfl, h1, h2⟩ := denL_cons h
    exact DenL.drop n h2
theorem DenL.reverse : ∀ {ds : List D} {vs : List V}, DenL K F ds vs → DenL K F ds.reverse vs.reverse
  | [], vs, h => by rw [denL_nil h]; exact DenL.nil
  | d :: ds, vs, h => by
    obtain ⟨v, r, rfl, h1, h2⟩ := denL_cons h
    rw [List.reverse_cons, List.reverse_cons]
    exact DenL.append (DenL.reverse h2) (DenL.cons h1 DenL.nil)
theorem DenL.set {d : D} {v : V} (hd : Den K F d v) : ∀ {ds : List D} {vs : List V} (i : Nat), DenL K F ds vs → DenL K F (ds.set i d) (vs.set i v)
  | [], vs, i, h => by rw [denL_nil h]; exact DenL.nil
  | d' :: ds, vs, 0, h => by
    obtain ⟨v', r, rfl, h1, h2⟩ := denL_cons h
    exact DenL.cons hd h2
  | d' :: ds, vs, i + 1, h => by
    obtain ⟨v', r, rfl, h1, h2⟩ := denL_cons h
    exact DenL.cons h1 (DenL.set hd i h2)
/-- written values -/
theorem DenL.ints (ns : List Int) : DenL K F (ns.map .int) (ns.map V.int) := by
  induction ns with
  | nil => exact DenL.nil
  | cons n ns ih => exact DenL.cons (by unfold Den; rfl) ih
end

/-! ### worlds -/
inductive DO where
  | lst (xs : List D)
  | dK (kvs : List (Key × D))
  | ins (C : Addr) (fs : List (Str × D))
  | raw (o : HO)
abbrev Wd := Addr → Option DO
abbrev Rho := List (Option D)
def wupd (w : Wd) (a : Addr) (o : DO) : Wd := fun b => if b = a then some o else w b
def wdel (w : Wd) (a : Addr) : Wd := fun b => if b = a then none else w b
@[simp] theorem wupd_same {w : Wd} {a : Addr} {o : DO} : wupd w a o a = some o := by unfold wupd; rw [if_pos rfl]
theorem wupd_ne {w : Wd} {a b : Addr} {o : DO} (h : b ≠ a) : wupd w a o b = w b := by unfold wupd; rw [if_neg h]
theorem wdel_same {w : Wd} {a : Addr} : wdel w a a = none := by unfold wdel; rw [if_pos rfl]
theorem wdel_ne {w : Wd} {a b : Addr} (h : b ≠ a) : wdel w a b = w b := by unfold wdel; rw [if_neg h]
@[simp] theorem wupd_upd {w : Wd} {a : Addr} {o u : DO} : wupd (wupd w a o) a u = wupd w a u := by
  funext b; unfold wupd; by_cases h : b = a <;> simp [h]
theorem wdel_upd {w : Wd} {a : Addr} {o : DO} (h : w a = none) : wdel (wupd w a o) a = w := by
  funext b; unfold wdel wupd; by_cases e : b = a
  · subst e; simp [h]
  · simp [e]
theorem wupd_self {w : Wd} {a : Addr} {o : DO} (h : w a = some o) : wupd w a o = w := by
  funext b; unfold wupd; by_cases e : b = a
  · subst e; simp [h]
  · simp [e]
theorem wne_of {w : Wd} {a b : Addr} {o : DO} (h : w a = some o) (h' : w b = none) : a ≠ b := fun e => by
  subst e; rw [h] at h'; cases h'
/-- more is known in w' -/
def WLe (w w' : Wd) : Prop := ∀ a o, w a = some o → w' a = some o
theorem WLe.refl (w : Wd) : WLe w w := fun _ _ h => h
theorem WLe.trans {a b c : Wd} (h : WLe a b) (g : WLe b c) : WLe a c := fun x o e => g x o (h x o e)
theorem WLe.new {w : Wd} {a : Addr} {o : DO} (h : w a = none) : WLe w (wupd w a o) := fun b u e => by
  rw [wupd_ne (wne_of e h)]; exact e
theorem WLe.upd {w w' : Wd} {a : Addr} {o : DO} (k : WLe w w') : WLe (wupd w a o) (wupd w' a o) := fun b u e => by
  unfold wupd at e ⊢
  by_cases h : b = a
  · simp [h] at e ⊢; exact e
  · simp [h] at e ⊢; exact k _ _ e
theorem WLe.updN {w w' : Wd} {a : Addr} {o : DO} (k : WLe w w') (h : w a = none) : WLe w (wupd w' a o) := fun b u e => by
  rw [wupd_ne (wne_of e h)]; exact k _ _ e

inductive DenKV (K : PySem.W.Frag) (F : Hp) : List (Key × D) → List (Key × V) → Prop where
  | nil : DenKV K F [] []
  | cons {k : Key} {d : D} {v : V} {l m} (h : Den K F d v) (t : DenKV K F l m) : DenKV K F ((k, d) :: l) ((k, v) :: m)
inductive DenF (K : PySem.W.Frag) (F : Hp) : List (Str × D) → List (Str × V) → Prop where
  | nil : DenF K F [] []
  | cons {k : Str} {d : D} {v : V} {l m} (h : Den K F d v) (t : DenF K F l m) : DenF K F ((k, d) :: l) ((k, v) :: m)
section
variable {K : PySem.W.Frag} {F F' : Hp}
theorem DenKV.mono (e : Ex F F') {l : List (Key × D)} {m : List (Key × V)} (h : DenKV K F l m) : DenKV K F' l m := by
  induction h with
  | nil => exact .nil
  | cons h _ ih => exact .cons (h.mono e) ih
theorem DenF.mono (e : Ex F F') {l : List (Str × D)} {m : List (Str × V)} (h : DenF K F l m) : DenF K F' l m := by
  induction h with
  | nil => exact .nil
  | cons h _ ih => exact .cons (h.mono e) ih
theorem DenF.look {f : Str} {d : D} {l : List (Str × D)} {m : List (Str × V)} (h : DenF K F l m) (e : l.lookup f = some d) : ∃ v, m.lookup f = some v ∧ Den K F d v := by
  induction h with
  | nil => cases e
  | @cons k d' v' l m h _ ih =>
    simp only [List.lookup] at e ⊢
    by_cases hk : (f == k) = true
    · simp [hk] at e ⊢; subst e; exact h
    · have hk' : (f == k) = false := by simpa using hk
      simp [hk'] at e ⊢; exact ih e
theorem DenF.out {f : Str} {l : List (Str × D)} {m : List (Str × V)} (h : DenF K F l m) (e : l.lookup f = none) : m.lookup f = none := by
  induction h with
  | nil => rfl
  | @cons k d' v' l m h _ ih =>
    simp only [List.lookup] at e ⊢
    cases hk : (f == k) with
    | true => rw [hk] at e; cases e
    | false => rw [hk] at e; exact ih e
theorem DenF.len {l : List (Str × D)} {m : List (Str × V)} (h : DenF K F l m) : l.length = m.length := by
  induction h with
  | nil => rfl
  | cons _ _ ih => exact congrArg Nat.succ ih
def putD (f : Str) (v : D) : List (Str × D) → List (Str × D)
  | [] => [(f, v)]
  | (g, x) :: r => if g = f then (g, v) :: r else (g, x) :: putD f v r
theorem DenF.put {f : Str} {d : D} {v : V} (hd : Den K F d v) {l : List (Str × D)} {m : List (Str × V)} (h : DenF K F l m) : DenF K F (putD f d l) (putF f v m) := by
  induction h with
  | nil => exact .cons hd .nil
  | @cons k d' v' l m h t ih =>
    unfold putD putF
    by_cases hk : k = f
    · rw [if_pos hk, if_pos hk]; exact .cons hd t
    · rw [if_neg hk, if_neg hk]; exact .cons h ih
end
def DenO (K : PySem.W.Frag) (F H : Hp) (a : Addr) : DO → Prop
  | .lst ds => ∃ xs, H a = some (.lst xs) ∧ DenL K F ds xs
  | .dK kvs => ∃ ms, H a = some (.dK ms) ∧ DenKV K F kvs ms
  | .ins C fs => ∃ dx gs, H a = some (.ins C dx gs) ∧ DenF K F fs gs
  | .raw o => H a = some o
theorem DenO.mono {K : PySem.W.Frag} {F F' H : Hp} {a : Addr} (e : Ex F F') : ∀ {o : DO}, DenO K F H a o → DenO K F' H a o
  | .lst _, ⟨xs, h, t⟩ => ⟨xs, h, t.mono e⟩
  | .dK _, ⟨xs, h, t⟩ => ⟨xs, h, t.mono e⟩
  | .ins _ _, ⟨dx, xs, h, t⟩ => ⟨dx, xs, h, t.mono e⟩
  | .raw _, h => h
theorem DenO.there {K : PySem.W.Frag} {F H : Hp} {a : Addr} : ∀ {o : DO}, DenO K F H a o → ∃ u, H a = some u
  | .lst _, ⟨_, h, _⟩ => ⟨_, h⟩
  | .dK _, ⟨_, h, _⟩ => ⟨_, h⟩
  | .ins _ _, ⟨_, _, h, _⟩ => ⟨_, h⟩
  | .raw _, h => ⟨_, h⟩
theorem DenO.at {K : PySem.W.Frag} {F H H' : Hp} {a : Addr} (e : H' a = H a) : ∀ {o : DO}, DenO K F H a o → DenO K F H' a o
  | .lst _, ⟨xs, h, t⟩ => ⟨xs, e.trans h, t⟩
  | .dK _, ⟨xs, h, t⟩ => ⟨xs, e.trans h, t⟩
  | .ins _ _, ⟨dx, xs, h, t⟩ => ⟨dx, xs, e.trans h, t⟩
  | .raw _, h => e.trans h

/-- the abstract heap H holds the known F and the world w -/
structure RelH (K : PySem.W.Frag) (F : Hp) (w : Wd) (H : Hp) : Prop where
  ex : Ex F H
  obj : ∀ a o, w a = some o → F a = none ∧ DenO K F H a o
/-- the slots -/
structure RelR (K : PySem.W.Frag) (F : Hp) (ρ : Rho) (σ : L2.St) : Prop where
  len : ρ.length = σ.length
  at_ : ∀ (i : Nat) d, ρ[i]? = some (some d) → ∃ v, σ[i]? = some (some v) ∧ Den K F d v
section
variable {K : PySem.W.Frag} {F F' H : Hp} {w w' : Wd} {ρ : Rho} {σ : L2.St}
theorem RelR.mono (e : Ex F F') (r : RelR K F ρ σ) : RelR K F' ρ σ := ⟨r.len, fun i d h => by
  obtain ⟨v, h1, h2⟩ := r.at_ i d h
  exact ⟨v, h1, h2.mono e⟩⟩
theorem RelR.set {i : Nat} {d : D} {v : V} (r : RelR K F ρ σ) (hd : Den K F d v) : RelR K F (ρ.set i (some d)) (σ.set i (some v)) := by
  refine ⟨by simp [r.len], fun j e h => ?_⟩
  rw [List.getElem?_set] at h ⊢
  by_cases hj : i = j
  · subst hj
    rw [if_pos rfl] at h ⊢
    by_cases hl : i < ρ.length
    · have hl' : i < σ.length := by rw [← r.len]; exact hl
      rw [if_pos hl] at h
      rw [if_pos hl']
      cases h
      exact ⟨v, rfl, hd⟩
    · rw [if_neg hl] at h; cases h
  · rw [if_neg hj] at h ⊢
    exact r.at_ j e h
theorem RelR.unset {i : Nat} {o : Option V} (r : RelR K F ρ σ) : RelR K F (ρ.set i none) (σ.set i o) := by
  refine ⟨by simp [r.len], fun j e h => ?_⟩
  rw [List.getElem?_set] at h ⊢
  by_cases hj : i = j
  · subst hj
    rw [if_pos rfl] at h
    by_cases hl : i < ρ.length
    · rw [if_pos hl] at h; cases h
    · rw [if_neg hl] at h; cases h
  · rw [if_neg hj] at h ⊢
    exact r.at_ j e h
theorem RelH.fresh (r : RelH K F w H) {p : Addr} (h : H p = none) : F p = none ∧ w p = none := by
  constructor
  · cases e : F p with
    | none => rfl
    | some o => rw [r.ex p o e] at h; cases h
  · cases e : w p with
    | none => rfl
    | some o =>
      obtain ⟨u, hu⟩ := (r.obj p o e).2.there
      rw [hu] at h; cases h
theorem RelH.weak (r : RelH K F w H) (l : WLe w' w) : RelH K F w' H := ⟨r.ex, fun a o h => r.obj a o (l a o h)⟩
/-- a new object, known -/
theorem RelH.newF (r : RelH K F w H) {p : Addr} (h : H p = none) (o : HO) : RelH K (upd F p o) w (upd H p o) := by
  refine ⟨fun a u e => ?_, fun a u e => ?_⟩
  · by_cases ha : a = p
    · subst ha; rw [upd_same] at e ⊢; exact e
    · rw [upd_ne ha] at e ⊢; exact r.ex a u e
  · have ha : a ≠ p := fun z => by subst z; rw [(r.fresh h).2] at e; cases e
    obtain ⟨h1, h2⟩ := r.obj a u e
    refine ⟨by rw [upd_ne ha]; exact h1, ?_⟩
    exact ((h2.mono (Ex.new (r.fresh h).1)).at (upd_ne ha))
/-- a new object, unknown -/
theorem RelH.newU (r : RelH K F w H) {p : Addr} (h : H p = none) (o : HO) : RelH K F w (upd H p o) := by
  refine ⟨fun a u e => ?_, fun a u e => ?_⟩
  · have ha : a ≠ p := fun z => by subst z; rw [(r.fresh h).1] at e; cases e
    rw [upd_ne ha]; exact r.ex a u e
  · have ha : a ≠ p := fun z => by subst z; rw [(r.fresh h).2] at e; cases e
    obtain ⟨h1, h2⟩ := r.obj a u e
    exact ⟨h1, h2.at (upd_ne ha)⟩
/-- an object of the world written, or a new one laid -/
theorem RelH.write (r : RelH K F w H) {p : Addr} (h : F p = Option.none) {o : HO} {u : DO} (hu : DenO K F (upd H p o) p u) : RelH K F (wupd w p u) (upd H p o) := by
  refine ⟨fun a v e => ?_, fun a v e => ?_⟩
  · have ha : a ≠ p := fun z => by subst z; rw [h] at e; cases e
    rw [upd_ne ha]; exact r.ex a v e
  · by_cases ha : a = p
    · subst ha
      rw [wupd_same] at e; cases e
      exact ⟨h, hu⟩
    · rw [wupd_ne ha] at e
      obtain ⟨h1, h2⟩ := r.obj a v e
      exact ⟨h1, h2.at (upd_ne ha)⟩
theorem RelH.newW (r : RelH K F w H) {p : Addr} (h : H p = Option.none) {o : HO} {u : DO} (hu : DenO K F (upd H p o) p u) : RelH K F (wupd w p u) (upd H p o) :=
  r.write (r.fresh h).1 hu
/-- a list of the world frozen -/
theorem RelH.freeze (r : RelH K F w H) {a : Addr} {ds : List D} (h : w a = some (.lst ds)) : ∃ F', Ex F F' ∧ RelH K F' (wdel w a) H ∧ Den K F' (.lst ds) (.ref a) := by
  obtain ⟨h1, xs, h2, h3⟩ := r.obj a _ h
  have e : Ex F (upd F a (.lst xs)) := Ex.new h1
  refine ⟨upd F a (.lst xs), e, ⟨fun b u q => ?_, fun b u q => ?_⟩, ?_⟩
  · by_cases hb : b = a
    · subst hb; rw [upd_same] at q; cases q; exact h2
    · rw [upd_ne hb] at q; exact r.ex b u q
  · have hb : b ≠ a := fun z => by subst z; rw [wdel_same] at q; cases q
    rw [wdel_ne hb] at q
    obtain ⟨g1, g2⟩ := r.obj b u q
    exact ⟨by rw [upd_ne hb]; exact g1, g2.mono e⟩
  · unfold Den
    exact ⟨a, xs, rfl, upd_same, h3.mono e⟩
end
end DL
set_option Elab.async false
set_option linter.all false
set_option maxRecDepth 100000
set_option maxHeartbeats 1000000
/-! DL2: judgements; defs; names, operators, tests, statements, loops. -/
namespace DL
open PySem PySem.Spec PyProof.Rows L2
open Evl (Ex ex_l ex_t)

/-! ### exceptions, readings -/
inductive XC where
  | own (C : Addr) (fs : List (Str × D))
  | bi (n : String)
def DenX (K : PySem.W.Frag) (F : Hp) : XC → Value → Option Addr → Prop
  | .own C fs, cls, o => cls = .ref C ∧ ((fs = [] ∧ o = none) ∨ ∃ dx gs, o = some dx ∧ F dx = some (.xd gs) ∧ DenF K F fs gs)
  | .bi n, cls, o => cls = .type n ∧ o = none
abbrev VKD := D → Wd → Prop
abbrev XDp := XC → Wd → Prop
abbrev XD := XC → Rho → Wd → Prop
abbrev TED := XD → Rho → Wd → VKD → Prop
abbrev TTD := XD → Rho → Wd → (Bool → Wd → Prop) → Prop
abbrev TAD := XD → Rho → Wd → (List D → Wd → Prop) → Prop
structure EndsD where
  nx : Rho → Wd → Prop
  rt : VKD
  bk : Rho → Wd → Prop := fun _ _ => False
  ct : Rho → Wd → Prop := fun _ _ => False
abbrev TSD := XD → EndsD → Rho → Wd → Prop
abbrev TGD := D → Rho → Wd → (Rho → Wd → Prop) → Prop
abbrev TGsD := List D → Rho → Wd → (Rho → Wd → Prop) → Prop
abbrev TID := XD → Rho → Wd → (List D → Wd → Prop) → Prop

structure At (K : PySem.W.Frag) (F0 F : Hp) (ρ : Rho) (w : Wd) (σ : L2.St) (H : Hp) : Prop where
  e0 : Ex F0 F
  h : RelH K F w H
  r : RelR K F ρ σ
theorem At.step {K : PySem.W.Frag} {F0 F F' : Hp} {ρ : Rho} {w w' : Wd} {σ : L2.St} {H H' : Hp} (a : At K F0 F ρ w σ H) (e : Ex F F') (h : RelH K F' w' H') : At K F0 F' ρ w' σ H' := ⟨a.e0.trans e, h, a.r.mono e⟩
theorem At.stepR {K : PySem.W.Frag} {F0 F F' : Hp} {ρ ρ' : Rho} {w w' : Wd} {σ σ' : L2.St} {H H' : Hp} (a : At K F0 F ρ w σ H) (e : Ex F F') (h : RelH K F' w' H') (r : RelR K F' ρ' σ') : At K F0 F' ρ' w' σ' H' := ⟨a.e0.trans e, h, r⟩
def WishOk (K : PySem.W.Frag) (W : WX) (F0 : Hp) (E : XD) : Prop := ∀ x F w ρ σ H cls o, At K F0 F ρ w σ H → DenX K F x cls o → E x ρ w → W cls o σ H
/-- what a value's end is to be on the abstract heap -/
def EndV (K : PySem.W.Frag) (F : Hp) (Qd : VKD) (Q : VK) : Prop := ∀ d w' F' v H', Ex F F' → RelH K F' w' H' → Den K F' d v → Qd d w' → Q v H'
def EndB (K : PySem.W.Frag) (F : Hp) (Qd : Bool → Wd → Prop) (Q : Bool → Hp → Prop) : Prop := ∀ b w' F' H', Ex F F' → RelH K F' w' H' → Qd b w' → Q b H'
def EndL (K : PySem.W.Frag) (F : Hp) (Qd : List D → Wd → Prop) (Q : List V → Hp → Prop) : Prop := ∀ ds w' F' vs H', Ex F F' → RelH K F' w' H' → DenL K F' ds vs → Qd ds w' → Q vs H'
def EndR (K : PySem.W.Frag) (F : Hp) (Qd : Rho → Wd → Prop) (Q : L2.St → Hp → Prop) : Prop := ∀ ρ' w' F' σ' H', Ex F F' → RelH K F' w' H' → RelR K F' ρ' σ' → Qd ρ' w' → Q σ' H'
structure EndS (K : PySem.W.Frag) (F : Hp) (De : EndsD) (D : Ends) : Prop where
  nx : EndR K F De.nx D.nx
  rt : EndV K F De.rt D.rt
  bk : EndR K F De.bk D.bk
  ct : EndR K F De.ct D.ct
section
variable {K : PySem.W.Frag} {F F' : Hp}
theorem EndV.mono (e : Ex F F') {Qd : VKD} {Q : VK} (h : EndV K F Qd Q) : EndV K F' Qd Q := fun d w' F2 v H' e2 => h d w' F2 v H' (e.trans e2)
theorem EndB.mono (e : Ex F F') {Qd : Bool → Wd → Prop} {Q : Bool → Hp → Prop} (h : EndB K F Qd Q) : EndB K F' Qd Q := fun d w' F2 H' e2 => h d w' F2 H' (e.trans e2)
theorem EndL.mono (e : Ex F F') {Qd : List D → Wd → Prop} {Q : List V → Hp → Prop} (h : EndL K F Qd Q) : EndL K F' Qd Q := fun d w' F2 v H' e2 => h d w' F2 v H' (e.trans e2)
theorem EndR.mono (e : Ex F F') {Qd : Rho → Wd → Prop} {Q : L2.St → Hp → Prop} (h : EndR K F Qd Q) : EndR K F' Qd Q := fun d w' F2 v H' e2 => h d w' F2 v H' (e.trans e2)
theorem EndS.mono (e : Ex F F') {De : EndsD} {D : Ends} (h : EndS K F De D) : EndS K F' De D := ⟨h.nx.mono e, h.rt.mono e, h.bk.mono e, h.ct.mono e⟩
end
structure DE (X : Cx) (W : WX) (e : Expr) (t : TED) : Prop where
  ex : ∃ te, PE X e te ∧ ∀ F0 E, WishOk X.K W F0 E → ∀ F ρ w σ H Qd Q, At X.K F0 F ρ w σ H → t E ρ w Qd → EndV X.K F Qd Q → te σ H Q
structure DT (X : Cx) (W : WX) (e : Expr) (t : TTD) : Prop where
  ex : ∃ te, PT X e te ∧ ∀ F0 E, WishOk X.K W F0 E → ∀ F ρ w σ H Qd Q, At X.K F0 F ρ w σ H → t E ρ w Qd → EndB X.K F Qd Q → te σ H Q
structure DW (X : Cx) (W : WX) (e : Expr) (t : TTD) : Prop where
  ex : ∃ te, PW X e te ∧ ∀ F0 E, WishOk X.K W F0 E → ∀ F ρ w σ H Qd Q, At X.K F0 F ρ w σ H → t E ρ w Qd → EndB X.K F Qd Q → te σ H Q
structure DA (X : Cx) (W : WX) (es : List Expr) (t : TAD) : Prop where
  ex : ∃ te, PA X es te ∧ ∀ F0 E, WishOk X.K W F0 E → ∀ F ρ w σ H Qd Q, At X.K F0 F ρ w σ H → t E ρ w Qd → EndL X.K F Qd Q → te σ H Q
structure DS (X : Cx) (W : WX) (st : Stmt) (t : TSD) : Prop where
  ex : ∃ ts, PS X st ts ∧ ∀ F0 E, WishOk X.K W F0 E → ∀ F ρ w σ H De D, At X.K F0 F ρ w σ H → t E De ρ w → EndS X.K F De D → ts D σ H
structure DSs (X : Cx) (W : WX) (sts : List Stmt) (t : TSD) : Prop where
  ex : ∃ ts, PSs X sts ts ∧ ∀ F0 E, WishOk X.K W F0 E → ∀ F ρ w σ H De D, At X.K F0 F ρ w σ H → t E De ρ w → EndS X.K F De D → ts D σ H
/-- a target; vs: the slots that it sets -/
structure DG (X : Cx) (vs : List Nat) (e : Expr) (g : TGD) : Prop where
  ex : ∃ tg, PG X e tg ∧ (∀ F ρ w σ H d v Qd Q, RelH X.K F w H → RelR X.K F ρ σ → Den X.K F d v → g d ρ w Qd → EndR X.K F Qd Q → tg v σ H Q) ∧
    ∀ vs', (∀ i ∈ vs, i ∈ vs') → ∀ v σ H (Q Q' : L2.St → Hp → Prop), tg v σ H Q → (∀ σ' H', wipe σ' vs' = wipe σ vs' → Q σ' H' → Q' σ' H') → tg v σ H Q'
structure DGs (X : Cx) (vs : List Nat) (es : List Expr) (g : TGsD) : Prop where
  ex : ∃ tg, PGs X es tg ∧ (∀ F ρ w σ H ds us Qd Q, RelH X.K F w H → RelR X.K F ρ σ → DenL X.K F ds us → g ds ρ w Qd → EndR X.K F Qd Q → tg us σ H Q) ∧
    ∀ vs', (∀ i ∈ vs, i ∈ vs') → ∀ us σ H (Q Q' : L2.St → Hp → Prop), tg us σ H Q → (∀ σ' H', wipe σ' vs' = wipe σ vs' → Q σ' H' → Q' σ' H') → tg us σ H Q'
/-- ds are the items that J yields, from the known heap F0 on -/
structure ItD (K : PySem.W.Frag) (F0 : Hp) (ds : List D) (J : It) : Prop where
  go : ∀ i F w H, i < ds.length → Ex F0 F → RelH K F w H → J.go i H
  yld : ∀ i d F w H x H', ds[i]? = some d → Ex F0 F → RelH K F w H → J.yld i H x H' → ∃ F', Ex F F' ∧ RelH K F' w H' ∧ Den K F' d x
  stop : ∀ F w H, Ex F0 F → RelH K F w H → J.stop ds.length H
structure DI (X : Cx) (W : WX) (tg iter : Expr) (t : TID) : Prop where
  ex : ∃ ti, PI X tg iter ti ∧ ∀ F0 E, WishOk X.K W F0 E → ∀ F ρ w σ H Qd R, At X.K F0 F ρ w σ H → t E ρ w Qd →
    (∀ ds w' F' J H', Ex F F' → RelH X.K F' w' H' → ItD X.K F' ds J → Qd ds w' → R J H') → ti σ H R

/-! ### promises -/
abbrev SpD := List D → Wd → XDp → VKD → Prop
structure EndC (K : PySem.W.Frag) (F : Hp) (Ed : XDp) (E : XK) : Prop where
  x : ∀ x w' F' cls o H', Ex F F' → RelH K F' w' H' → DenX K F' x cls o → Ed x w' → E cls o H'
def toSp (K : PySem.W.Frag) (n : Nat) (sp : SpD) : Sp := fun vs H Q E => ∃ F w ds Ed Qd, RelH K F w H ∧ DenL K F ds vs ∧ ds.length = n ∧ sp ds w Ed Qd ∧ EndV K F Qd Q ∧ EndC K F Ed E
structure RoomG (k : Nat) (A : Around) : Prop where
  r : Room k A
  g : A.guards = some []
theorem RoomG.mono {j k : Nat} {A : Around} (r : RoomG k A) (h : j ≤ k) : RoomG j A := ⟨r.r.mono h, r.g⟩
theorem RoomG.deeper {k : Nat} {A : Around} (r : RoomG (k + 1) A) (env : Env) : RoomG k (A.deeper env) := ⟨r.r.deeper env, r.g⟩
theorem RoomG.make {k : Nat} {A : Around} (r : RoomG (k + 1) A) (C : Addr) (us : List Value) (kw : List (Str × Value)) : RoomG k (A.under (.builtin "type.__call__" ⟨.ref C :: us, kw⟩)) := ⟨r.r.make C us kw, by
  unfold Around.under
  rw [r.g]
  rfl⟩
theorem RoomG.hu {k : Nat} {A : Around} (r : RoomG k A) : A.units + 64 < cLine := r.r.units
structure FnG (P : Program) (w : World) (K : PySem.W.Frag) (mg : Str → Option Value) (base : Heap) (k : Nat) (f : Addr) (fd : FuncData) (ps : List Str) (sp : Sp) : Prop where
  len : ∀ vs H Q E, sp vs H Q E → vs.length = ps.length
  run : ∀ (A : Around) (outer : List Env) (s : Shared) (H : Hp) (args : Args) (us : List Value) (vs : List V) (Q : VK) (E : XK), RoomG k A → Env0 P w K mg base A outer s H → BindsTo s fd args (ps.zip us) → Vals vs us → sp vs H Q E →
    codeAny (model P w) A (.call (.ref f) args) (CR (L2.CX P w) outer P w H s Q E) s
theorem FnG.mono {P : Program} {w : World} {K : PySem.W.Frag} {mg : Str → Option Value} {base : Heap} {j k : Nat} {f : Addr} {fd : FuncData} {ps : List Str} {sp : Sp} (F : FnG P w K mg base j f fd ps sp) (h : j ≤ k) : FnG P w K mg base k f fd ps sp :=
  ⟨F.len, fun A outer s H args us vs Q E hr => F.run A outer s H args us vs Q E (hr.mono h)⟩
theorem FnG.imp {P : Program} {w : World} {K : PySem.W.Frag} {mg : Str → Option Value} {base : Heap} {k n : Nat} {f : Addr} {fd : FuncData} {ps : List Str} {sp sp' : SpD} (F : FnG P w K mg base k f fd ps (toSp K n sp)) (h : ∀ ds w E Q, sp' ds w E Q → sp ds w E Q) : FnG P w K mg base k f fd ps (toSp K n sp') := by
  have g : ∀ vs H Q E, toSp K n sp' vs H Q E → toSp K n sp vs H Q E := fun vs H Q E ⟨F', w', ds, Ed, Qd, a, b, c, d, e⟩ => ⟨F', w', ds, Ed, Qd, a, b, c, h _ _ _ _ d, e⟩
  exact ⟨fun vs H Q E q => F.len vs H Q E (g _ _ _ _ q), fun A outer s H args us vs Q E hr e0 hb r q => F.run A outer s H args us vs Q E hr e0 hb r (g _ _ _ _ q)⟩
abbrev cxD (P : Program) (w : World) (K : PySem.W.Frag) (mg : Str → Option Value) (base : Heap) (N : List Str) (qual : Str) (scope : Scope) (f : Addr) (cd : Value) (A : Around) (outer : List Env) (s : Shared) (H : Hp) (E : XK) : Cx :=
  cxOf (L2.CX P w) P w K mg base N qual scope f cd A outer s H E
/-- the wish of a def about what leaves it -/
abbrev WD (E : XK) : WX := fun cls d _ H => E cls d H
/-- the slots at a def's entry -/
def startD (N : List Str) (ds : List D) : Rho := ds.map some ++ List.replicate (N.length - ds.length) none
theorem relR_start {K : PySem.W.Frag} {F : Hp} {N : List Str} {ds : List D} {vs : List V} (h : DenL K F ds vs) : RelR K F (startD N ds) (L2.start N vs) := by
  refine ⟨?_, fun i d e => ?_⟩
  · unfold startD L2.start
    simp [h.len]
  · unfold startD at e
    unfold L2.start
    rw [List.getElem?_append] at e ⊢
    by_cases hi : i < ds.length
    · have hi' : i < vs.length := by rw [← h.len]; exact hi
      rw [if_pos (by simpa using hi)] at e
      rw [if_pos (by simpa using hi')]
      rw [List.getElem?_map] at e ⊢
      cases q : ds[i]? with
      | none => rw [q] at e; cases e
      | some d' =>
        rw [q] at e
        obtain ⟨v, hv, hd⟩ := h.at q
        rw [hv]
        cases e
        exact ⟨v, rfl, hd⟩
    · rw [if_neg (by simpa using hi)] at e
      rw [List.getElem?_replicate] at e
      by_cases q : i - (List.map some ds).length < N.length - ds.length
      · rw [if_pos q] at e; cases e
      · rw [if_neg q] at e; cases e
/-- THE RULE for a def -/
theorem fnG_of {P : Program} {w : World} {K : PySem.W.Frag} {mg : Str → Option Value} {base : Heap} {x qual : Str} {params : Arguments} {body : List Stmt} {scope : Scope} {dvs : List V} {kws : List (Str × V)} {f : Addr} {fd : FuncData} {N ps : List Str} {k : Nat} {sp : SpD}
    (F : FunD K x qual params body scope dvs kws f fd) (S : FnScope N ps scope) (t : TSD)
    (hbody : ∀ (cdv : Value) (A : Around) (outer : List Env) (s : Shared) (H : Hp) (E : XK), RoomG k (A.deeper (envOfC qual scope s.heap.objs.size f cdv)) → Takes (cxD P w K mg base N qual scope f cdv A outer s H E) (WD E) →
      DSs (cxD P w K mg base N qual scope f cdv A outer s H E) (WD E) body t)
    (h : ∀ ds w E Q, ds.length = ps.length → sp ds w E Q → t (fun x _ w' => E x w') { nx := fun _ w' => Q .non w', rt := Q } (startD N ds) w) : FnG P w K mg base (k + 1) f fd ps (toSp K ps.length sp) := by
  obtain ⟨oc, od, dV, kV, doc, pm, an, cdv, ct, osl, rfl, lk, hcd, _, _⟩ := F.ex
  have hlen : ∀ vs H Q E, toSp K ps.length sp vs H Q E → vs.length = ps.length := fun vs H Q E ⟨_, _, _, _, _, _, d, l, _⟩ => by rw [← d.len]; exact l
  refine ⟨hlen, fun A outer s H args us vs Q E hr e0 hb r hsp => ?_⟩
  have hl := hlen _ _ _ _ hsp
  obtain ⟨F1, wd, ds, Ed, Qd, rh, den, l, hs, ev, ec⟩ := hsp
  have KX : K.In s.heap := e0.mod.kin.keeps fun b o e => (e0.bs b o e).1
  have lim : s.heap.NoLimit := e0.mod.nolimit.keeps fun b o e => (e0.bs b o e).1
  have hkind : ∀ y ∈ ps.zip us, scope.names.lookup y.1 = some .local ∨ (scope.names.lookup y.1 = some .cell ∧ ((cellsFrom (s.heap.objs.size + 1) scope.names []).lookup y.1).isSome = true) := fun ⟨n, v⟩ hy => by
    rcases S.par n (List.of_mem_zip hy).1 with q | q
    · exact .inl q
    · exact .inr ⟨q, PySem.W.cellsFrom_some _ _ _ (.inl q)⟩
  refine codeAny_call_function hr.r.depth (KX _ _ lk) rfl S.co S.gen rfl (PySem.W.codeRec_of KX hcd) (hb _ _ _ _ ?_)
  refine wpAny_newFunctionEnv_cells S.kind hkind fun env he s1 x => ?_
  subst he
  refine ⟨lim.keeps x.toInCall.keep, codeAny_func ?_⟩
  obtain ⟨ts, ht, hq⟩ := (hbody cdv A outer s H E (hr.deeper _) (takes_of rfl rfl rfl rfl)).ex
  have hw : WishOk K (WD E) F1 (fun x _ w' => Ed x w') := fun x F' w' ρ σ H' cls o a dx e => ec.x x w' F' cls o H' a.e0 a.h dx e
  have hq' := hq F1 _ hw F1 (startD N ds) wd (L2.start N vs) H { nx := fun _ w' => Qd .non w', rt := Qd } { nx := fun _ H' => Q .non H', rt := Q } ⟨Evl.Ex.refl _, rh, relR_start den⟩ (h ds wd Ed Qd l hs)
    ⟨fun ρ' w' F' σ' H' e h' _ q => ev _ w' F' V.non H' e h' (by unfold Den; rfl) q, ev, fun _ _ _ _ _ _ _ _ z => False.elim z, fun _ _ _ _ _ _ _ _ z => False.elim z⟩
  have I : Inv (cxOf (L2.CX P w) P w K mg base N qual scope f cdv A outer s H E) [] (L2.start N vs) H s1 := inv_start S hr.r.hd e0 hl r x
  refine wpAny_mono (ht.run [] s1 (L2.start N vs) H _ I hq') (fun fl s' hs => ?_) fun e s' hs => hs
  have fin : ∀ {σ' : L2.St} {H' : Hp} {v : V} {u : Value}, Inv (cxOf (L2.CX P w) P w K mg base N qual scope f cdv A outer s H E) [] σ' H' s' → RelV v u → Q v H' → CE outer P w H s Q u s' :=
    fun {σ' H' v u} J rv q => ⟨v, H', J.os, J.bare, J.base, J.hok, rv, q⟩
  cases fl with
  | ret u =>
    obtain ⟨v, σ', H', J, rv, q⟩ := hs
    exact fin J rv q
  | next =>
    obtain ⟨σ', H', J, q⟩ := hs
    exact fin (v := V.non) (u := Value.none) J rfl q
  | brk =>
    obtain ⟨_, _, _, q⟩ := hs
    exact False.elim q
  | cont =>
    obtain ⟨_, _, _, q⟩ := hs
    exact False.elim q
end DL
set_option Elab.async false
set_option linter.all false
set_option maxRecDepth 100000
set_option maxHeartbeats 1000000
/-! DL3: expressions without calls. -/
namespace DL
open PySem PySem.Spec PyProof.Rows L2
open Evl (Ex ex_l ex_t)

section
variable {K : PySem.W.Frag} {F F' H : Hp} {w : Wd} {d : D} {v : V}
theorem den_non : Den K F .non .non := by unfold Den; rfl
theorem den_bl {b : Bool} : Den K F (.bl b) (.bl b) := by unfold Den; rfl
theorem den_int {i : Int} : Den K F (.int i) (.int i) := by unfold Den; rfl
theorem den_str {x : Str} : Den K F (.str x) (.str x) := by unfold Den; rfl
theorem den_ref {a : Addr} : Den K F (.ref a) (.ref a) := by unfold Den; rfl
theorem den_ty {n : String} : Den K F (.ty n) (.ty n) := by unfold Den; rfl
theorem den_tup {a : Addr} {xs : List V} {ds : List D} (h : SqT K F a xs) (t : DenL K F ds xs) : Den K F (.tup ds) (.ref a) := by unfold Den; exact ⟨a, xs, rfl, h, t⟩
theorem den_lst {a : Addr} {xs : List V} {ds : List D} (h : F a = some (.lst xs)) (t : DenL K F ds xs) : Den K F (.lst ds) (.ref a) := by unfold Den; exact ⟨a, xs, rfl, h, t⟩
theorem den_rls {a : Addr} {xs : List V} {ds : List D} (h : SqL K F a xs) (t : DenL K F ds xs) : Den K F (.rls ds) (.ref a) := by unfold Den; exact ⟨a, xs, rfl, h, t⟩
theorem Den.rls_ {ds : List D} (h : Den K F (.rls ds) v) : ∃ a xs, v = .ref a ∧ SqL K F a xs ∧ DenL K F ds xs := by unfold Den at h; exact h
theorem Den.int_ {i : Int} (h : Den K F (.int i) v) : v = .int i := by unfold Den at h; exact h
theorem Den.bl_ {i : Bool} (h : Den K F (.bl i) v) : v = .bl i := by unfold Den at h; exact h
theorem Den.str_ {i : Str} (h : Den K F (.str i) v) : v = .str i := by unfold Den at h; exact h
theorem Den.non_ (h : Den K F .non v) : v = .non := by unfold Den at h; exact h
theorem Den.ref_ {a : Addr} (h : Den K F (.ref a) v) : v = .ref a := by unfold Den at h; exact h
theorem Den.ty_ {n : String} (h : Den K F (.ty n) v) : v = .ty n := by unfold Den at h; exact h
theorem Den.tup_ {ds : List D} (h : Den K F (.tup ds) v) : ∃ a xs, v = .ref a ∧ SqT K F a xs ∧ DenL K F ds xs := by unfold Den at h; exact h
theorem Den.lst_ {ds : List D} (h : Den K F (.lst ds) v) : ∃ a xs, v = .ref a ∧ F a = some (.lst xs) ∧ DenL K F ds xs := by unfold Den at h; exact h
end
/-- the items of a list: frozen, or of the world (lstT); one that is only read, too (lstD) -/
def doLst : Option DO → Option (List D)
  | some (.lst xs) => some xs
  | _ => none
def lstT (w : Wd) : D → Option (List D)
  | .lst xs => some xs
  | .ref a => doLst (w a)
  | _ => none
def lstD (w : Wd) : D → Option (List D)
  | .rls xs => some xs
  | d => lstT w d
@[simp] theorem lstT_lst {w : Wd} {xs : List D} : lstT w (.lst xs) = some xs := rfl
@[simp] theorem lstD_lst {w : Wd} {xs : List D} : lstD w (.lst xs) = some xs := rfl
@[simp] theorem lstD_rls {w : Wd} {xs : List D} : lstD w (.rls xs) = some xs := rfl
theorem lstT_ref {w : Wd} {a : Addr} {xs : List D} (h : w a = some (.lst xs)) : lstT w (.ref a) = some xs := by
  show doLst (w a) = some xs
  rw [h]
  rfl
theorem lstD_ref {w : Wd} {a : Addr} {xs : List D} (h : w a = some (.lst xs)) : lstD w (.ref a) = some xs := lstT_ref h
theorem doLst_ok {o : Option DO} {xs : List D} (h : doLst o = some xs) : o = some (.lst xs) := by
  unfold doLst at h
  split at h
  · cases h; rfl
  · cases h
theorem lstT_ok {K : PySem.W.Frag} {F H : Hp} {w : Wd} {d : D} {v : V} {ds : List D} (r : RelH K F w H) (h : Den K F d v) (e : lstT w d = some ds) : ∃ a xs, v = .ref a ∧ H a = some (.lst xs) ∧ DenL K F ds xs := by
  cases d with
  | lst xs =>
    cases e
    obtain ⟨a, us, e1, h1, h2⟩ := h.lst_
    exact ⟨a, us, e1, r.ex _ _ h1, h2⟩
  | ref a =>
    obtain ⟨_, us, h1, h2⟩ := r.obj a _ (doLst_ok (show doLst (w a) = some ds from e))
    exact ⟨a, us, h.ref_, h1, h2⟩
  | _ => cases e
theorem lstD_ok {K : PySem.W.Frag} {F H : Hp} {w : Wd} {d : D} {v : V} {ds : List D} (r : RelH K F w H) (h : Den K F d v) (e : lstD w d = some ds) : ∃ a xs, v = .ref a ∧ SqL K H a xs ∧ DenL K F ds xs := by
  cases d with
  | rls xs =>
    cases e
    obtain ⟨a, us, e1, h1, h2⟩ := h.rls_
    exact ⟨a, us, e1, ex_l r.ex h1, h2⟩
  | lst xs => obtain ⟨a, us, e1, h1, h2⟩ := lstT_ok r h (show lstT w (.lst xs) = some ds from e); exact ⟨a, us, e1, SqL.of h1, h2⟩
  | ref a => obtain ⟨a, us, e1, h1, h2⟩ := lstT_ok r h (show lstT w (.ref a) = some ds from e); exact ⟨a, us, e1, SqL.of h1, h2⟩
  | _ => cases e
/-- a list or a tuple -/
def seqD (w : Wd) : D → Option (List D)
  | .tup xs => some xs
  | d => lstD w d
theorem seqD_ok {K : PySem.W.Frag} {F H : Hp} {w : Wd} {d : D} {v : V} {ds : List D} (r : RelH K F w H) (h : Den K F d v) (e : seqD w d = some ds) : ∃ a xs, v = .ref a ∧ (SqL K H a xs ∨ SqT K H a xs) ∧ DenL K F ds xs := by
  cases d with
  | tup xs =>
    cases e
    obtain ⟨a, us, e1, h1, h2⟩ := h.tup_
    exact ⟨a, us, e1, .inr (ex_t r.ex h1), h2⟩
  | lst xs => obtain ⟨a, us, e1, h1, h2⟩ := lstD_ok r h (show lstD w (.lst xs) = some ds from e); exact ⟨a, us, e1, .inl h1, h2⟩
  | rls xs => obtain ⟨a, us, e1, h1, h2⟩ := lstD_ok r h (show lstD w (.rls xs) = some ds from e); exact ⟨a, us, e1, .inl h1, h2⟩
  | ref a => obtain ⟨a, us, e1, h1, h2⟩ := lstD_ok r h (show lstD w (.ref a) = some ds from e); exact ⟨a, us, e1, .inl h1, h2⟩
  | _ => cases e

section
variable {X : Cx} {W : WX} {e a b c : Expr} {t ta tb tc : TED} {pos : Pos}
/-! ### names, constants -/
def dVar (i : Nat) : TED := fun _ ρ w Q => ∃ d, ρ[i]? = some (some d) ∧ Q d w
def dC (d : D) : TED := fun _ _ w Q => Q d w
theorem de_var (i : Nat) {x : Str} (hN : X.N[i]? = some x := by rfl) (hv : Vis X.env.scope x := by first | exact Or.inl rfl | exact Or.inr (Or.inl rfl) | exact Or.inr (Or.inr rfl)) (hd : (x == ("__debug__" : Str)) = false := by decide)
    (hcd : (x == ("__classdict__" : Str)) = false := by decide) : DE X W (.Name x pos) (dVar i) :=
  ⟨_, pe_var (i := i) hN hv hd hcd, fun F0 E hw F ρ w σ H Qd Q a h k => by
    obtain ⟨d, e1, q⟩ := h
    obtain ⟨v, e2, dn⟩ := a.r.at_ i d e1
    exact ⟨v, e2, k d w F v H (Evl.Ex.refl _) a.h dn q⟩⟩
theorem de_c {d : D} {v : V} (hp : PE X e (tC v)) (hd : ∀ F, Den X.K F d v) : DE X W e (dC d) :=
  ⟨_, hp, fun F0 E hw F ρ w σ H Qd Q a h k => k d w F v H (Evl.Ex.refl _) a.h (hd F) h⟩
theorem de_int {i : Int} {j} : DE X W (.Constant (.int i) j pos) (dC (.int i)) := de_c pe_int fun _ => den_int
theorem de_bl {i : Bool} {j} : DE X W (.Constant (.bool i) j pos) (dC (.bl i)) := de_c pe_bl fun _ => den_bl
theorem de_non {j} : DE X W (.Constant .none j pos) (dC .non) := de_c pe_non fun _ => den_non
theorem de_str {x : Str} {j} : DE X W (.Constant (.str x) j pos) (dC (.str x)) := de_c pe_str fun _ => den_str
theorem de_gint {x : Str} {i : Int} (hm : ∃ tk, X.mg x = some (.int i tk)) (hg : Gl X x := by rfl) (hd : (x == ("__debug__" : Str)) = false := by decide) : DE X W (.Name x pos) (dC (.int i)) := by
  obtain ⟨tk, h⟩ := hm
  exact de_c (pe_glob (v := .int i) hg h ⟨tk, rfl⟩ hd) fun _ => den_int
theorem de_gstr {x : Str} {i : Str} (hm : ∃ tk, X.mg x = some (.str i tk)) (hg : Gl X x := by rfl) (hd : (x == ("__debug__" : Str)) = false := by decide) : DE X W (.Name x pos) (dC (.str i)) := by
  obtain ⟨tk, h⟩ := hm
  exact de_c (pe_glob (v := .str i) hg h ⟨tk, rfl⟩ hd) fun _ => den_str
theorem de_gref {x : Str} {f : Addr} (hm : X.mg x = some (.ref f)) (hg : Gl X x := by rfl) (hd : (x == ("__debug__" : Str)) = false := by decide) : DE X W (.Name x pos) (dC (.ref f)) :=
  de_c (pe_glob (v := .ref f) hg hm rfl hd) fun _ => den_ref
theorem de_bty {x : Str} {n : String} (hm : X.mg x = none) (hv : bootBuiltins x = some (.type n)) (hg : Gl X x := by rfl) (hn : x ≠ "__name__" := by decide) (hd : (x == ("__debug__" : Str)) = false := by decide) : DE X W (.Name x pos) (dC (.ty n)) :=
  de_c (pe_bltn (v := .ty n) hg hm hv rfl hn hd) fun _ => den_ty

/-! ### two-place operators -/
abbrev R2D := D → D → Wd → VKD → Prop
def Lift2 (K : PySem.W.Frag) (f : R2D) (r : R2) : Prop := ∀ F w H x y d e Qd Q, RelH K F w H → Den K F x d → Den K F y e → f x y w Qd → EndV K F Qd Q → r d e H Q
def dBin (f : R2D) (ta tb : TED) : TED := fun E ρ w Q => ta E ρ w fun x w1 => tb E ρ w1 fun y w2 => f x y w2 Q
theorem bin_ref {K : PySem.W.Frag} {ua ub : TE} {r : R2} {f : R2D} (hf : Lift2 K f r)
    (ra : ∀ F0 E, WishOk K W F0 E → ∀ F ρ w σ H Qd Q, At K F0 F ρ w σ H → ta E ρ w Qd → EndV K F Qd Q → ua σ H Q)
    (rb : ∀ F0 E, WishOk K W F0 E → ∀ F ρ w σ H Qd Q, At K F0 F ρ w σ H → tb E ρ w Qd → EndV K F Qd Q → ub σ H Q) :
    ∀ F0 E, WishOk K W F0 E → ∀ F ρ w σ H Qd Q, At K F0 F ρ w σ H → dBin f ta tb E ρ w Qd → EndV K F Qd Q → tOp r ua ub σ H Q := fun F0 E hw F ρ w σ H Qd Q at_ h k =>
  ra F0 E hw F ρ w σ H _ _ at_ h fun x w1 F1 v H1 e1 h1 d1 q1 =>
    rb F0 E hw F1 ρ w1 σ H1 _ _ (at_.step e1 h1) q1 fun y w2 F2 u H2 e2 h2 d2 q2 => hf F2 w2 H2 x y v u Qd Q h2 (d1.mono e2) d2 q2 (k.mono (e1.trans e2))
theorem de_bin {op : Operator} {f : R2D} {r : R2} (ho : OpR X (binaryOp op) r) (hf : Lift2 X.K f r) (ha : DE X W a ta) (hb : DE X W b tb) : DE X W (.BinOp a op b pos) (dBin f ta tb) := by
  obtain ⟨ua, pa, ra⟩ := ha.ex
  obtain ⟨ub, pb, rb⟩ := hb.ex
  exact ⟨_, pe_op ho pa pb, bin_ref hf ra rb⟩
theorem de_cmp {op : CmpOp} {f : R2D} {r : R2} (ho : OpR X (compareOp op) r) (hf : Lift2 X.K f r) (ha : DE X W a ta) (hb : DE X W b tb) (hm : behindInMarks op b = false) : DE X W (.Compare a [op] [b] pos) (dBin f ta tb) := by
  obtain ⟨ua, pa, ra⟩ := ha.ex
  obtain ⟨ub, pb, rb⟩ := hb.ex
  exact ⟨_, pe_cmpR ho pa pb hm, bin_ref hf ra rb⟩
/-- a value as a test -/
def dTest (t : TED) : TTD := fun E ρ w Q => t E ρ w fun x w1 => ∃ k, x = .bl k ∧ Q k w1
theorem test_ref {K : PySem.W.Frag} {u : TE} (r : ∀ F0 E, WishOk K W F0 E → ∀ F ρ w σ H Qd Q, At K F0 F ρ w σ H → t E ρ w Qd → EndV K F Qd Q → u σ H Q) :
    ∀ F0 E, WishOk K W F0 E → ∀ F ρ w σ H Qd Q, At K F0 F ρ w σ H → dTest t E ρ w Qd → EndB K F Qd Q → tTest u σ H Q := fun F0 E hw F ρ w σ H Qd Q at_ h k =>
  r F0 E hw F ρ w σ H _ _ at_ h fun x w1 F1 v H1 e1 h1 d1 q1 => by
    obtain ⟨b, rfl, q⟩ := q1
    exact ⟨b, d1.bl_, k b w1 F1 H1 e1 h1 q⟩
theorem dt_cmp {op : CmpOp} {f : R2D} {r : R2} (ho : OpR X (compareOp op) r) (hf : Lift2 X.K f r) (ha : DE X W a ta) (hb : DE X W b tb) (hm : behindInMarks op b = false) : DT X W (.Compare a [op] [b] pos) (dTest (dBin f ta tb)) := by
  obtain ⟨ua, pa, ra⟩ := ha.ex
  obtain ⟨ub, pb, rb⟩ := hb.ex
  exact ⟨_, pt_cmpR ho pa pb hm, test_ref (bin_ref hf ra rb)⟩
/-- an expression that gives a bool, as a test -/
theorem dt_val (h : DE X W e t) (he : ∀ whole, isTrue e X.env whole = (do let v ← whole; standAt e.pos; holding [v] (truthy v)) := by intro _; rfl) : DT X W e (dTest t) := by
  obtain ⟨u, p, r⟩ := h.ex
  exact ⟨_, pt_val p he, test_ref r⟩
/-- a value's truth -/
def truD (d : D) (w : Wd) (Q : Bool → Prop) : Prop :=
  match d with
  | .non => Q false
  | .bl b => Q b
  | .int i => Q (i != 0)
  | .str y => y.length ≤ sizeLine ∧ Q ((y.length : Int) != 0)
  | .tup xs => Q (!xs.isEmpty)
  | .lst xs => Q (!xs.isEmpty)
  | .rls xs => Q (!xs.isEmpty)
  | .ref a => (match w a with
    | some (.lst xs) => Q (!xs.isEmpty)
    | some (.dK kvs) => Q (!kvs.isEmpty)
    | _ => False)
  | _ => False
theorem DenL.isEmpty {K : PySem.W.Frag} {F : Hp} {ds : List D} {vs : List V} (h : DenL K F ds vs) : vs.isEmpty = ds.isEmpty := by
  have := h.len
  cases ds <;> cases vs <;> simp_all
theorem DenKV.isEmpty {K : PySem.W.Frag} {F : Hp} {ds : List (Key × D)} {vs : List (Key × V)} (h : DenKV K F ds vs) : vs.isEmpty = ds.isEmpty := by
  cases h <;> rfl
theorem truD_ok {K : PySem.W.Frag} {F H : Hp} {w : Wd} {d : D} {v : V} {Q : Bool → Prop} (r : RelH K F w H) (dn : Den K F d v) (h : truD d w Q) : ∃ k, TruV K v H k ∧ Q k := by
  unfold truD at h
  split at h
  · cases dn.non_; exact ⟨_, rfl, h⟩
  · cases dn.bl_; exact ⟨_, rfl, h⟩
  · cases dn.int_; exact ⟨_, rfl, h⟩
  · cases dn.str_; exact ⟨_, ⟨h.1, rfl⟩, h.2⟩
  · obtain ⟨a, us, rfl, h1, h2⟩ := dn.tup_
    exact ⟨_, .inr (.inl ⟨us, ex_t r.ex h1, rfl⟩), by rw [h2.isEmpty]; exact h⟩
  · obtain ⟨a, us, rfl, h1, h2⟩ := dn.lst_
    exact ⟨_, .inl ⟨us, SqL.of (r.ex _ _ h1), rfl⟩, by rw [h2.isEmpty]; exact h⟩
  · obtain ⟨a, us, rfl, h1, h2⟩ := dn.rls_
    exact ⟨_, .inl ⟨us, ex_l r.ex h1, rfl⟩, by rw [h2.isEmpty]; exact h⟩
  · cases dn.ref_
    split at h
    · rename_i q
      obtain ⟨_, us, h1, h2⟩ := r.obj _ _ q
      exact ⟨_, .inl ⟨us, SqL.of h1, rfl⟩, by rw [h2.isEmpty]; exact h⟩
    · rename_i q
      obtain ⟨_, us, h1, h2⟩ := r.obj _ _ q
      exact ⟨_, .inr (.inr ⟨us, h1, rfl⟩), by rw [h2.isEmpty]; exact h⟩
    · exact h.elim
  · exact h.elim
def dTru (t : TED) : TTD := fun E ρ w Q => t E ρ w fun x w1 => truD x w1 fun k => Q k w1
theorem dt_tru (h : DE X W e t) (he : ∀ whole, isTrue e X.env whole = (do let v ← whole; standAt e.pos; holding [v] (truthy v)) := by intro _; rfl) : DT X W e (dTru t) := by
  obtain ⟨u, p, r⟩ := h.ex
  refine ⟨_, pt_truth p he, fun F0 E hw F ρ w σ H Qd Q at_ hh k => r F0 E hw F ρ w σ H _ _ at_ hh fun x w1 F1 v H1 e1 h1 d1 q1 => ?_⟩
  obtain ⟨b, tb, q⟩ := truD_ok h1 d1 q1
  exact ⟨b, tb, k b w1 F1 H1 e1 h1 q⟩

/-! ### what operators do -/
def addD : R2D := fun x y w Q =>
  match x, y with
  | .int i, .int j => Q (.int (i + j)) w
  | .str i, .str j => i.length + j.length ≤ sizeLine ∧ Q (.str (i ++ j)) w
  | .tup i, .tup j => i.length + j.length ≤ sizeLine ∧ Q (.tup (i ++ j)) w
  | x, y => ∃ i j, lstT w x = some i ∧ lstT w y = some j ∧ i.length + j.length ≤ sizeLine ∧ Q (.lst (i ++ j)) w
end
end DL
set_option Elab.async false
set_option linter.all false
set_option maxRecDepth 100000
set_option maxHeartbeats 1000000
/-! DL4: operators, tests, subscripts, displays. -/
namespace DL
open PySem PySem.Spec PyProof.Rows L2
open Evl (Ex ex_l ex_t)

section
variable {X : Cx} {W : WX} {e a b c : Expr} {t ta tb tc : TED} {pos : Pos}
/-! ### + - * // % ** -/
def rAddA (K : PySem.W.Frag) : R2 := fun x y H Q => rI0 (fun i j => .int (i + j)) x y H Q ∨ (∃ i j, x = .str i ∧ y = .str j ∧ i.length + j.length ≤ sizeLine ∧ Q (.str (i ++ j)) H) ∨ rCatA K x y H Q ∨ rCat x y H Q
theorem op_addA : OpR X (binaryOp .Add) (rAddA X.K) := OpR.or op_add (OpR.or op_add_str (OpR.or op_catA op_cat))
theorem lift_add {K : PySem.W.Frag} : Lift2 K addD (rAddA K) := by
  intro F w H x y d e Qd Q r dx dy h k
  unfold addD at h
  split at h
  · cases dx.int_; cases dy.int_
    exact .inl ⟨_, _, rfl, rfl, k _ w F _ H (Evl.Ex.refl _) r den_int h⟩
  · cases dx.str_; cases dy.str_
    exact .inr (.inl ⟨_, _, rfl, rfl, h.1, k _ w F _ H (Evl.Ex.refl _) r den_str h.2⟩)
  · rename_i i j
    obtain ⟨a, xs, rfl, h1, h2⟩ := dx.tup_
    obtain ⟨b, ys, rfl, g1, g2⟩ := dy.tup_
    refine .inr (.inr (.inl ⟨a, b, xs, ys, rfl, rfl, ex_t r.ex h1, ex_t r.ex g1, by rw [← h2.len, ← g2.len]; exact h.1, fun ex => ?_, fun ne ey => ?_, fun nx ny p hp => ?_⟩))
    · subst ex
      have ei : i = [] := by have := h2.len; cases i; rfl; simp at this
      subst ei
      exact k _ w F _ H (Evl.Ex.refl _) r (den_tup g1 g2) h.2
    · subst ey
      have ei : j = [] := by have := g2.len; cases j; rfl; simp at this
      subst ei
      refine k _ w F _ H (Evl.Ex.refl _) r (den_tup h1 ?_) h.2
      rw [List.append_nil]; exact h2
    · have e1 : Ex F (upd F p (.tup (xs ++ ys))) := Evl.Ex.new (r.fresh hp).1
      exact k _ w _ _ _ e1 (r.newF hp _) (den_tup (SqT.of upd_same) ((h2.append g2).mono e1)) h.2
  · obtain ⟨i, j, e1, e2, hl, q⟩ := h
    obtain ⟨a, xs, rfl, h1, h2⟩ := lstT_ok r dx e1
    obtain ⟨b, ys, rfl, g1, g2⟩ := lstT_ok r dy e2
    refine .inr (.inr (.inr ⟨a, b, xs, ys, rfl, rfl, h1, g1, by rw [← h2.len, ← g2.len]; exact hl, fun p hp => ?_⟩))
    have e1 : Ex F (upd F p (.lst (xs ++ ys))) := Evl.Ex.new (r.fresh hp).1
    exact k _ w _ _ _ e1 (r.newF hp _) (den_lst upd_same ((h2.append g2).mono e1)) q
theorem de_add (ha : DE X W a ta) (hb : DE X W b tb) : DE X W (.BinOp a .Add b pos) (dBin addD ta tb) := de_bin op_addA lift_add ha hb
/-- ints in, under C, an int out -/
def intD (C : Int → Int → Prop) (g : Int → Int → Int) : R2D := fun x y w Q => ∃ i j, x = .int i ∧ y = .int j ∧ C i j ∧ Q (.int (g i j)) w
theorem lift_int {K : PySem.W.Frag} {C : Int → Int → Prop} {g : Int → Int → Int} : Lift2 K (intD C g) (rI C fun i j => .int (g i j)) := by
  intro F w H x y d e Qd Q r dx dy h k
  obtain ⟨i, j, rfl, rfl, hc, q⟩ := h
  exact ⟨i, j, dx.int_, dy.int_, hc, k _ w F _ H (Evl.Ex.refl _) r den_int q⟩
def int0D (g : Int → Int → Int) : R2D := fun x y w Q => ∃ i j, x = .int i ∧ y = .int j ∧ Q (.int (g i j)) w
theorem lift_int0 {K : PySem.W.Frag} {g : Int → Int → Int} : Lift2 K (int0D g) (rI0 fun i j => .int (g i j)) := by
  intro F w H x y d e Qd Q r dx dy h k
  obtain ⟨i, j, rfl, rfl, q⟩ := h
  exact ⟨i, j, dx.int_, dy.int_, k _ w F _ H (Evl.Ex.refl _) r den_int q⟩
def cmpD (g : Int → Int → Bool) : R2D := fun x y w Q => ∃ i j, x = .int i ∧ y = .int j ∧ Q (.bl (g i j)) w
theorem lift_cmp {K : PySem.W.Frag} {g : Int → Int → Bool} : Lift2 K (cmpD g) (rI0 fun i j => .bl (g i j)) := by
  intro F w H x y d e Qd Q r dx dy h k
  obtain ⟨i, j, rfl, rfl, q⟩ := h
  exact ⟨i, j, dx.int_, dy.int_, k _ w F _ H (Evl.Ex.refl _) r den_bl q⟩
abbrev subD : R2D := int0D fun i j => i - j
abbrev mulD : R2D := intD CMul fun i j => i * j
abbrev fdivD : R2D := intD CDiv fun i j => i / j
abbrev modD : R2D := intD (fun _ j => 0 < j) fun i j => i % j
abbrev powD : R2D := intD CPow fun i j => i ^ j.toNat
abbrev ltD : R2D := cmpD fun i j => decide (i < j)
abbrev leD : R2D := cmpD fun i j => decide (i ≤ j)
abbrev gtD : R2D := cmpD fun i j => decide (j < i)
abbrev geD : R2D := cmpD fun i j => decide (j ≤ i)
theorem de_sub (ha : DE X W a ta) (hb : DE X W b tb) : DE X W (.BinOp a .Sub b pos) (dBin subD ta tb) := de_bin op_sub lift_int0 ha hb
theorem de_mul (ha : DE X W a ta) (hb : DE X W b tb) : DE X W (.BinOp a .Mult b pos) (dBin mulD ta tb) := de_bin op_mul lift_int ha hb
theorem de_fdiv (ha : DE X W a ta) (hb : DE X W b tb) : DE X W (.BinOp a .FloorDiv b pos) (dBin fdivD ta tb) := de_bin op_fdiv lift_int ha hb
theorem de_mod (ha : DE X W a ta) (hb : DE X W b tb) : DE X W (.BinOp a .Mod b pos) (dBin modD ta tb) := de_bin op_mod lift_int ha hb
theorem de_pow (ha : DE X W a ta) (hb : DE X W b tb) : DE X W (.BinOp a .Pow b pos) (dBin powD ta tb) := de_bin op_pow lift_int ha hb
def dNeg (t : TED) : TED := fun E ρ w Q => t E ρ w fun x w1 => ∃ i, x = .int i ∧ Q (.int (-i)) w1
theorem de_neg (ha : DE X W a ta) : DE X W (.UnaryOp .USub a pos) (dNeg ta) := by
  obtain ⟨ua, pa, ra⟩ := ha.ex
  refine ⟨_, pe_un un_neg pa, fun F0 E hw F ρ w σ H Qd Q at_ hh k => ra F0 E hw F ρ w σ H _ _ at_ hh fun x w1 F1 v H1 e1 h1 d1 q1 => ?_⟩
  obtain ⟨i, rfl, q⟩ := q1
  exact ⟨i, d1.int_, k _ w1 F1 _ H1 e1 h1 den_int q⟩

/-! ### == != -/
mutual
def toPy : D → Option PyData
  | .non => some .none
  | .bl b => some (.bool b)
  | .int i => some (.int i)
  | .str x => some (.str x)
  | .tup xs => (toPyL xs).map .tuple
  | .lst xs => (toPyL xs).map .list
  | .rls xs => (toPyL xs).map .list
  | .ref _ => none
  | .ty _ => none
def toPyL : List D → Option (List PyData)
  | [] => some []
  | d :: ds => (toPy d).bind fun p => (toPyL ds).map fun ps => p :: ps
end
mutual
theorem toPy_ok {K : PySem.W.Frag} {F H : Hp} (e : Ex F H) : ∀ {d : D} {v : V} {p : PyData}, Den K F d v → toPy d = some p → Dp K H v p
  | .non, v, p, h, q => by cases h.non_; unfold toPy at q; cases q; exact .non
  | .bl _, v, p, h, q => by cases h.bl_; unfold toPy at q; cases q; exact .bl _
  | .int _, v, p, h, q => by cases h.int_; unfold toPy at q; cases q; exact .int _
  | .str _, v, p, h, q => by cases h.str_; unfold toPy at q; cases q; exact .str _
  | .tup ds, v, p, h, q => by
    obtain ⟨a, xs, rfl, h1, h2⟩ := h.tup_
    unfold toPy at q
    cases r : toPyL ds with
    | none => rw [r] at q; cases q
    | some ps => rw [r] at q; cases q; exact .tup (ex_t e h1) (toPyL_ok e h2 r)
  | .lst ds, v, p, h, q => by
    obtain ⟨a, xs, rfl, h1, h2⟩ := h.lst_
    unfold toPy at q
    cases r : toPyL ds with
    | none => rw [r] at q; cases q
    | some ps => rw [r] at q; cases q; exact .lst (SqL.of (e _ _ h1)) (toPyL_ok e h2 r)
  | .rls ds, v, p, h, q => by
    obtain ⟨a, xs, rfl, h1, h2⟩ := h.rls_
    unfold toPy at q
    cases r : toPyL ds with
    | none => rw [r] at q; cases q
    | some ps => rw [r] at q; cases q; exact .lst (ex_l e h1) (toPyL_ok e h2 r)
  | .ref _, v, p, h, q => by unfold toPy at q; cases q
  | .ty _, v, p, h, q => by unfold toPy at q; cases q
theorem toPyL_ok {K : PySem.W.Frag} {F H : Hp} (e : Ex F H) : ∀ {ds : List D} {vs : List V} {ps : List PyData}, DenL K F ds vs → toPyL ds = some ps → DpAll K H vs ps
  | [], vs, ps, h, q => by rw [denL_nil h]; unfold toPyL at q; cases q; exact .nil
  | d :: ds, vs, ps, h, q => by
    obtain ⟨v, r, rfl, h1, h2⟩ := denL_cons h
    unfold toPyL at q
    cases q1 : toPy d with
    | none => rw [q1] at q; cases q
    | some p =>
      rw [q1] at q
      cases q2 : toPyL ds with
      | none => rw [q2] at q; cases q
      | some ps' => rw [q2] at q; cases q; exact .cons (toPy_ok e h1 q1) (toPyL_ok e h2 q2)
end
def pyOf (w : Wd) : D → Option PyData
  | .ref a => (doLst (w a)).bind fun ds => (toPyL ds).map .list
  | d => toPy d
theorem pyOf_ok {K : PySem.W.Frag} {F H : Hp} {w : Wd} {d : D} {v : V} {p : PyData} (r : RelH K F w H) (h : Den K F d v) (e : pyOf w d = some p) : Dp K H v p := by
  cases d with
  | ref a =>
    have e' : ((doLst (w a)).bind fun ds => (toPyL ds).map .list) = some p := e
    cases q : doLst (w a) with
    | none => rw [q] at e'; cases e'
    | some ds =>
      rw [q] at e'
      obtain ⟨_, us, h1, h2⟩ := r.obj a _ (doLst_ok q)
      cases q2 : toPyL ds with
      | none => rw [show (some ds).bind (fun ds => (toPyL ds).map PyData.list) = (toPyL ds).map PyData.list from rfl, q2] at e'; cases e'
      | some ps =>
        rw [show (some ds).bind (fun ds => (toPyL ds).map PyData.list) = (toPyL ds).map PyData.list from rfl, q2] at e'
        cases e'
        cases h.ref_
        exact .lst (SqL.of h1) (toPyL_ok r.ex h2 q2)
  | _ => exact toPy_ok r.ex h e
def scalD : D → D → Option Bool
  | .non, .non => some true
  | .non, .int _ => some false | .int _, .non => some false
  | .non, .bl _ => some false | .bl _, .non => some false
  | .non, .str _ => some false | .str _, .non => some false
  | .int i, .int j => some (decide (i = j))
  | .bl i, .bl j => some (decide (i = j))
  | .str i, .str j => some (decide (i = j))
  | .int _, .str _ => some false | .str _, .int _ => some false
  | .bl _, .str _ => some false | .str _, .bl _ => some false
  | _, _ => none
theorem scalD_ok {K : PySem.W.Frag} {F : Hp} {x y : D} {u v : V} {b : Bool} (hx : Den K F x u) (hy : Den K F y v) (h : scalD x y = some b) : scal u v = true ∧ decide (u = v) = b := by
  unfold scalD at h
  split at h <;> first
    | (cases hx.non_; cases hy.non_; cases h; exact ⟨rfl, by decide⟩)
    | (cases hx.non_; cases hy.int_; cases h; exact ⟨rfl, decide_eq_false (fun z => nomatch z)⟩)
    | (cases hx.int_; cases hy.non_; cases h; exact ⟨rfl, decide_eq_false (fun z => nomatch z)⟩)
    | (cases hx.non_; cases hy.bl_; cases h; exact ⟨rfl, decide_eq_false (fun z => nomatch z)⟩)
    | (cases hx.bl_; cases hy.non_; cases h; exact ⟨rfl, decide_eq_false (fun z => nomatch z)⟩)
    | (cases hx.non_; cases hy.str_; cases h; exact ⟨rfl, decide_eq_false (fun z => nomatch z)⟩)
    | (cases hx.str_; cases hy.non_; cases h; exact ⟨rfl, decide_eq_false (fun z => nomatch z)⟩)
    | (cases hx.int_; cases hy.str_; cases h; exact ⟨rfl, decide_eq_false (fun z => nomatch z)⟩)
    | (cases hx.str_; cases hy.int_; cases h; exact ⟨rfl, decide_eq_false (fun z => nomatch z)⟩)
    | (cases hx.bl_; cases hy.str_; cases h; exact ⟨rfl, decide_eq_false (fun z => nomatch z)⟩)
    | (cases hx.str_; cases hy.bl_; cases h; exact ⟨rfl, decide_eq_false (fun z => nomatch z)⟩)
    | (cases hx.int_; cases hy.int_; cases h; exact ⟨rfl, by simp⟩)
    | (cases hx.bl_; cases hy.bl_; cases h; exact ⟨rfl, by simp⟩)
    | (cases hx.str_; cases hy.str_; cases h; exact ⟨rfl, by simp⟩)
    | cases h
/-- x == y -/
def eqD (x y : D) (w : Wd) (Q : Bool → Prop) : Prop :=
  match scalD x y with
  | some b => Q b
  | none => ∃ p q, pyOf w x = some p ∧ pyOf w y = some q ∧ SeqAt.shaped p = true ∧ SeqAt.shaped q = true ∧ Q (PyData.eqv p q)
def eqRD : R2D := fun x y w Q => eqD x y w fun b => Q (.bl b) w
def neRD : R2D := fun x y w Q => eqD x y w fun b => Q (.bl (!b)) w
def rEqA (K : PySem.W.Frag) : R2 := fun x y H Q => rEq x y H Q ∨ rEqD K x y H Q
def rNeA (K : PySem.W.Frag) : R2 := fun x y H Q => rNe x y H Q ∨ rNeD K x y H Q
theorem lift_eq {K : PySem.W.Frag} : Lift2 K eqRD (rEqA K) := by
  intro F w H x y d e Qd Q r dx dy h k
  unfold eqRD eqD at h
  split at h
  · rename_i b hs
    obtain ⟨h1, h2⟩ := scalD_ok dx dy hs
    exact .inl ⟨h1, by rw [h2]; exact k _ w F _ H (Evl.Ex.refl _) r den_bl h⟩
  · obtain ⟨p, q, h1, h2, h3, h4, h5⟩ := h
    exact .inr ⟨p, q, pyOf_ok r dx h1, pyOf_ok r dy h2, h3, h4, k _ w F _ H (Evl.Ex.refl _) r den_bl h5⟩
theorem lift_ne {K : PySem.W.Frag} : Lift2 K neRD (rNeA K) := by
  intro F w H x y d e Qd Q r dx dy h k
  unfold neRD eqD at h
  split at h
  · rename_i b hs
    obtain ⟨h1, h2⟩ := scalD_ok dx dy hs
    exact .inl ⟨h1, by rw [h2]; exact k _ w F _ H (Evl.Ex.refl _) r den_bl h⟩
  · obtain ⟨p, q, h1, h2, h3, h4, h5⟩ := h
    exact .inr ⟨p, q, pyOf_ok r dx h1, pyOf_ok r dy h2, h3, h4, k _ w F _ H (Evl.Ex.refl _) r den_bl h5⟩
theorem de_eq {n : Nat} (hr : RoomG n X.A) (ha : DE X W a ta) (hb : DE X W b tb) : DE X W (.Compare a [.Eq] [b] pos) (dBin eqRD ta tb) := de_cmp (OpR.or op_eq (op_eqD hr.hu)) lift_eq ha hb (nomark _)
theorem de_ne {n : Nat} (hr : RoomG n X.A) (ha : DE X W a ta) (hb : DE X W b tb) : DE X W (.Compare a [.NotEq] [b] pos) (dBin neRD ta tb) := de_cmp (OpR.or op_ne (op_neD hr.hu)) lift_ne ha hb (nomark _)
theorem de_lt (ha : DE X W a ta) (hb : DE X W b tb) : DE X W (.Compare a [.Lt] [b] pos) (dBin ltD ta tb) := de_cmp op_lt lift_cmp ha hb (nomark _)
theorem de_le (ha : DE X W a ta) (hb : DE X W b tb) : DE X W (.Compare a [.LtE] [b] pos) (dBin leD ta tb) := de_cmp op_le lift_cmp ha hb (nomark _)
theorem de_gt (ha : DE X W a ta) (hb : DE X W b tb) : DE X W (.Compare a [.Gt] [b] pos) (dBin gtD ta tb) := de_cmp op_gt lift_cmp ha hb (nomark _)
theorem de_ge (ha : DE X W a ta) (hb : DE X W b tb) : DE X W (.Compare a [.GtE] [b] pos) (dBin geD ta tb) := de_cmp op_ge lift_cmp ha hb (nomark _)
/-- two comparisons in a row -/
def dChain (f g : R2D) (ta tb tc : TED) : TED := fun E ρ w Q => ta E ρ w fun x w1 => tb E ρ w1 fun y w2 => f x y w2 fun z w3 => ∃ k, z = .bl k ∧ if k = true then tc E ρ w3 fun u w4 => g y u w4 Q else Q (.bl false) w3
theorem de_chain {op op' : CmpOp} {f g : R2D} {r r' : R2} (ho : OpR X (compareOp op) r) (hf : Lift2 X.K f r) (ho' : OpR X (compareOp op') r') (hg : Lift2 X.K g r') (ha : DE X W a ta) (hb : DE X W b tb) (hc : DE X W c tc)
    (hm : lastMarks [op, op'] [b, c] = false := by with_unfolding_all rfl) : DE X W (.Compare a [op, op'] [b, c] pos) (dChain f g ta tb tc) := by
  obtain ⟨ua, pa, ra⟩ := ha.ex
  obtain ⟨ub, pb, rb⟩ := hb.ex
  obtain ⟨uc, pc, rc⟩ := hc.ex
  refine ⟨_, pe_chain ho ho' pa pb pc hm, fun F0 E hw F ρ w σ H Qd Q at_ hh k => ra F0 E hw F ρ w σ H _ _ at_ hh fun x w1 F1 v H1 e1 h1 d1 q1 => ?_⟩
  have a1 := at_.step e1 h1
  refine rb F0 E hw F1 ρ w1 σ H1 _ _ a1 q1 fun y w2 F2 u H2 e2 h2 d2 q2 => ?_
  have a2 := a1.step e2 h2
  refine hf F2 w2 H2 x y v u _ _ h2 (d1.mono e2) d2 q2 fun z w3 F3 v3 H3 e3 h3 d3 q3 => ?_
  have a3 := a2.step e3 h3
  obtain ⟨b, rfl, q⟩ := q3
  refine ⟨b, d3.bl_, ?_⟩
  by_cases hb : b = true
  · rw [if_pos hb] at q ⊢
    exact rc F0 E hw F3 ρ w3 σ H3 _ _ a3 q fun u4 w4 F4 v4 H4 e4 h4 d4 q4 => hg F4 w4 H4 y u4 u v4 Qd Q h4 (d2.mono (e3.trans e4)) d4 q4 (k.mono (((e1.trans e2).trans e3).trans e4))
  · rw [if_neg hb] at q ⊢
    exact k _ w3 F3 _ H3 ((e1.trans e2).trans e3) h3 den_bl q
/-! ### is None -/
def isNon : D → Bool
  | .non => true
  | _ => false
def isND : TED → TED := fun t E ρ w Q => t E ρ w fun x w1 => Q (.bl (isNon x)) w1
def notND : TED → TED := fun t E ρ w Q => t E ρ w fun x w1 => Q (.bl (!isNon x)) w1
theorem den_isN {K : PySem.W.Frag} {F : Hp} {x : D} {v : V} (h : Den K F x v) : decide (v = .non) = isNon x := by
  cases x with
  | non => cases h.non_; rfl
  | bl _ => cases h.bl_; rfl
  | int _ => cases h.int_; rfl
  | str _ => cases h.str_; rfl
  | ty _ => cases h.ty_; rfl
  | ref _ => cases h.ref_; rfl
  | tup _ => obtain ⟨_, _, rfl, _⟩ := h.tup_; rfl
  | lst _ => obtain ⟨_, _, rfl, _⟩ := h.lst_; rfl
  | rls _ => obtain ⟨_, _, rfl, _⟩ := h.rls_; rfl
theorem de_isN {j pos'} (ha : DE X W a ta) : DE X W (.Compare a [.Is] [.Constant .none j pos'] pos) (isND ta) := by
  obtain ⟨ua, pa, ra⟩ := ha.ex
  refine ⟨_, pe_cmp (pc_isN pa), fun F0 E hw F ρ w σ H Qd Q at_ hh k => ra F0 E hw F ρ w σ H _ _ at_ hh fun x w1 F1 v H1 e1 h1 d1 q1 => ?_⟩
  rw [den_isN d1]
  exact k _ w1 F1 _ H1 e1 h1 den_bl q1
theorem de_notN {j pos'} (ha : DE X W a ta) : DE X W (.Compare a [.IsNot] [.Constant .none j pos'] pos) (notND ta) := by
  obtain ⟨ua, pa, ra⟩ := ha.ex
  refine ⟨_, pe_cmp (pc_notN pa), fun F0 E hw F ρ w σ H Qd Q at_ hh k => ra F0 E hw F ρ w σ H _ _ at_ hh fun x w1 F1 v H1 e1 h1 d1 q1 => ?_⟩
  rw [den_isN d1]
  exact k _ w1 F1 _ H1 e1 h1 den_bl q1
/-! ### in -/
def toV : D → V
  | .bl b => .bl b
  | .int i => .int i
  | .str x => .str x
  | .ref a => .ref a
  | .ty n => .ty n
  | _ => .non
def flatD : D → Bool
  | .non => true | .bl _ => true | .int _ => true | .str _ => true | _ => false
theorem flatD_ok {K : PySem.W.Frag} {F : Hp} {x : D} {v : V} (h : Den K F x v) (f : flatD x = true) : v = toV x ∧ flatV v = true := by
  cases x with
  | non => cases h.non_; exact ⟨rfl, rfl⟩
  | bl _ => cases h.bl_; exact ⟨rfl, rfl⟩
  | int _ => cases h.int_; exact ⟨rfl, rfl⟩
  | str _ => cases h.str_; exact ⟨rfl, rfl⟩
  | _ => cases f
theorem flatDs_ok {K : PySem.W.Frag} {F : Hp} : ∀ {ds : List D} {vs : List V}, DenL K F ds vs → ds.all flatD = true → vs = ds.map toV ∧ vs.all flatV = true
  | [], vs, h, f => by rw [denL_nil h]; exact ⟨rfl, rfl⟩
  | d :: ds, vs, h, f => by
    obtain ⟨v, r, rfl, h1, h2⟩ := denL_cons h
    rw [List.all_cons, Bool.and_eq_true] at f
    obtain ⟨g1, g2⟩ := flatD_ok h1 f.1
    obtain ⟨g3, g4⟩ := flatDs_ok h2 f.2
    exact ⟨by rw [g1, g3]; rfl, by rw [List.all_cons, g2, g4]; rfl⟩
def inD (neg : Bool) : R2D := fun x y w Q =>
  match y with
  | .str z => ∃ c : Nat, x = .str ⟨#[c]⟩ ∧ Q (.bl (if neg then !decide (c ∈ z.cps.toList) else decide (c ∈ z.cps.toList))) w
  | y => ∃ ds, seqD w y = some ds ∧ flatD x = true ∧ ds.all flatD = true ∧ Q (.bl (if neg then !inV (toV x) (ds.map toV) else inV (toV x) (ds.map toV))) w
def rInA (K : PySem.W.Frag) (neg : Bool) : R2 := fun x y H Q => rIn K neg x y H Q ∨ (∃ (c : Nat) (z : Str), x = .str ⟨#[c]⟩ ∧ y = .str z ∧ Q (.bl (if neg then !decide (c ∈ z.cps.toList) else decide (c ∈ z.cps.toList))) H)
theorem lift_in {K : PySem.W.Frag} {neg : Bool} : Lift2 K (inD neg) (rInA K neg) := by
  intro F w H x y d e Qd Q r dx dy h k
  unfold inD at h
  split at h
  · obtain ⟨c, rfl, q⟩ := h
    cases dx.str_; cases dy.str_
    exact .inr ⟨c, _, rfl, rfl, k _ w F _ H (Evl.Ex.refl _) r den_bl q⟩
  · obtain ⟨ds, e1, f1, f2, q⟩ := h
    obtain ⟨a, vs, rfl, h1, h2⟩ := seqD_ok r dy e1
    obtain ⟨g1, g2⟩ := flatD_ok dx f1
    obtain ⟨g3, g4⟩ := flatDs_ok h2 f2
    refine .inl ⟨a, vs, rfl, h1, g2, g4, ?_⟩
    rw [g1, g3]
    exact k _ w F _ H (Evl.Ex.refl _) r den_bl q
theorem de_in (ha : DE X W a ta) (hb : DE X W b tb) (hm : behindInMarks .In b = false := by rfl) : DE X W (.Compare a [.In] [b] pos) (dBin (inD false) ta tb) :=
  de_cmp (OpR.or op_in_seq op_inS) lift_in ha hb hm
theorem de_notin (ha : DE X W a ta) (hb : DE X W b tb) (hm : behindInMarks .NotIn b = false := by rfl) : DE X W (.Compare a [.NotIn] [b] pos) (dBin (inD true) ta tb) :=
  de_cmp (OpR.or op_notIn_seq op_notInS) lift_in ha hb hm

/-! ### and, or, not, if else -/
variable {tA tB : TTD} {rest : List Expr}
def dAnd (t u : TTD) : TTD := fun E ρ w Q => t E ρ w fun c w1 => if c = true then u E ρ w1 Q else Q false w1
def dOr (t u : TTD) : TTD := fun E ρ w Q => t E ρ w fun c w1 => if c = true then Q true w1 else u E ρ w1 Q
def dNot (t : TTD) : TTD := fun E ρ w Q => t E ρ w fun c w1 => Q (!c) w1
theorem dw_and1 (ha : DT X W a tA) : DW X W (.BoolOp .And [a] pos) tA := by
  obtain ⟨ua, pa, ra⟩ := ha.ex
  exact ⟨_, pw_and1 pa, ra⟩
theorem dw_or1 (ha : DT X W a tA) : DW X W (.BoolOp .Or [a] pos) tA := by
  obtain ⟨ua, pa, ra⟩ := ha.ex
  exact ⟨_, pw_or1 pa, ra⟩
theorem dw_and (ha : DT X W a tA) (hb : DW X W (.BoolOp .And (b :: rest) pos) tB) : DW X W (.BoolOp .And (a :: b :: rest) pos) (dAnd tA tB) := by
  obtain ⟨ua, pa, ra⟩ := ha.ex
  obtain ⟨ub, pb, rb⟩ := hb.ex
  refine ⟨_, pw_and pa pb, fun F0 E hw F ρ w σ H Qd Q at_ hh k => ra F0 E hw F ρ w σ H _ _ at_ hh fun x w1 F1 H1 e1 h1 q1 => ?_⟩
  by_cases hx : x = true
  · rw [if_pos hx] at q1 ⊢
    exact rb F0 E hw F1 ρ w1 σ H1 _ _ (at_.step e1 h1) q1 (k.mono e1)
  · rw [if_neg hx] at q1 ⊢
    exact k _ w1 F1 H1 e1 h1 q1
theorem dw_or (ha : DT X W a tA) (hb : DW X W (.BoolOp .Or (b :: rest) pos) tB) : DW X W (.BoolOp .Or (a :: b :: rest) pos) (dOr tA tB) := by
  obtain ⟨ua, pa, ra⟩ := ha.ex
  obtain ⟨ub, pb, rb⟩ := hb.ex
  refine ⟨_, pw_or pa pb, fun F0 E hw F ρ w σ H Qd Q at_ hh k => ra F0 E hw F ρ w σ H _ _ at_ hh fun x w1 F1 H1 e1 h1 q1 => ?_⟩
  by_cases hx : x = true
  · rw [if_pos hx] at q1 ⊢
    exact k _ w1 F1 H1 e1 h1 q1
  · rw [if_neg hx] at q1 ⊢
    exact rb F0 E hw F1 ρ w1 σ H1 _ _ (at_.step e1 h1) q1 (k.mono e1)
theorem DW.dt (h : DW X W e tA) : DT X W e tA := by
  obtain ⟨u, p, r⟩ := h.ex
  exact ⟨_, p.pt, r⟩
theorem dt_not (ha : DT X W a tA) : DT X W (.UnaryOp .Not a pos) (dNot tA) := by
  obtain ⟨ua, pa, ra⟩ := ha.ex
  exact ⟨_, pt_not pa, fun F0 E hw F ρ w σ H Qd Q at_ hh k => ra F0 E hw F ρ w σ H _ _ at_ hh fun x w1 F1 H1 e1 h1 q1 => k _ w1 F1 H1 e1 h1 q1⟩
def dAndV (ta tb : TED) : TED := fun E ρ w Q => ta E ρ w fun x w1 => ∃ c, x = .bl c ∧ if c = true then tb E ρ w1 Q else Q (.bl false) w1
def dOrV (ta tb : TED) : TED := fun E ρ w Q => ta E ρ w fun x w1 => ∃ c, x = .bl c ∧ if c = true then Q (.bl true) w1 else tb E ρ w1 Q
def dNotV (ta : TED) : TED := fun E ρ w Q => ta E ρ w fun x w1 => ∃ c, x = .bl c ∧ Q (.bl (!c)) w1
theorem de_one {op} (h : DE X W a t) : DE X W (.BoolOp op [a] pos) t := by
  obtain ⟨u, p, r⟩ := h.ex
  exact ⟨_, pe_one p, r⟩
theorem de_and (ha : DE X W a ta) (hb : DE X W (.BoolOp .And (b :: rest) pos) tb) : DE X W (.BoolOp .And (a :: b :: rest) pos) (dAndV ta tb) := by
  obtain ⟨ua, pa, ra⟩ := ha.ex
  obtain ⟨ub, pb, rb⟩ := hb.ex
  refine ⟨_, pe_and pa pb, fun F0 E hw F ρ w σ H Qd Q at_ hh k => ra F0 E hw F ρ w σ H _ _ at_ hh fun x w1 F1 v H1 e1 h1 d1 q1 => ?_⟩
  obtain ⟨c, rfl, q⟩ := q1
  refine ⟨c, d1.bl_, ?_⟩
  by_cases hx : c = true
  · rw [if_pos hx] at q ⊢
    exact rb F0 E hw F1 ρ w1 σ H1 _ _ (at_.step e1 h1) q (k.mono e1)
  · rw [if_neg hx] at q ⊢
    exact k _ w1 F1 _ H1 e1 h1 den_bl q
theorem de_or (ha : DE X W a ta) (hb : DE X W (.BoolOp .Or (b :: rest) pos) tb) : DE X W (.BoolOp .Or (a :: b :: rest) pos) (dOrV ta tb) := by
  obtain ⟨ua, pa, ra⟩ := ha.ex
  obtain ⟨ub, pb, rb⟩ := hb.ex
  refine ⟨_, pe_or pa pb, fun F0 E hw F ρ w σ H Qd Q at_ hh k => ra F0 E hw F ρ w σ H _ _ at_ hh fun x w1 F1 v H1 e1 h1 d1 q1 => ?_⟩
  obtain ⟨c, rfl, q⟩ := q1
  refine ⟨c, d1.bl_, ?_⟩
  by_cases hx : c = true
  · rw [if_pos hx] at q ⊢
    exact k _ w1 F1 _ H1 e1 h1 den_bl q
  · rw [if_neg hx] at q ⊢
    exact rb F0 E hw F1 ρ w1 σ H1 _ _ (at_.step e1 h1) q (k.mono e1)
theorem de_not (ha : DE X W a ta) : DE X W (.UnaryOp .Not a pos) (dNotV ta) := by
  obtain ⟨ua, pa, ra⟩ := ha.ex
  refine ⟨_, pe_not pa, fun F0 E hw F ρ w σ H Qd Q at_ hh k => ra F0 E hw F ρ w σ H _ _ at_ hh fun x w1 F1 v H1 e1 h1 d1 q1 => ?_⟩
  obtain ⟨c, rfl, q⟩ := q1
  exact ⟨c, d1.bl_, k _ w1 F1 _ H1 e1 h1 den_bl q⟩
def dIf (t : TTD) (ta tb : TED) : TED := fun E ρ w Q => t E ρ w fun c w1 => if c = true then ta E ρ w1 Q else tb E ρ w1 Q
theorem de_if (hc : DT X W c tA) (ha : DE X W a ta) (hb : DE X W b tb) : DE X W (.IfExp c a b pos) (dIf tA ta tb) := by
  obtain ⟨uc, pc, rc⟩ := hc.ex
  obtain ⟨ua, pa, ra⟩ := ha.ex
  obtain ⟨ub, pb, rb⟩ := hb.ex
  refine ⟨_, pe_ifExp pc pa pb, fun F0 E hw F ρ w σ H Qd Q at_ hh k => rc F0 E hw F ρ w σ H _ _ at_ hh fun x w1 F1 H1 e1 h1 q1 => ?_⟩
  by_cases hx : x = true
  · rw [if_pos hx] at q1 ⊢
    exact ra F0 E hw F1 ρ w1 σ H1 _ _ (at_.step e1 h1) q1 (k.mono e1)
  · rw [if_neg hx] at q1 ⊢
    exact rb F0 E hw F1 ρ w1 σ H1 _ _ (at_.step e1 h1) q1 (k.mono e1)
end
end DL
set_option Elab.async false
set_option linter.all false
set_option maxRecDepth 100000
set_option maxHeartbeats 1000000
/-! DL5: arguments, displays, subscripts, slices; statements; loops. -/
namespace DL
open PySem PySem.Spec PyProof.Rows L2
open Evl (Ex ex_l ex_t)

section
variable {X : Cx} {W : WX} {e a b c : Expr} {es : List Expr} {t ta tb tc : TED} {r : TAD} {pos : Pos}
/-! ### arguments -/
def dNil : TAD := fun _ _ w Q => Q [] w
def dCons (t : TED) (r : TAD) : TAD := fun E ρ w Q => t E ρ w fun x w1 => r E ρ w1 fun xs w2 => Q (x :: xs) w2
def dStar (t : TED) (r : TAD) : TAD := fun E ρ w Q => t E ρ w fun x w1 => ∃ ds, seqD w1 x = some ds ∧ r E ρ w1 fun xs w2 => Q (ds ++ xs) w2
theorem da_nil : DA X W [] dNil := ⟨_, pa_nil, fun F0 E hw F ρ w σ H Qd Q at_ hh k => k [] w F [] H (Evl.Ex.refl _) at_.h DenL.nil hh⟩
theorem da_cons (ha : DE X W e t) (hr : DA X W es r) (hs : starEach (e :: es) X.env = (false, eval e X.env) :: starEach es X.env := by rfl) : DA X W (e :: es) (dCons t r) := by
  obtain ⟨ua, pa, ra⟩ := ha.ex
  obtain ⟨ur, pr, rr⟩ := hr.ex
  refine ⟨_, pa_cons pa pr hs, fun F0 E hw F ρ w σ H Qd Q at_ hh k => ra F0 E hw F ρ w σ H _ _ at_ hh fun x w1 F1 v H1 e1 h1 d1 q1 => ?_⟩
  exact rr F0 E hw F1 ρ w1 σ H1 _ _ (at_.step e1 h1) q1 fun xs w2 F2 vs H2 e2 h2 d2 q2 => k _ w2 F2 _ H2 (e1.trans e2) h2 (DenL.cons (d1.mono e2) d2) q2
theorem da_star {p : Pos} (ha : DE X W e t) (hr : DA X W es r) (hs : starEach (.Starred e p :: es) X.env = (true, eval e X.env) :: starEach es X.env := by rfl) : DA X W (.Starred e p :: es) (dStar t r) := by
  obtain ⟨ua, pa, ra⟩ := ha.ex
  obtain ⟨ur, pr, rr⟩ := hr.ex
  refine ⟨_, StX.pa_star pa pr hs, fun F0 E hw F ρ w σ H Qd Q at_ hh k => ra F0 E hw F ρ w σ H _ _ at_ hh fun x w1 F1 v H1 e1 h1 d1 q1 => ?_⟩
  obtain ⟨ds, hs, q⟩ := q1
  obtain ⟨a, vs, rfl, g1, g2⟩ := seqD_ok h1 d1 hs
  refine ⟨a, vs, rfl, g1.symm, ?_⟩
  exact rr F0 E hw F1 ρ w1 σ H1 _ _ (at_.step e1 h1) q fun xs w2 F2 us H2 e2 h2 d2 q2 => k _ w2 F2 _ H2 (e1.trans e2) h2 ((g2.mono e2).append d2) q2
/-! ### displays -/
def dTup (r : TAD) : TED := fun E ρ w Q => r E ρ w fun xs w1 => xs.length ≤ sizeLine ∧ Q (.tup xs) w1
def dLst (r : TAD) : TED := fun E ρ w Q => r E ρ w fun xs w1 => xs.length ≤ sizeLine ∧ Q (.lst xs) w1
/-- a list of the world: it may be changed -/
def dLstW (r : TAD) : TED := fun E ρ w Q => r E ρ w fun xs w1 => xs.length ≤ sizeLine ∧ ∀ a, w1 a = none → Q (.ref a) (wupd w1 a (.lst xs))
theorem de_tup {x1} (h : DA X W es r) : DE X W (.Tuple es x1 pos) (dTup r) := by
  obtain ⟨ur, pr, rr⟩ := h.ex
  refine ⟨_, pe_tup pr, fun F0 E hw F ρ w σ H Qd Q at_ hh k => rr F0 E hw F ρ w σ H _ _ at_ hh fun xs w1 F1 vs H1 e1 h1 d1 q1 => ?_⟩
  refine ⟨by rw [← d1.len]; exact q1.1, fun p hp => ?_⟩
  have e2 : Ex F1 (upd F1 p (.tup vs)) := Evl.Ex.new (h1.fresh hp).1
  exact k _ w1 _ _ _ (e1.trans e2) (h1.newF hp _) (den_tup (SqT.of upd_same) (d1.mono e2)) q1.2
theorem de_lst (h : DA X W es r) : DE X W (.List es pos) (dLst r) := by
  obtain ⟨ur, pr, rr⟩ := h.ex
  refine ⟨_, pe_lst pr, fun F0 E hw F ρ w σ H Qd Q at_ hh k => rr F0 E hw F ρ w σ H _ _ at_ hh fun xs w1 F1 vs H1 e1 h1 d1 q1 => ?_⟩
  refine ⟨by rw [← d1.len]; exact q1.1, fun p hp => ?_⟩
  have e2 : Ex F1 (upd F1 p (.lst vs)) := Evl.Ex.new (h1.fresh hp).1
  exact k _ w1 _ _ _ (e1.trans e2) (h1.newF hp _) (den_lst upd_same (d1.mono e2)) q1.2
theorem de_lstW (h : DA X W es r) : DE X W (.List es pos) (dLstW r) := by
  obtain ⟨ur, pr, rr⟩ := h.ex
  refine ⟨_, pe_lst pr, fun F0 E hw F ρ w σ H Qd Q at_ hh k => rr F0 E hw F ρ w σ H _ _ at_ hh fun xs w1 F1 vs H1 e1 h1 d1 q1 => ?_⟩
  refine ⟨by rw [← d1.len]; exact q1.1, fun p hp => ?_⟩
  exact k _ _ F1 _ _ e1 (h1.newW (u := .lst xs) hp ⟨vs, upd_same, d1⟩) den_ref (q1.2 p (h1.fresh hp).2)
/-! ### subscripts -/
theorem DenL.atI {K : PySem.W.Frag} {F : Hp} {ds : List D} {vs : List V} {i : Int} {d : D} (h : DenL K F ds vs) (e : L2.atI ds i = some d) : ∃ v, L2.atI vs i = some v ∧ Den K F d v := by
  unfold L2.atI at e ⊢
  rw [← h.len]
  cases q : ixN ds.length i with
  | none => rw [q] at e; cases e
  | some j =>
    rw [q] at e
    exact h.at e
def ixD : R2D := fun x y w Q => ∃ i, y = .int i ∧
  match x with
  | .str z => z.length ≤ sizeLine ∧ ∃ c, atI z.cps.toList i = some c ∧ Q (.str ⟨#[c]⟩) w
  | x => ∃ ds d, seqD w x = some ds ∧ atI ds i = some d ∧ Q d w
theorem lift_ix {K : PySem.W.Frag} : Lift2 K ixD (rIx K) := by
  intro F w H x y d e Qd Q r dx dy h k
  obtain ⟨i, rfl, h⟩ := h
  cases dy.int_
  split at h
  · obtain ⟨hl, c, hc, q⟩ := h
    cases dx.str_
    exact .inr (.inr ⟨_, i, c, rfl, rfl, hl, hc, k _ w F _ H (Evl.Ex.refl _) r den_str q⟩)
  · obtain ⟨ds, d', hs, hi, q⟩ := h
    obtain ⟨a, vs, rfl, g1, g2⟩ := seqD_ok r dx hs
    obtain ⟨v, hv, dv⟩ := g2.atI hi
    rcases g1 with g1 | g1
    · exact .inl ⟨a, vs, i, v, rfl, rfl, g1, hv, k _ w F _ H (Evl.Ex.refl _) r dv q⟩
    · exact .inr (.inl ⟨a, vs, i, v, rfl, rfl, g1, hv, k _ w F _ H (Evl.Ex.refl _) r dv q⟩)
theorem de_ix (ha : DE X W a ta) (hb : DE X W b tb) (hs : PlainIx b := by exact fun _ _ => rfl) : DE X W (.Subscript a b pos) (dBin ixD ta tb) := by
  obtain ⟨ua, pa, ra⟩ := ha.ex
  obtain ⟨ub, pb, rb⟩ := hb.ex
  exact ⟨_, pe_ix ix_seq pa pb hs, bin_ref lift_ix ra rb⟩
/-! ### slices -/
abbrev TOD := XD → Rho → Wd → (Option Int → Wd → Prop) → Prop
def EndO (K : PySem.W.Frag) (F : Hp) (Qd : Option Int → Wd → Prop) (Q : Option Int → Hp → Prop) : Prop := ∀ o w' F' H', Ex F F' → RelH K F' w' H' → Qd o w' → Q o H'
structure DO' (X : Cx) (W : WX) (e : Option Expr) (t : TOD) : Prop where
  ex : ∃ te, PO X e te ∧ ∀ F0 E, WishOk X.K W F0 E → ∀ F ρ w σ H Qd Q, At X.K F0 F ρ w σ H → t E ρ w Qd → EndO X.K F Qd Q → te σ H Q
def dNoPart : TOD := fun _ _ w Q => Q none w
def dPart (t : TED) : TOD := fun E ρ w Q => t E ρ w fun x w1 => ∃ i, x = .int i ∧ Q (some i) w1
theorem do_none : DO' X W none dNoPart := ⟨_, po_none, fun F0 E hw F ρ w σ H Qd Q at_ hh k => k none w F H (Evl.Ex.refl _) at_.h hh⟩
theorem do_some (h : DE X W e t) : DO' X W (some e) (dPart t) := by
  obtain ⟨u, p, r⟩ := h.ex
  refine ⟨_, po_some p, fun F0 E hw F ρ w σ H Qd Q at_ hh k => r F0 E hw F ρ w σ H _ _ at_ hh fun x w1 F1 v H1 e1 h1 d1 q1 => ?_⟩
  obtain ⟨i, rfl, q⟩ := q1
  exact ⟨i, d1.int_, k _ w1 F1 H1 e1 h1 q⟩
def cutD (xs : List D) (lo hi : Option Int) : List D := (xs.drop (HT.sIx xs.length 0 lo)).take (HT.sIx xs.length xs.length hi - HT.sIx xs.length 0 lo)
theorem DenL.cut {K : PySem.W.Frag} {F : Hp} {ds : List D} {vs : List V} (h : DenL K F ds vs) (lo hi : Option Int) : DenL K F (cutD ds lo hi) (cutV vs lo hi) := by
  unfold cutD cutV
  rw [← h.len]
  exact (h.drop _).take _
def slD (x : D) (lo hi : Option Int) (w : Wd) (Q : VKD) : Prop :=
  match x with
  | .str z => z.length ≤ sizeLine ∧ Q (.str (cutS z lo hi)) w
  | .tup ds => Q (.tup (cutD ds lo hi)) w
  | x => ∃ ds, lstD w x = some ds ∧ Q (.lst (cutD ds lo hi)) w
def rSlAll (K : PySem.W.Frag) : V → Option Int → Option Int → Hp → VK → Prop := fun x lo hi H Q => rSlL K x lo hi H Q ∨ rSlA K x lo hi H Q ∨ rSlS x lo hi H Q
theorem slD_ok {K : PySem.W.Frag} {F w H x d lo hi Qd Q} (r : RelH K F w H) (dx : Den K F x d) (h : slD x lo hi w Qd) (k : EndV K F Qd Q) : rSlAll K d lo hi H Q := by
  unfold slD at h
  split at h
  · cases dx.str_
    exact .inr (.inr ⟨_, rfl, h.1, k _ w F _ H (Evl.Ex.refl _) r den_str h.2⟩)
  · rename_i ds
    obtain ⟨a, vs, rfl, h1, h2⟩ := dx.tup_
    refine .inr (.inl ⟨a, vs, rfl, ex_t r.ex h1, fun hw => ?_, fun _ p hp => ?_⟩)
    · have ec : cutV vs lo hi = vs := by
        unfold cutV
        rw [hw.1, hw.2]
        simp
      have hc := h2.cut lo hi
      rw [ec] at hc
      exact k _ w F _ H (Evl.Ex.refl _) r (den_tup h1 hc) h
    · have e1 : Ex F (upd F p (.tup (cutV vs lo hi))) := Evl.Ex.new (r.fresh hp).1
      exact k _ w _ _ _ e1 (r.newF hp _) (den_tup (SqT.of upd_same) ((h2.cut lo hi).mono e1)) h
  · obtain ⟨ds, hs, q⟩ := h
    obtain ⟨a, vs, rfl, h1, h2⟩ := lstD_ok r dx hs
    refine .inl ⟨a, vs, rfl, h1, fun p hp => ?_⟩
    have e1 : Ex F (upd F p (.lst (cutV vs lo hi))) := Evl.Ex.new (r.fresh hp).1
    exact k _ w _ _ _ e1 (r.newF hp _) (den_lst upd_same ((h2.cut lo hi).mono e1)) q
def dSl (t : TED) (l h : TOD) : TED := fun E ρ w Q => t E ρ w fun x w1 => l E ρ w1 fun lo w2 => h E ρ w2 fun hi w3 => slD x lo hi w3 Q
theorem de_sl {lo hi : Option Expr} {tl th : TOD} {p2 : Pos} (ha : DE X W e t) (hl : DO' X W lo tl) (hh : DO' X W hi th) : DE X W (.Subscript e (.Slice lo hi none p2) pos) (dSl t tl th) := by
  obtain ⟨ua, pa, ra⟩ := ha.ex
  obtain ⟨ul, pl, rl⟩ := hl.ex
  obtain ⟨uh, ph, rh⟩ := hh.ex
  refine ⟨_, pe_slice (SlR.or sl_list (SlR.or sl_tupA sl_str)) pa pl ph, fun F0 E hw F ρ w σ H Qd Q at_ hh k => ra F0 E hw F ρ w σ H _ _ at_ hh fun x w1 F1 v H1 e1 h1 d1 q1 => ?_⟩
  have a1 := at_.step e1 h1
  refine rl F0 E hw F1 ρ w1 σ H1 _ _ a1 q1 fun lo w2 F2 H2 e2 h2 q2 => ?_
  have a2 := a1.step e2 h2
  exact rh F0 E hw F2 ρ w2 σ H2 _ _ a2 q2 fun hi w3 F3 H3 e3 h3 q3 => slD_ok h3 (d1.mono (e2.trans e3)) q3 (k.mono ((e1.trans e2).trans e3))
/-- xs[::-1] of a list -/
def dRevL (t : TED) : TED := fun E ρ w Q => t E ρ w fun x w1 => ∃ ds, lstD w1 x = some ds ∧ Q (.lst ds.reverse) w1
theorem de_revL {k : Nat} {p1 p2 p3 : Pos} (ha : DE X W e t) : DE X W (.Subscript e (.Slice none none (some (.UnaryOp .USub (.Constant (.int 1) k p1) p2)) p3) pos) (dRevL t) := by
  obtain ⟨ua, pa, ra⟩ := ha.ex
  refine ⟨_, pe_revL pa, fun F0 E hw F ρ w σ H Qd Q at_ hh k => ra F0 E hw F ρ w σ H _ _ at_ hh fun x w1 F1 v H1 e1 h1 d1 q1 => ?_⟩
  obtain ⟨ds, hs, q⟩ := q1
  obtain ⟨a, vs, rfl, g1, g2⟩ := lstD_ok h1 d1 hs
  refine ⟨a, vs, rfl, g1, fun p hp => ?_⟩
  have e2 : Ex F1 (upd F1 p (.lst vs.reverse)) := Evl.Ex.new (h1.fresh hp).1
  exact k _ w1 _ _ _ (e1.trans e2) (h1.newF hp _) (den_lst upd_same (g2.reverse.mono e2)) q

/-! ### statements -/
variable {st : Stmt} {sts : List Stmt} {s u : TSD}
def dNext : TSD := fun _ D ρ w => D.nx ρ w
def dSeq (s u : TSD) : TSD := fun E D ρ w => s E { D with nx := u E D } ρ w
theorem dss_nil : DSs X W [] dNext := ⟨_, pss_nil, fun F0 E hw F ρ w σ H De Dh at_ hh k => k.nx ρ w F σ H (Evl.Ex.refl _) at_.h at_.r hh⟩
theorem dss_cons (h1 : DS X W st s) (h2 : DSs X W sts u) : DSs X W (st :: sts) (dSeq s u) := by
  obtain ⟨u1, p1, r1⟩ := h1.ex
  obtain ⟨u2, p2, r2⟩ := h2.ex
  refine ⟨_, pss_cons p1 p2, fun F0 E hw F ρ w σ H De Dh at_ hh k => r1 F0 E hw F ρ w σ H _ _ at_ hh ⟨fun ρ' w' F' σ' H' e h' r' q => ?_, k.rt, k.bk, k.ct⟩⟩
  exact r2 F0 E hw F' ρ' w' σ' H' _ _ (at_.stepR e h' r') q (k.mono e)
theorem dss_one (h : DS X W st s) : DSs X W [st] s := by
  obtain ⟨u, p, r⟩ := h.ex
  exact ⟨_, pss_one p, r⟩
def dBreak : TSD := fun _ D ρ w => D.bk ρ w
def dCont : TSD := fun _ D ρ w => D.ct ρ w
theorem ds_pass : DS X W (.Pass pos) dNext := ⟨_, ps_pass, fun F0 E hw F ρ w σ H De Dh at_ hh k => k.nx ρ w F σ H (Evl.Ex.refl _) at_.h at_.r hh⟩
theorem ds_break : DS X W (.Break pos) dBreak := ⟨_, ps_break, fun F0 E hw F ρ w σ H De Dh at_ hh k => k.bk ρ w F σ H (Evl.Ex.refl _) at_.h at_.r hh⟩
theorem ds_cont : DS X W (.Continue pos) dCont := ⟨_, ps_continue, fun F0 E hw F ρ w σ H De Dh at_ hh k => k.ct ρ w F σ H (Evl.Ex.refl _) at_.h at_.r hh⟩
/-- code that is never reached -/
theorem ds_never : DS X W st (fun _ _ _ _ => False) := ⟨_, ps_never, fun F0 E hw F ρ w σ H De Dh at_ hh k => hh⟩
theorem dss_never : DSs X W sts (fun _ _ _ _ => False) := ⟨_, pss_never, fun F0 E hw F ρ w σ H De Dh at_ hh k => hh⟩
def dDrop (t : TED) : TSD := fun E D ρ w => t E ρ w fun _ w1 => D.nx ρ w1
theorem ds_expr (h : DE X W e t) (hs : swapsWith e none pos.line X.env = pure false := by rfl) : DS X W (.Expr e pos) (dDrop t) := by
  obtain ⟨u, p, r⟩ := h.ex
  exact ⟨_, ps_expr p hs, fun F0 E hw F ρ w σ H De Dh at_ hh k => r F0 E hw F ρ w σ H _ _ at_ hh fun x w1 F1 v H1 e1 h1 d1 q1 => k.nx ρ w1 F1 σ H1 e1 h1 (at_.r.mono e1) q1⟩
/-- what is known of a value and the world may be told otherwise: objects forgotten, lists frozen -/
def Frz (d : D) (w : Wd) (d' : D) (w' : Wd) : Prop := ∀ (K : PySem.W.Frag) F H v, RelH K F w H → Den K F d v → ∃ F', Ex F F' ∧ RelH K F' w' H ∧ Den K F' d' v
theorem Frz.refl {d : D} {w : Wd} : Frz d w d w := fun K F H v r h => ⟨F, Evl.Ex.refl _, r, h⟩
theorem Frz.weak {d : D} {w w' : Wd} (l : WLe w' w) : Frz d w d w' := fun K F H v r h => ⟨F, Evl.Ex.refl _, r.weak l, h⟩
theorem Frz.trans {d d' d'' : D} {w w' w'' : Wd} (a : Frz d w d' w') (b : Frz d' w' d'' w'') : Frz d w d'' w'' := fun K F H v r h => by
  obtain ⟨F1, e1, r1, h1⟩ := a K F H v r h
  obtain ⟨F2, e2, r2, h2⟩ := b K F1 H v r1 h1
  exact ⟨F2, e1.trans e2, r2, h2⟩
theorem Frz.lst {a : Addr} {w : Wd} {ds : List D} (h : w a = some (.lst ds)) : Frz (.ref a) w (.lst ds) (wdel w a) := fun K F H v r dn => by
  obtain ⟨F', e, r', d'⟩ := r.freeze h
  cases dn.ref_
  exact ⟨F', e, r', d'⟩
def dRet (t : TED) : TSD := fun E D ρ w => t E ρ w fun x w1 => ∃ x' w2, Frz x w1 x' w2 ∧ D.rt x' w2
theorem ds_ret (h : DE X W e t) : DS X W (.Return (some e) pos) (dRet t) := by
  obtain ⟨u, p, r⟩ := h.ex
  refine ⟨_, ps_ret p, fun F0 E hw F ρ w σ H De Dh at_ hh k => r F0 E hw F ρ w σ H _ _ at_ hh fun x w1 F1 v H1 e1 h1 d1 q1 => ?_⟩
  obtain ⟨x', w2, fz, q⟩ := q1
  obtain ⟨F2, e2, r2, d2⟩ := fz X.K F1 H1 v h1 d1
  exact k.rt x' w2 F2 v H1 (e1.trans e2) r2 d2 q
def dRetN : TSD := fun _ D _ w => ∃ w2, WLe w2 w ∧ D.rt .non w2
theorem ds_retN : DS X W (.Return none pos) dRetN := ⟨_, ps_retN, fun F0 E hw F ρ w σ H De Dh at_ hh k => by
  obtain ⟨w2, l, q⟩ := hh
  exact k.rt .non w2 F .non H (Evl.Ex.refl _) (at_.h.weak l) den_non q⟩
/-- .. at a block's place: the slots and the world told otherwise -/
def Ghost (ρ : Rho) (w : Wd) (ρ' : Rho) (w' : Wd) : Prop := ∀ (K : PySem.W.Frag) F σ H, RelH K F w H → RelR K F ρ σ → ∃ F', Ex F F' ∧ RelH K F' w' H ∧ RelR K F' ρ' σ
theorem Ghost.refl {ρ : Rho} {w : Wd} : Ghost ρ w ρ w := fun K F σ H r h => ⟨F, Evl.Ex.refl _, r, h⟩
theorem Ghost.trans {ρ ρ' ρ'' : Rho} {w w' w'' : Wd} (a : Ghost ρ w ρ' w') (b : Ghost ρ' w' ρ'' w'') : Ghost ρ w ρ'' w'' := fun K F σ H r h => by
  obtain ⟨F1, e1, r1, h1⟩ := a K F σ H r h
  obtain ⟨F2, e2, r2, h2⟩ := b K F1 σ H r1 h1
  exact ⟨F2, e1.trans e2, r2, h2⟩
theorem Ghost.weak {ρ : Rho} {w w' : Wd} (l : WLe w' w) : Ghost ρ w ρ w' := fun K F σ H r h => ⟨F, Evl.Ex.refl _, r.weak l, h⟩
theorem Ghost.lst {ρ : Rho} {w : Wd} {i : Nat} {a : Addr} {ds : List D} (hi : ρ[i]? = some (some (.ref a))) (h : w a = some (.lst ds)) : Ghost ρ w (ρ.set i (some (.lst ds))) (wdel w a) := fun K F σ H r rr => by
  obtain ⟨F', e, r', d'⟩ := r.freeze h
  refine ⟨F', e, r', ?_⟩
  obtain ⟨v, hv, dv⟩ := rr.at_ i _ hi
  cases dv.ref_
  have := (rr.mono e).set (i := i) d'
  rwa [show σ.set i (some (V.ref a)) = σ from List.ext_getElem? fun j => by
    rw [List.getElem?_set]
    by_cases hj : i = j
    · subst hj
      rw [if_pos rfl, if_pos (List.getElem?_eq_some_iff.mp hv).1, hv]
    · rw [if_neg hj]] at this
def dGhost (s : TSD) : TSD := fun E D ρ w => ∃ ρ' w', Ghost ρ w ρ' w' ∧ s E D ρ' w'
theorem dss_ghost (h : DSs X W sts s) : DSs X W sts (dGhost s) := by
  obtain ⟨u, p, r⟩ := h.ex
  refine ⟨_, p, fun F0 E hw F ρ w σ H De Dh at_ hh k => ?_⟩
  obtain ⟨ρ', w', g, q⟩ := hh
  obtain ⟨F1, e1, r1, rr1⟩ := g X.K F σ H at_.h at_.r
  exact r F0 E hw F1 ρ' w' σ H De Dh (at_.stepR e1 r1 rr1) q (k.mono e1)
def dFrz (t : TED) : TED := fun E ρ w Q => t E ρ w fun x w1 => ∃ x' w2, Frz x w1 x' w2 ∧ Q x' w2
theorem de_frz (h : DE X W e t) : DE X W e (dFrz t) := by
  obtain ⟨u, p, r⟩ := h.ex
  refine ⟨_, p, fun F0 E hw F ρ w σ H Qd Q at_ hh k => r F0 E hw F ρ w σ H _ _ at_ hh fun x w1 F1 v H1 e1 h1 d1 q1 => ?_⟩
  obtain ⟨x', w2, fz, q⟩ := q1
  obtain ⟨F2, e2, r2, d2⟩ := fz X.K F1 H1 v h1 d1
  exact k x' w2 F2 v H1 (e1.trans e2) r2 d2 q
def dIfS (c : TTD) (s u : TSD) : TSD := fun E D ρ w => c E ρ w fun b w1 => if b = true then s E D ρ w1 else u E D ρ w1
theorem ds_if {x y : List Stmt} {tc : TTD} (hc : DT X W c tc) (ha : DSs X W x s) (hb : DSs X W y u) : DS X W (.If c x y pos) (dIfS tc s u) := by
  obtain ⟨uc, pc, rc⟩ := hc.ex
  obtain ⟨ua, pa, ra⟩ := ha.ex
  obtain ⟨ub, pb, rb⟩ := hb.ex
  refine ⟨_, ps_if pc pa pb, fun F0 E hw F ρ w σ H De Dh at_ hh k => rc F0 E hw F ρ w σ H _ _ at_ hh fun x w1 F1 H1 e1 h1 q1 => ?_⟩
  by_cases hx : x = true
  · rw [if_pos hx] at q1 ⊢
    exact ra F0 E hw F1 ρ w1 σ H1 _ _ (at_.step e1 h1) q1 (k.mono e1)
  · rw [if_neg hx] at q1 ⊢
    exact rb F0 E hw F1 ρ w1 σ H1 _ _ (at_.step e1 h1) q1 (k.mono e1)
def dSet (i : Nat) (t : TED) : TSD := fun E D ρ w => t E ρ w fun x w1 => D.nx (ρ.set i (some x)) w1
theorem ds_set {i : Nat} {x : Str} {pos' : Pos} (hN : X.N.Nodup) (he : DE X W e t) (hi : X.N[i]? = some x := by rfl) (hx : Loc X.env.scope x := by first | exact Or.inl rfl | exact Or.inr rfl) (hs : swapsWith e (some (.Name x pos')) pos.line X.env = pure false := by rfl)
    (hf : X.fn x = true ∨ X.env.scope.names.lookup x = some .local := by first | exact .inl rfl | exact .inr rfl | assumption) : DS X W (.Assign [.Name x pos'] e pos) (dSet i t) := by
  obtain ⟨u, p, r⟩ := he.ex
  exact ⟨_, ps_set hN hi hx p hs hf, fun F0 E hw F ρ w σ H De Dh at_ hh k => r F0 E hw F ρ w σ H _ _ at_ hh fun x w1 F1 v H1 e1 h1 d1 q1 => k.nx _ w1 F1 _ H1 e1 h1 ((at_.r.mono e1).set d1) q1⟩
/-! ### targets -/
theorem wipe_comm {i : Nat} {o : Option V} : ∀ (vs : List Nat) (σ : L2.St), i ∉ vs → wipe (σ.set i o) vs = (wipe σ vs).set i o
  | [], σ, _ => rfl
  | k :: vs, σ, hn => by
    show (wipe (σ.set i o) vs).set k none = ((wipe σ vs).set k none).set i o
    rw [wipe_comm vs σ (fun z => hn (List.mem_cons_of_mem _ z))]
    exact List.set_comm _ _ (fun z => hn (by rw [z]; exact List.mem_cons_self))
theorem wipe_set {i : Nat} {o : Option V} : ∀ {vs : List Nat} {σ : L2.St}, i ∈ vs → wipe (σ.set i o) vs = wipe σ vs
  | [], σ, h => by cases h
  | j :: vs, σ, h => by
    show (wipe (σ.set i o) vs).set j none = (wipe σ vs).set j none
    by_cases hm : i ∈ vs
    · rw [wipe_set hm]
    · have hj : i = j := by
        rcases List.mem_cons.mp h with q | q
        · exact q
        · exact absurd q hm
      subst hj
      rw [wipe_comm vs σ hm, List.set_set]
theorem wipe_idem : ∀ (vs : List Nat) (σ : L2.St), wipe (wipe σ vs) vs = wipe σ vs
  | [], σ => rfl
  | j :: vs, σ => by
    show (wipe ((wipe σ vs).set j none) vs).set j none = (wipe σ vs).set j none
    by_cases hm : j ∈ vs
    · rw [wipe_set hm, wipe_idem vs σ]
    · rw [wipe_comm vs _ hm, List.set_set, wipe_idem vs σ]
def gdName (i : Nat) : TGD := fun d ρ w Q => Q (ρ.set i (some d)) w
theorem dg_name {i : Nat} {x : Str} (hN : X.N.Nodup) (hi : X.N[i]? = some x := by rfl) (hx : Loc X.env.scope x := by first | exact Or.inl rfl | exact Or.inr rfl) (hf : X.fn x = true ∨ X.env.scope.names.lookup x = some .local := by first | exact .inl rfl | exact .inr rfl | assumption) : DG X [i] (.Name x pos) (gdName i) :=
  ⟨_, pg_name hN hi hx hf, fun F ρ w σ H d v Qd Q r rr dn q k => k _ w F _ H (Evl.Ex.refl _) r (rr.set dn) q, fun vs' hv v σ H Q Q' q k => k _ _ (wipe_set (hv i (List.mem_singleton.mpr rfl))) q⟩
def gdNil : TGsD := fun ds ρ w Q => ds = [] ∧ Q ρ w
def gdCons (g : TGD) (gs : TGsD) : TGsD := fun ds ρ w Q => ∃ d r, ds = d :: r ∧ g d ρ w fun ρ' w' => gs r ρ' w' Q
theorem dgs_nil : DGs X [] [] gdNil :=
  ⟨_, pgs_nil, fun F ρ w σ H ds us Qd Q r rr dn q k => by
    obtain ⟨rfl, q⟩ := q
    exact ⟨denL_nil dn, k _ w F _ H (Evl.Ex.refl _) r rr q⟩, fun vs' hv us σ H Q Q' q k => ⟨q.1, k _ _ rfl q.2⟩⟩
theorem dgs_cons {vs us : List Nat} {g : TGD} {gs : TGsD} (h1 : DG X vs e g) (h2 : DGs X us es gs) (hs : (assignEach (e :: es) X.env).map (·.2) = assign e X.env :: (assignEach es X.env).map (·.2) := by rfl) : DGs X (vs ++ us) (e :: es) (gdCons g gs) := by
  obtain ⟨u1, p1, r1, s1⟩ := h1.ex
  obtain ⟨u2, p2, r2, s2⟩ := h2.ex
  refine ⟨_, pgs_cons p1 p2 hs, fun F ρ w σ H ds us Qd Q r rr dn q k => ?_, fun vs' hv us' σ H Q Q' q k => ?_⟩
  · obtain ⟨d, l, rfl, q⟩ := q
    obtain ⟨v, m, rfl, d1, d2⟩ := denL_cons dn
    refine ⟨v, m, rfl, r1 F ρ w σ H d v _ _ r rr d1 q fun ρ' w' F' σ' H' e' h' r' q' => ?_⟩
    exact r2 F' ρ' w' σ' H' l m _ _ h' r' (d2.mono e') q' (k.mono e')
  · obtain ⟨v, m, rfl, q⟩ := q
    refine ⟨v, m, rfl, ?_⟩
    exact s1 vs' (fun i hi => hv i (List.mem_append_left _ hi)) v σ H _ _ q fun σ' H' e1 q' => s2 vs' (fun i hi => hv i (List.mem_append_right _ hi)) m σ' H' _ _ q' fun σ2 H2 e2 q2 => k σ2 H2 (e2.trans e1) q2
/-- (a, b, ..) = a tuple of that length -/
def gdTup (n : Nat) (gs : TGsD) : TGD := fun d ρ w Q => ∃ ds, d = .tup ds ∧ ds.length = n ∧ gs ds ρ w Q
theorem dg_tup {vs : List Nat} {gs : TGsD} {k n : Nat} (hc : X.calm = true) (h : DGs X vs es gs) (hn : (assignEach es X.env).length = n := by rfl) (hst : (assignEach es X.env).findIdx? (·.1) = none := by rfl) : DG X vs (.Tuple es k pos) (gdTup n gs) := by
  obtain ⟨u, p, r, s⟩ := h.ex
  refine ⟨_, pg_tup hc p hn hst, fun F ρ w σ H d v Qd Q rh rr dn q k => ?_, fun vs' hv v σ H Q Q' q k => ?_⟩
  · obtain ⟨ds, rfl, hl, q⟩ := q
    obtain ⟨a, us, rfl, h1, h2⟩ := dn.tup_
    exact ⟨a, us, rfl, ex_t rh.ex h1, by rw [← h2.len]; exact hl, r F ρ w σ H ds us _ _ rh rr h2 q k⟩
  · obtain ⟨a, us, rfl, h1, hl, q⟩ := q
    exact ⟨a, us, rfl, h1, hl, s vs' hv us σ H _ _ q k⟩
def dAsg (t : TED) (g : TGD) : TSD := fun E D ρ w => t E ρ w fun x w1 => g x ρ w1 D.nx
theorem ds_asg {tg : Expr} {vs : List Nat} {g : TGD} (he : DE X W e t) (hg : DG X vs tg g) (hs : swapsWithSole [tg] e pos.line X.env = pure false := by rfl) (hw : swappedStores [tg] e X.env = pure none := by rfl)
    (h1 : (assignEach [tg] X.env).map (·.2) = [assign tg X.env] := by rfl) : DS X W (.Assign [tg] e pos) (dAsg t g) := by
  obtain ⟨u, p, r⟩ := he.ex
  obtain ⟨ug, pg, rg, _⟩ := hg.ex
  exact ⟨_, ps_asg p pg hs hw h1, fun F0 E hw F ρ w σ H De Dh at_ hh k => r F0 E hw F ρ w σ H _ _ at_ hh fun x w1 F1 v H1 e1 h1 d1 q1 => rg F1 ρ w1 σ H1 x v _ _ h1 (at_.r.mono e1) d1 q1 (k.nx.mono e1)⟩
/-- a, b = x, y -/
def dPar (i j : Nat) (r : TAD) : TSD := fun E D ρ w => r E ρ w fun xs w1 => ∃ x y, xs = [x, y] ∧ D.nx ((ρ.set i (some x)).set j (some y)) w1
theorem ds_par {i j : Nat} {x y : Str} {px py pt : Pos} {kt k2 pt2} (hc : X.calm = true) (hN : X.N.Nodup) (ha : DA X W [a, b] r) (hij : i ≠ j) (hi : X.N[i]? = some x := by rfl) (hj : X.N[j]? = some y := by rfl)
    (hx : X.env.scope.names.lookup x = some .local := by rfl) (hy : X.env.scope.names.lookup y = some .local := by rfl)
    (hw : swappedStores [.Tuple [.Name x px, .Name y py] kt pt] (.Tuple [a, b] k2 pt2) X.env = pure (some [x, y]) := by rfl)
    (hs : swapsWithSole [.Tuple [.Name x px, .Name y py] kt pt] (.Tuple [a, b] k2 pt2) pos.line X.env = pure false := by rfl) :
    DS X W (.Assign [.Tuple [.Name x px, .Name y py] kt pt] (.Tuple [a, b] k2 pt2) pos) (dPar i j r) := by
  obtain ⟨u, p, rr⟩ := ha.ex
  refine ⟨_, ps_par hc hN hi hj hij hx hy p hw hs, fun F0 E hw F ρ w σ H De Dh at_ hh k => rr F0 E hw F ρ w σ H _ _ at_ hh fun xs w1 F1 vs H1 e1 h1 d1 q1 => ?_⟩
  obtain ⟨x, y, rfl, q⟩ := q1
  obtain ⟨v, r1, rfl, da, d2⟩ := denL_cons d1
  obtain ⟨v2, r2, rfl, db, d3⟩ := denL_cons d2
  rw [denL_nil d3]
  exact ⟨v, v2, rfl, k.nx _ w1 F1 _ H1 e1 h1 (((at_.r.mono e1).set da).set db) q⟩
/-- x op= e -/
def dAug (i : Nat) (t : TED) (f : R2D) : TSD := fun E D ρ w => ∃ x, ρ[i]? = some (some x) ∧ t E ρ w fun y w1 => f x y w1 fun z w2 => D.nx (ρ.set i (some z)) w2
theorem ds_aug {i : Nat} {x : Str} {op : Operator} {f : R2D} {rr : R2} {pos' : Pos} (hN : X.N.Nodup) (he : DE X W e t) (ho : OpR X (inplaceOp op) rr) (hf : Lift2 X.K f rr) (hi : X.N[i]? = some x := by rfl) (hx : Loc X.env.scope x := by first | exact Or.inl rfl | exact Or.inr rfl)
    (hfn : X.fn x = true ∨ X.env.scope.names.lookup x = some .local := by first | exact .inl rfl | exact .inr rfl | assumption) : DS X W (.AugAssign (.Name x pos') op e pos) (dAug i t f) := by
  obtain ⟨u, p, r⟩ := he.ex
  refine ⟨_, ps_aug hN hi hx p (op := op) (ti := rr) ho hfn, fun F0 E hw F ρ w σ H De Dh at_ hh k => ?_⟩
  obtain ⟨y, hy, q⟩ := hh
  obtain ⟨v, hv, dv⟩ := at_.r.at_ i y hy
  refine ⟨v, hv, r F0 E hw F ρ w σ H _ _ at_ q fun x w1 F1 v1 H1 e1 h1 d1 q1 => ?_⟩
  exact hf F1 w1 H1 y x v v1 _ _ h1 (dv.mono e1) d1 q1 fun z w2 F2 v2 H2 e2 h2 d2 q2 => k.nx _ w2 F2 _ H2 (e1.trans e2) h2 ((at_.r.mono (e1.trans e2)).set d2) q2
def rIAddA : R2 := fun x y H Q => rI0 (fun i j => .int (i + j)) x y H Q ∨ (∃ i j, x = .str i ∧ y = .str j ∧ i.length + j.length ≤ sizeLine ∧ Q (.str (i ++ j)) H)
def iaddD : R2D := fun x y w Q =>
  match x, y with
  | .int i, .int j => Q (.int (i + j)) w
  | .str i, .str j => i.length + j.length ≤ sizeLine ∧ Q (.str (i ++ j)) w
  | _, _ => False
theorem lift_iadd {K : PySem.W.Frag} : Lift2 K iaddD rIAddA := by
  intro F w H x y d e Qd Q r dx dy h k
  unfold iaddD at h
  split at h
  · cases dx.int_; cases dy.int_
    exact .inl ⟨_, _, rfl, rfl, k _ w F _ H (Evl.Ex.refl _) r den_int h⟩
  · cases dx.str_; cases dy.str_
    exact .inr ⟨_, _, rfl, rfl, h.1, k _ w F _ H (Evl.Ex.refl _) r den_str h.2⟩
  · exact h.elim
theorem ds_iadd {i : Nat} {x : Str} {pos' : Pos} (hN : X.N.Nodup) (he : DE X W e t) (hi : X.N[i]? = some x := by rfl) (hx : Loc X.env.scope x := by first | exact Or.inl rfl | exact Or.inr rfl)
    (hfn : X.fn x = true ∨ X.env.scope.names.lookup x = some .local := by first | exact .inl rfl | exact .inr rfl | assumption) : DS X W (.AugAssign (.Name x pos') .Add e pos) (dAug i t iaddD) :=
  ds_aug hN he (OpR.or iop_add iop_add_str) lift_iadd hi hx hfn
/-! ### loops -/
def dWhile (c : TTD) (s : TSD) : TSD := fun E D ρ w => ∃ Pv : Nat → Rho → Wd → Prop, (∃ m, Pv m ρ w) ∧ ∀ m ρ w, Pv m ρ w → c E ρ w fun b w1 => if b = true then s E { D with nx := fun ρ' w' => ∃ m', m' < m ∧ Pv m' ρ' w', ct := fun ρ' w' => ∃ m', m' < m ∧ Pv m' ρ' w', bk := D.nx } ρ w1 else D.nx ρ w1
theorem ds_while {body : List Stmt} {tc : TTD} (hp : PassesOwn (model X.prog X.w) X.A X.env X.xe) (hc : DT X W c tc) (hb : DSs X W body s) : DS X W (.While c body [] pos) (dWhile tc s) := by
  obtain ⟨uc, pc, rc⟩ := hc.ex
  obtain ⟨ub, pb, rb⟩ := hb.ex
  refine ⟨_, ps_while hp pc pb, fun F0 E hw F ρ w σ H De Dh at_ hh k => ?_⟩
  obtain ⟨Pv, ⟨m0, h0⟩, hs⟩ := hh
  refine ⟨fun m σ H => ∃ F' ρ w, Ex F F' ∧ At X.K F0 F' ρ w σ H ∧ Pv m ρ w, ⟨m0, F, ρ, w, Evl.Ex.refl _, at_, h0⟩, fun m σ1 H1 ⟨F1, ρ1, w1, e1, a1, p1⟩ => ?_⟩
  refine rc F0 E hw F1 ρ1 w1 σ1 H1 _ _ a1 (hs m ρ1 w1 p1) fun b w2 F2 H2 e2 h2 q2 => ?_
  have a2 := a1.step e2 h2
  by_cases hb : b = true
  · rw [if_pos hb] at q2 ⊢
    have nxt : EndR X.K F2 (fun ρ' w' => ∃ m', m' < m ∧ Pv m' ρ' w') (fun σ' H' => ∃ m', m' < m ∧ ∃ F' ρ w, Ex F F' ∧ At X.K F0 F' ρ w σ' H' ∧ Pv m' ρ w) :=
      fun ρ' w' F' σ' H' e' h' r' q' => by
        obtain ⟨m', hm, q'⟩ := q'
        exact ⟨m', hm, F', ρ', w', (e1.trans e2).trans e', a2.stepR e' h' r', q'⟩
    exact ⟨_, fun _ _ z => z, rb F0 E hw F2 ρ1 w2 σ1 H2 _ _ a2 q2 ⟨nxt, k.rt.mono (e1.trans e2), k.nx.mono (e1.trans e2), nxt⟩⟩
  · rw [if_neg hb] at q2 ⊢
    exact k.nx ρ1 w2 F2 σ1 H2 (e1.trans e2) h2 a2.r q2
def dFor (ti : TID) (g : TGD) (s : TSD) : TSD := fun E D ρ w => ti E ρ w fun ds w1 => ∃ Pv : Nat → Rho → Wd → Prop, Pv 0 ρ w1 ∧
  (∀ i d ρ w, ds[i]? = some d → Pv i ρ w → g d ρ w fun ρ2 w2 => s E { D with nx := Pv (i + 1), ct := Pv (i + 1), bk := D.nx } ρ2 w2) ∧ ∀ ρ w, Pv ds.length ρ w → D.nx ρ w
theorem ds_for {tg iter : Expr} {body : List Stmt} {vs : List Nat} {g : TGD} {ti : TID} (hp : PassesOwn (model X.prog X.w) X.A X.env X.xe) (hc : X.calm = true) (hi : DI X W tg iter ti) (hg : DG X vs tg g) (hb : DSs X W body s)
    (hs : ∀ x, foldedSetIterable iter X.env x = pure x := by intro _; rfl) : DS X W (.For tg iter body [] pos) (dFor ti g s) := by
  obtain ⟨ui, pi, ri⟩ := hi.ex
  obtain ⟨ug, pg, rg, _⟩ := hg.ex
  obtain ⟨ub, pb, rb⟩ := hb.ex
  refine ⟨_, ps_for hp hc pi pg pb hs, fun F0 E hw F ρ w σ H De Dh at_ hh k => ri F0 E hw F ρ w σ H _ _ at_ hh fun ds w1 F1 J H1 e1 h1 it q1 => ?_⟩
  obtain ⟨Pv, h0, hs, hd⟩ := q1
  refine ⟨fun i m σ H => i + m = ds.length ∧ ∃ F' ρ w, Ex F1 F' ∧ At X.K F0 F' ρ w σ H ∧ Pv i ρ w, ⟨ds.length, by omega, F1, ρ, w1, Evl.Ex.refl _, at_.step e1 h1, h0⟩, fun i m σ2 H2 ⟨hl, F2, ρ2, w2, e2, a2, p2⟩ => ?_⟩
  by_cases hi : i < ds.length
  · right
    obtain ⟨d, hd'⟩ : ∃ d, ds[i]? = some d := ⟨ds[i], List.getElem?_eq_getElem hi⟩
    refine ⟨it.go i F2 w2 H2 hi e2 a2.h, _, fun _ _ z => z, fun x H3 hy => ?_⟩
    obtain ⟨F3, e3, h3, d3⟩ := it.yld i d F2 w2 H2 x H3 hd' e2 a2.h hy
    have a3 := a2.step e3 h3
    refine rg F3 ρ2 w2 σ2 H3 d x _ _ h3 a3.r d3 (hs i d ρ2 w2 hd' p2) fun ρ4 w4 F4 σ4 H4 e4 h4 r4 q4 => ?_
    have a4 := a3.stepR e4 h4 r4
    have nxt : EndR X.K F4 (Pv (i + 1)) (fun σ' H' => ∃ m', m' < m ∧ i + 1 + m' = ds.length ∧ ∃ F' ρ w, Ex F1 F' ∧ At X.K F0 F' ρ w σ' H' ∧ Pv (i + 1) ρ w) :=
      fun ρ' w' F' σ' H' e' h' r' q' => ⟨m - 1, by omega, by omega, F', ρ', w', ((e2.trans e3).trans e4).trans e', a4.stepR e' h' r', q'⟩
    exact rb F0 E hw F4 ρ4 w4 σ4 H4 _ _ a4 q4 ⟨nxt, k.rt.mono (((e1.trans e2).trans e3).trans e4), k.nx.mono (((e1.trans e2).trans e3).trans e4), nxt⟩
  · left
    have e : i = ds.length := by omega
    subst e
    exact ⟨it.stop F2 w2 H2 e2 a2.h, k.nx ρ2 w2 F2 σ2 H2 (e1.trans e2) a2.h a2.r (hd ρ2 w2 p2)⟩
/-! ### what is walked -/
theorem SqL.funct {K : PySem.W.Frag} {H : Hp} {a : Addr} {xs : List V} (h : H a = some (.lst xs)) : ∀ ys, Rd H a (.lst ys) → ys = xs := fun ys r => by
  rcases r with r | ⟨o, r⟩
  · rw [h] at r; cases r; rfl
  · rw [h] at r; cases r
end
end DL
set_option Elab.async false
set_option linter.all false
set_option maxRecDepth 100000
set_option maxHeartbeats 1000000
/-! DL6: what is walked; list comprehensions; calls. -/
namespace DL
open PySem PySem.Spec PyProof.Rows L2
open Evl (Ex ex_l ex_t)

section
variable {X : Cx} {W : WX} {e a b c tg : Expr} {es : List Expr} {t ta tb tc : TED} {r : TAD} {pos : Pos}
theorem itd_list {K : PySem.W.Frag} {F : Hp} {a : Addr} {us : List V} {ds : List D} (h : SqL K F a us) (d : DenL K F ds us) : ItD K F ds (Itl K a) where
  go := fun i F' w H hi e r => by
    have hl : i < us.length := by rw [← d.len]; exact hi
    exact ⟨us, us[i], ex_l (e.trans r.ex) h, List.getElem?_eq_getElem hl⟩
  yld := fun i dd F' w H x H' hd e r y => by
    obtain ⟨rfl, hx⟩ := y
    obtain ⟨v, hv, dv⟩ := d.at hd
    have := hx us (ex_l (e.trans r.ex) h)
    rw [hv] at this; cases this
    exact ⟨F', Evl.Ex.refl _, r, dv.mono e⟩
  stop := fun F' w H e r => ⟨us, ex_l (e.trans r.ex) h, by rw [d.len]; exact Nat.le_refl _⟩
theorem itd_tup {K : PySem.W.Frag} {F : Hp} {a : Addr} {us : List V} {ds : List D} (h : SqT K F a us) (d : DenL K F ds us) : ItD K F ds (Itt K a) where
  go := fun i F' w H hi e r => by
    have hl : i < us.length := by rw [← d.len]; exact hi
    exact ⟨us, us[i], ex_t (e.trans r.ex) h, List.getElem?_eq_getElem hl⟩
  yld := fun i dd F' w H x H' hd e r y => by
    obtain ⟨rfl, hx⟩ := y
    obtain ⟨v, hv, dv⟩ := d.at hd
    have := hx us (ex_t (e.trans r.ex) h)
    rw [hv] at this; cases this
    exact ⟨F', Evl.Ex.refl _, r, dv.mono e⟩
  stop := fun F' w H e r => ⟨us, ex_t (e.trans r.ex) h, by rw [d.len]; exact Nat.le_refl _⟩
/-- lo, lo + 1, .. -/
def rngD (lo : Int) (n : Nat) : List D := (List.range n).map fun i => .int (lo + (i : Nat))
theorem itd_rng {K : PySem.W.Frag} {F : Hp} (lo : Int) (n : Nat) : ItD K F (rngD lo n) (Itr lo n) where
  go := fun i F' w H hi e r => by show i < n; simpa [rngD] using hi
  yld := fun i dd F' w H x H' hd e r y => by
    obtain ⟨rfl, rfl⟩ := y
    have : dd = .int (lo + (i : Nat)) := by
      unfold rngD at hd
      rw [List.getElem?_map] at hd
      cases q : (List.range n)[i]? with
      | none => rw [q] at hd; cases hd
      | some j =>
        rw [q] at hd
        obtain ⟨hl, hj⟩ := List.getElem?_eq_some_iff.mp q
        rw [List.getElem_range] at hj
        subst hj
        cases hd; rfl
    subst this
    exact ⟨F', Evl.Ex.refl _, r, den_int⟩
  stop := fun F' w H e r => by show n ≤ (rngD lo n).length; simp [rngD]
def strD (x : Str) : List D := x.cps.toList.map fun c => .str ⟨#[c]⟩
theorem itd_str {K : PySem.W.Frag} {F : Hp} (x : Str) : ItD K F (strD x) (Its x) where
  go := fun i F' w H hi e r => by show i < x.cps.size; simpa [strD] using hi
  yld := fun i dd F' w H v H' hd e r y => by
    obtain ⟨rfl, c, hc, rfl⟩ := y
    have : dd = .str ⟨#[c]⟩ := by
      unfold strD at hd
      rw [List.getElem?_map] at hd
      have : x.cps.toList[i]? = some c := by simpa using hc
      rw [this] at hd
      cases hd; rfl
    subst this
    exact ⟨F', Evl.Ex.refl _, r, den_str⟩
  stop := fun F' w H e r => by show x.cps.size ≤ (strD x).length; simp [strD]
/-- a list, frozen or read only; a tuple; a text -/
def iSeqL (t : TED) : TID := fun E ρ w Q => t E ρ w fun x w1 => ∃ ds, (x = .lst ds ∨ x = .rls ds) ∧ Q ds w1
def iSeqT (t : TED) : TID := fun E ρ w Q => t E ρ w fun x w1 => ∃ ds, x = .tup ds ∧ Q ds w1
def iSeqS (t : TED) : TID := fun E ρ w Q => t E ρ w fun x w1 => ∃ z, x = .str z ∧ Q (strD z) w1
theorem di_list (h : DE X W e t) : DI X W tg e (iSeqL t) := by
  obtain ⟨u, p, r⟩ := h.ex
  refine ⟨_, pi_list p, fun F0 E hw F ρ w σ H Qd R at_ hh k => r F0 E hw F ρ w σ H _ _ at_ hh fun x w1 F1 v H1 e1 h1 d1 q1 => ?_⟩
  obtain ⟨ds, hx, q⟩ := q1
  rcases hx with rfl | rfl
  · obtain ⟨a, us, rfl, g1, g2⟩ := d1.lst_
    exact ⟨a, rfl, ⟨us, SqL.of (h1.ex _ _ g1)⟩, k ds w1 F1 _ H1 e1 h1 (itd_list (SqL.of g1) g2) q⟩
  · obtain ⟨a, us, rfl, g1, g2⟩ := d1.rls_
    exact ⟨a, rfl, ⟨us, ex_l h1.ex g1⟩, k ds w1 F1 _ H1 e1 h1 (itd_list g1 g2) q⟩
theorem di_tup (h : DE X W e t) : DI X W tg e (iSeqT t) := by
  obtain ⟨u, p, r⟩ := h.ex
  refine ⟨_, pi_tup p, fun F0 E hw F ρ w σ H Qd R at_ hh k => r F0 E hw F ρ w σ H _ _ at_ hh fun x w1 F1 v H1 e1 h1 d1 q1 => ?_⟩
  obtain ⟨ds, rfl, q⟩ := q1
  obtain ⟨a, us, rfl, g1, g2⟩ := d1.tup_
  exact ⟨a, rfl, ⟨us, ex_t h1.ex g1⟩, k ds w1 F1 _ H1 e1 h1 (itd_tup g1 g2) q⟩
theorem di_str (h : DE X W e t) : DI X W tg e (iSeqS t) := by
  obtain ⟨u, p, r⟩ := h.ex
  refine ⟨_, pi_str p, fun F0 E hw F ρ w σ H Qd R at_ hh k => r F0 E hw F ρ w σ H _ _ at_ hh fun x w1 F1 v H1 e1 h1 d1 q1 => ?_⟩
  obtain ⟨z, rfl, q⟩ := q1
  exact ⟨z, d1.str_, k _ w1 F1 _ H1 e1 h1 (itd_str z) q⟩
def iRngD1 (r : TAD) : TID := fun E ρ w Q => r E ρ w fun xs w1 => ∃ j : Int, xs = [.int j] ∧ -(2 ^ 62) ≤ j ∧ j < 2 ^ 62 ∧ Q (rngD 0 j.toNat) w1
def iRngD2 (r : TAD) : TID := fun E ρ w Q => r E ρ w fun xs w1 => ∃ i j : Int, xs = [.int i, .int j] ∧ (-(2 ^ 62) ≤ i ∧ i < 2 ^ 62 ∧ -(2 ^ 62) ≤ j ∧ j < 2 ^ 62) ∧ Q (rngD i (j - i).toNat) w1
theorem DenL.one {K : PySem.W.Frag} {F : Hp} {d : D} {vs : List V} (h : DenL K F [d] vs) : ∃ v, vs = [v] ∧ Den K F d v := by
  obtain ⟨v, r, rfl, h1, h2⟩ := denL_cons h
  rw [denL_nil h2]
  exact ⟨v, rfl, h1⟩
theorem DenL.two {K : PySem.W.Frag} {F : Hp} {d d' : D} {vs : List V} (h : DenL K F [d, d'] vs) : ∃ v v', vs = [v, v'] ∧ Den K F d v ∧ Den K F d' v' := by
  obtain ⟨v, r, rfl, h1, h2⟩ := denL_cons h
  obtain ⟨v', rfl, h3⟩ := h2.one
  exact ⟨v, v', rfl, h1, h3⟩
theorem di_range1 {p : Pos} (hm : X.mg "range" = none) (ha : DA X W [a] r) (hg : Gl X "range" := by rfl) (hs : starEach [a] X.env = [(false, eval a X.env)] := by rfl) : DI X W tg (.Call (.Name "range" p) [a] [] pos) (iRngD1 r) := by
  obtain ⟨u, p, r⟩ := ha.ex
  refine ⟨_, pi_range1 hg hm p hs, fun F0 E hw F ρ w σ H Qd R at_ hh k => r F0 E hw F ρ w σ H _ _ at_ hh fun xs w1 F1 vs H1 e1 h1 d1 q1 => ?_⟩
  obtain ⟨j, rfl, h2, h3, q⟩ := q1
  obtain ⟨v, rfl, dv⟩ := d1.one
  cases dv.int_
  exact ⟨j, rfl, h2, h3, k _ w1 F1 _ H1 e1 h1 (itd_rng _ _) q⟩
theorem di_range2 {p : Pos} (hm : X.mg "range" = none) (ha : DA X W [a, b] r) (hg : Gl X "range" := by rfl) (hs : starEach [a, b] X.env = [(false, eval a X.env), (false, eval b X.env)] := by rfl) (hs2 : starEach [b] X.env = [(false, eval b X.env)] := by rfl) :
    DI X W tg (.Call (.Name "range" p) [a, b] [] pos) (iRngD2 r) := by
  obtain ⟨u, p, r⟩ := ha.ex
  refine ⟨_, pi_range2 hg hm p hs hs2, fun F0 E hw F ρ w σ H Qd R at_ hh k => r F0 E hw F ρ w σ H _ _ at_ hh fun xs w1 F1 vs H1 e1 h1 d1 q1 => ?_⟩
  obtain ⟨i, j, rfl, h2, q⟩ := q1
  obtain ⟨v, v', rfl, dv, dv'⟩ := d1.two
  cases dv.int_
  cases dv'.int_
  exact ⟨i, j, rfl, h2, k _ w1 F1 _ H1 e1 h1 (itd_rng _ _) q⟩
/-- (0, x), (1, y), .. -/
def enumD (ds : List D) : List D := (List.range ds.length).zipWith (fun i d => .tup [.int (i : Nat), d]) ds
theorem enumD_at {ds : List D} {i : Nat} {d : D} (h : (enumD ds)[i]? = some d) : ∃ x, ds[i]? = some x ∧ d = .tup [.int (i : Nat), x] := by
  unfold enumD at h
  rw [List.getElem?_zipWith] at h
  cases q : ds[i]? with
  | none => rw [q] at h; simp at h
  | some x =>
    have hl : i < ds.length := (List.getElem?_eq_some_iff.mp q).1
    rw [q, List.getElem?_range hl] at h
    cases h
    exact ⟨x, rfl, rfl⟩
theorem enumD_length {ds : List D} : (enumD ds).length = ds.length := by simp [enumD]
theorem itd_enum {K : PySem.W.Frag} {F : Hp} {a : Addr} {us : List V} {ds : List D} (h : SqL K F a us) (d : DenL K F ds us) : ItD K F (enumD ds) (Ite K a) where
  go := fun i F' w H hi e r => by
    have hl : i < us.length := by rw [← d.len]; rw [enumD_length] at hi; exact hi
    exact ⟨us, us[i], ex_l (e.trans r.ex) h, List.getElem?_eq_getElem hl⟩
  yld := fun i dd F' w H x H' hd e r y => by
    obtain ⟨T, z, rfl, hT, rfl, hz⟩ := y
    obtain ⟨x0, hx0, rfl⟩ := enumD_at hd
    obtain ⟨v, hv, dv⟩ := d.at hx0
    have hzv := hz us (ex_l (e.trans r.ex) h)
    rw [hv] at hzv
    have ez : v = z := Option.some.inj hzv
    subst ez
    have e1 : Ex F' (upd F' T (.tup [.int (i : Nat), v])) := Evl.Ex.new (r.fresh hT).1
    exact ⟨_, e1, r.newF hT _, den_tup (SqT.of upd_same) (DenL.cons den_int (DenL.cons (dv.mono (e.trans e1)) DenL.nil))⟩
  stop := fun F' w H e r => ⟨us, ex_l (e.trans r.ex) h, by rw [enumD_length, d.len]; exact Nat.le_refl _⟩
def iEnumD (r : TAD) : TID := fun E ρ w Q => r E ρ w fun xs w1 => ∃ ds, (xs = [.lst ds] ∨ xs = [.rls ds]) ∧ Q (enumD ds) w1
theorem di_enum {p tpos : Pos} {elts : List Expr} {kk : Nat} (hm : X.mg "enumerate" = none) (ha : DA X W [e] r) (hg : Gl X "enumerate" := by rfl) (hs : starEach [e] X.env = [(false, eval e X.env)] := by rfl) :
    DI X W (.Tuple elts kk tpos) (.Call (.Name "enumerate" p) [e] [] pos) (iEnumD r) := by
  obtain ⟨u, p, r⟩ := ha.ex
  refine ⟨_, pi_enum hg hm p hs, fun F0 E hw F ρ w σ H Qd R at_ hh k => r F0 E hw F ρ w σ H _ _ at_ hh fun xs w1 F1 vs H1 e1 h1 d1 q1 => ?_⟩
  obtain ⟨ds, hx, q⟩ := q1
  rcases hx with rfl | rfl
  · obtain ⟨v, rfl, dv⟩ := d1.one
    obtain ⟨a, us, rfl, g1, g2⟩ := dv.lst_
    exact ⟨a, us, rfl, SqL.of (h1.ex _ _ g1), k _ w1 F1 _ H1 e1 h1 (itd_enum (SqL.of g1) g2) q⟩
  · obtain ⟨v, rfl, dv⟩ := d1.one
    obtain ⟨a, us, rfl, g1, g2⟩ := dv.rls_
    exact ⟨a, us, rfl, ex_l h1.ex g1, k _ w1 F1 _ H1 e1 h1 (itd_enum g1 g2) q⟩

/-! ### list comprehensions (one clause) -/
structure DTs (X : Cx) (W : WX) (ifs : List Expr) (t : TTD) : Prop where
  ex : ∃ te, PTs X ifs te ∧ ∀ F0 E, WishOk X.K W F0 E → ∀ F ρ w σ H Qd Q, At X.K F0 F ρ w σ H → t E ρ w Qd → EndB X.K F Qd Q → te σ H Q
def dYes : TTD := fun _ _ w Q => Q true w
theorem dts_nil : DTs X W [] dYes := ⟨_, pts_nil, fun F0 E hw F ρ w σ H Qd Q at_ hh k => k true w F H (Evl.Ex.refl _) at_.h hh⟩
theorem dts_one {t : TTD} (h : DT X W e t) : DTs X W [e] t := by
  obtain ⟨u, p, r⟩ := h.ex
  exact ⟨_, pts_one p, r⟩
def wipeD (ρ : Rho) : List Nat → Rho
  | [] => ρ
  | v :: vs => (wipeD ρ vs).set v none
theorem relR_wipe {K : PySem.W.Frag} {F : Hp} {ρ : Rho} {σ : L2.St} (r : RelR K F ρ σ) : ∀ vs, RelR K F (wipeD ρ vs) (wipe σ vs)
  | [] => r
  | _ :: vs => (relR_wipe r vs).unset
/-- nothing may be raised -/
abbrev W0 : WX := fun _ _ _ _ => False
abbrev E0D : XD := fun _ _ _ => False
theorem wishOk0 {K : PySem.W.Frag} {F : Hp} : WishOk K W0 F E0D := fun _ _ _ _ _ _ _ _ _ _ z => z
/-- [elt for tg in iter if ..]: the new list stands at D in the world while it grows; Pv by the turn and the world -/
def dLc (ti : TID) (g : TGD) (tt : TTD) (te : TED) (vs : List Nat) : TED := fun E ρ w Q => ti E ρ w fun ds w1 => ∀ D, w1 D = none → ∃ Pv : Nat → Wd → Prop, Pv 0 (wupd w1 D (.lst [])) ∧
  (∀ i d w, ds[i]? = some d → Pv i w → g d (wipeD ρ vs) w fun ρ2 w2 => tt E0D ρ2 w2 fun b w3 => if b = true then te E0D ρ2 w3 fun y w4 => ∃ acc, w4 D = some (.lst acc) ∧ acc.length < sizeLine ∧ Pv (i + 1) (wupd w4 D (.lst (acc ++ [y]))) else Pv (i + 1) w3) ∧
  ∀ w, Pv ds.length w → ∃ x' w', Frz (.ref D) w x' w' ∧ Q x' w'
theorem lc_ref {K : PySem.W.Frag} {ui : TI} {ug : TG} {ut : TT} {ue : TE} {ti : TID} {g : TGD} {tt : TTD} {te : TED} {vs : List Nat} {ws : List Nat} (hsub : ∀ i ∈ ws, i ∈ vs)
    (ri : ∀ F0 E, WishOk K W F0 E → ∀ F ρ w σ H Qd R, At K F0 F ρ w σ H → ti E ρ w Qd → (∀ ds w' F' J H', Ex F F' → RelH K F' w' H' → ItD K F' ds J → Qd ds w' → R J H') → ui σ H R)
    (rg : ∀ F ρ w σ H d v Qd Q, RelH K F w H → RelR K F ρ σ → Den K F d v → g d ρ w Qd → EndR K F Qd Q → ug v σ H Q)
    (sg : ∀ vs', (∀ i ∈ ws, i ∈ vs') → ∀ v σ H (Q Q' : L2.St → Hp → Prop), ug v σ H Q → (∀ σ' H', wipe σ' vs' = wipe σ vs' → Q σ' H' → Q' σ' H') → ug v σ H Q')
    (rt : ∀ F0 E, WishOk K W0 F0 E → ∀ F ρ w σ H Qd Q, At K F0 F ρ w σ H → tt E ρ w Qd → EndB K F Qd Q → ut σ H Q)
    (re : ∀ F0 E, WishOk K W0 F0 E → ∀ F ρ w σ H Qd Q, At K F0 F ρ w σ H → te E ρ w Qd → EndV K F Qd Q → ue σ H Q) :
    ∀ F0 E, WishOk K W F0 E → ∀ F ρ w σ H Qd Q, At K F0 F ρ w σ H → dLc ti g tt te vs E ρ w Qd → EndV K F Qd Q → tLc ui ug ut ue vs σ H Q := fun F0 E hw F ρ w σ H Qd Q at_ hh k =>
  ri F0 E hw F ρ w σ H _ _ at_ hh fun ds w1 F1 J H1 e1 h1 it q1 => by
    intro D hD
    obtain ⟨Pv, h0, hs, hd⟩ := q1 D (h1.fresh hD).2
    have a1 := at_.step e1 h1
    have rw1 := relR_wipe a1.r vs
    refine ⟨fun i m H => i + m = ds.length ∧ ∃ F' w, Ex F1 F' ∧ RelH K F' w H ∧ Pv i w,
      ⟨ds.length, by omega, F1, _, Evl.Ex.refl _, h1.newW (u := .lst []) hD ⟨[], upd_same, DenL.nil⟩, h0⟩, fun i m H2 ⟨hl, F2, w2, e2, h2, p2⟩ => ?_⟩
    by_cases hi : i < ds.length
    · right
      obtain ⟨d, hd'⟩ : ∃ d, ds[i]? = some d := ⟨ds[i], List.getElem?_eq_getElem hi⟩
      refine ⟨it.go i F2 w2 H2 hi e2 h2, _, fun _ z => z, fun x H3 hy => ?_⟩
      obtain ⟨F3, e3, h3, d3⟩ := it.yld i d F2 w2 H2 x H3 hd' e2 h2 hy
      have fin : ∀ {F' : Hp} {w' : Wd} {H' : Hp}, Ex F1 F' → RelH K F' w' H' → Pv (i + 1) w' → ∃ m', m' < m ∧ i + 1 + m' = ds.length ∧ ∃ F' w, Ex F1 F' ∧ RelH K F' w H' ∧ Pv (i + 1) w :=
        fun e' h' p' => ⟨m - 1, by omega, by omega, _, _, e', h', p'⟩
      refine sg vs hsub x _ H3 _ _ (rg F3 (wipeD ρ vs) w2 (wipe σ vs) H3 d x _ (fun σ4 H4 => ut σ4 H4 fun b H5 => if b = true then ue σ4 H5 fun y H6 => ∃ acc, H6 D = some (.lst acc) ∧ acc.length < sizeLine ∧ (∃ m', m' < m ∧ i + 1 + m' = ds.length ∧ ∃ F' w, Ex F1 F' ∧ RelH K F' w (upd H6 D (.lst (acc ++ [y]))) ∧ Pv (i + 1) w) else (∃ m', m' < m ∧ i + 1 + m' = ds.length ∧ ∃ F' w, Ex F1 F' ∧ RelH K F' w H5 ∧ Pv (i + 1) w)) h3 (rw1.mono (e2.trans e3)) d3 (hs i d w2 hd' p2) fun ρ4 w4 F4 σ4 H4 e4 h4 r4 q4 => ?_) fun σ' H' ew q => ⟨ew.trans (wipe_idem vs σ), q⟩
      have a4 : At K F4 F4 ρ4 w4 σ4 H4 := ⟨Evl.Ex.refl _, h4, r4⟩
      refine rt F4 E0D wishOk0 F4 ρ4 w4 σ4 H4 _ _ a4 q4 fun b w5 F5 H5 e5 h5 q5 => ?_
      by_cases hb : b = true
      · rw [if_pos hb] at q5 ⊢
        refine re F4 E0D wishOk0 F5 ρ4 w5 σ4 H5 _ _ (a4.step e5 h5) q5 fun y w6 F6 v6 H6 e6 h6 d6 q6 => ?_
        obtain ⟨acc, hacc, hz, p6⟩ := q6
        obtain ⟨g0, us, g1, g2⟩ := h6.obj D _ hacc
        exact ⟨us, g1, by rw [← g2.len]; exact hz, fin ((((e2.trans e3).trans e4).trans e5).trans e6) (h6.write (u := .lst (acc ++ [y])) g0 ⟨_, upd_same, g2.append (DenL.cons d6 DenL.nil)⟩) p6⟩
      · rw [if_neg hb] at q5 ⊢
        exact fin (((e2.trans e3).trans e4).trans e5) h5 q5
    · left
      have e : i = ds.length := by omega
      subst e
      obtain ⟨x', w', fz, q⟩ := hd w2 p2
      obtain ⟨F3, e3, h3, d3⟩ := fz K F2 H2 (.ref D) h2 den_ref
      exact ⟨it.stop F2 w2 H2 e2 h2, k x' w' F3 _ H2 ((e1.trans e2).trans e3) h3 d3 q⟩
/-- readings on the abstract heap that lean on nothing but the D-level's: for contexts that are not known yet -/
def canE (K : PySem.W.Frag) (W : WX) (t : TED) : TE := fun σ H Q => ∃ F0 E F ρ w Qd, WishOk K W F0 E ∧ At K F0 F ρ w σ H ∧ t E ρ w Qd ∧ EndV K F Qd Q
def canT (K : PySem.W.Frag) (W : WX) (t : TTD) : TT := fun σ H Q => ∃ F0 E F ρ w Qd, WishOk K W F0 E ∧ At K F0 F ρ w σ H ∧ t E ρ w Qd ∧ EndB K F Qd Q
def canG (K : PySem.W.Frag) (vs : List Nat) (g : TGD) : TG := fun v σ H Q => ∃ F ρ w d Qd, RelH K F w H ∧ RelR K F ρ σ ∧ Den K F d v ∧ g d ρ w Qd ∧ EndR K F Qd (fun σ' H' => wipe σ' vs = wipe σ vs → Q σ' H')
theorem DE.can (h : DE X W e t) : PE X e (canE X.K W t) := by
  obtain ⟨u, p, r⟩ := h.ex
  exact ⟨fun pins s σ H Q I ⟨F0, E, F, ρ, w, Qd, hw, a, q, k⟩ => p.run pins s σ H Q I (r F0 E hw F ρ w σ H Qd Q a q k)⟩
theorem DTs.can {ifs : List Expr} {t : TTD} (h : DTs X W ifs t) : PTs X ifs (canT X.K W t) := by
  obtain ⟨u, p, r⟩ := h.ex
  exact ⟨fun pins s σ H Q I ⟨F0, E, F, ρ, w, Qd, hw, a, q, k⟩ => p.run pins s σ H Q I (r F0 E hw F ρ w σ H Qd Q a q k)⟩
theorem DG.can {ws vs : List Nat} {g : TGD} (h : DG X ws e g) (hv : ∀ i ∈ ws, i ∈ vs) : PG X e (canG X.K vs g) := by
  obtain ⟨u, p, r, s⟩ := h.ex
  exact ⟨fun pins st σ H v x Q I rv ⟨F, ρ, w, d, Qd, h, rr, dn, q, k⟩ => p.run pins st σ H v x Q I rv (s vs hv v σ H _ _ (r F ρ w σ H d v Qd _ h rr dn q k) fun σ' H' ew q' => q' ew)⟩
theorem de_lc {elt iter : Expr} {ifs : List Expr} {scope : Scope} {own : List (Str × Nat)} {ws : List Nat} {ti : TID} {g : TGD} {tt : TTD} {te : TED} (hc : X.calm = true) (hN : X.N.Nodup) (hi : DI X W tg iter ti) (ok : BlkOk X.N X.env.scope scope own) (hsub : ∀ i ∈ ws, i ∈ own.map (·.2))
    (hg : ∀ (s : Shared) (H : Hp) (C : Addr) (cl : List (Str × Addr)) (fp : List Addr), DG (X.blk s H scope (compEnvC scope cl C X.env) fp) ws tg g) (ht : ∀ (s : Shared) (H : Hp) (C : Addr) (cl : List (Str × Addr)) (fp : List Addr), DTs (X.blk s H scope (compEnvC scope cl C X.env) fp) W0 ifs tt)
    (he : ∀ (s : Shared) (H : Hp) (C : Addr) (cl : List (Str × Addr)) (fp : List Addr), DE (X.blk s H scope (compEnvC scope cl C X.env) fp) W0 elt te) (hs : ∀ x, foldedSetIterable iter X.env x = pure x := by intro _; rfl) :
    DE X W (.ListComp elt [⟨tg, iter, ifs, 0⟩] scope pos) (dLc ti g tt te (own.map (·.2))) := by
  obtain ⟨ui, pi, ri⟩ := hi.ex
  refine ⟨_, pe_lc (g := canG X.K (own.map (·.2)) g) (tt := canT X.K W0 tt) (te := canE X.K W0 te) hc hN pi ok (fun s H C cl fp => (hg s H C cl fp).can hsub) (fun s H C cl fp => (ht s H C cl fp).can) (fun s H C cl fp => (he s H C cl fp).can) hs, ?_⟩
  refine lc_ref (ws := own.map (·.2)) (fun i hi => hi) ri (fun F ρ w σ H d v Qd Q rh rr dn q k => ⟨F, ρ, w, d, Qd, rh, rr, dn, q, fun ρ' w' F' σ' H' e' h' r' q' _ => k ρ' w' F' σ' H' e' h' r' q'⟩) (fun vs' hv v σ H Q Q' ⟨F, ρ, w, d, Qd, rh, rr, dn, q, k⟩ kk => ⟨F, ρ, w, d, Qd, rh, rr, dn, q, fun ρ' w' F' σ' H' e' h' r' q' ew => kk σ' H' ?_ (k ρ' w' F' σ' H' e' h' r' q' ew)⟩)
    (fun F0 E hw F ρ w σ H Qd Q a q k => ⟨F0, E, F, ρ, w, Qd, hw, a, q, k⟩) (fun F0 E hw F ρ w σ H Qd Q a q k => ⟨F0, E, F, ρ, w, Qd, hw, a, q, k⟩)
  have key : ∀ (us vs : List Nat), (∀ i ∈ us, i ∈ vs) → ∀ σ : L2.St, wipe (wipe σ us) vs = wipe σ vs := by
    intro us
    induction us with
    | nil => intro vs _ σ; rfl
    | cons j us ih =>
      intro vs hv σ
      show wipe ((wipe σ us).set j none) vs = wipe σ vs
      rw [wipe_set (hv j List.mem_cons_self), ih vs (fun i hi => hv i (List.mem_cons_of_mem _ hi))]
  rw [← key _ _ hv σ', ew, key _ _ hv σ]
/-- where neither element nor tests change the world: what is kept -/
theorem lc_map {ti : TID} {g : TGD} {tt : TTD} {te : TED} {vs : List Nat} {E : XD} {ρ : Rho} {w : Wd} {Q : VKD} (h : ti E ρ w fun ds w1 => ∃ f : D → Option D, ds.length ≤ sizeLine ∧
    (∀ (i : Nat) d w' (Q1 : D → Wd → Prop) (Q2 : Wd → Prop), ds[i]? = some d → WLe w1 w' → (∀ y, f d = some y → Q1 y w') → (f d = none → Q2 w') → g d (wipeD ρ vs) w' fun ρ2 w2 => tt E0D ρ2 w2 fun b w3 => if b = true then te E0D ρ2 w3 Q1 else Q2 w3) ∧
    Q (.lst (ds.filterMap f)) w1) (mono : ∀ R R' : List D → Wd → Prop, (∀ ds w, R ds w → R' ds w) → ti E ρ w R → ti E ρ w R') : dLc ti g tt te vs E ρ w Q := by
  refine mono _ _ (fun ds w1 ⟨f, hl, hs, q⟩ D hD => ?_) h
  refine ⟨fun i w' => w' = wupd w1 D (.lst ((ds.take i).filterMap f)), by simp, fun i d w' hd hw => ?_, fun w' hw => ?_⟩
  · subst hw
    have hi : i < ds.length := (List.getElem?_eq_some_iff.mp hd).1
    have ht : ds.take (i + 1) = ds.take i ++ [d] := by rw [List.take_add_one, hd]; rfl
    refine hs i d _ _ _ hd (WLe.new hD) (fun y hy => ⟨_, wupd_same, ?_, ?_⟩) (fun hy => ?_)
    · have h1 : ((ds.take i).filterMap f).length ≤ (ds.take i).length := List.length_filterMap_le _ _
      rw [List.length_take] at h1
      omega
    · show wupd (wupd w1 D _) D _ = wupd w1 D (.lst ((ds.take (i + 1)).filterMap f))
      rw [wupd_upd, ht, List.filterMap_append]
      simp [hy]
    · show wupd w1 D _ = wupd w1 D (.lst ((ds.take (i + 1)).filterMap f))
      rw [ht, List.filterMap_append]
      simp [hy]
  · subst hw
    rw [List.take_length]
    exact ⟨_, _, Frz.lst wupd_same, by rw [wdel_upd hD]; exact q⟩
end
end DL
set_option Elab.async false
set_option linter.all false
set_option maxRecDepth 100000
set_option maxHeartbeats 1000000
/-! DL7: calls of defs, methods, classes, built-ins, methods of texts. -/
namespace DL
open PySem PySem.Spec PyProof.Rows L2
open Evl (Ex ex_l ex_t)

section
variable {X : Cx} {W : WX} {e o a b : Expr} {es : List Expr} {t ta tb : TED} {r : TAD} {pos p apos : Pos} {k n : Nat} {f C : Addr} {fd : FuncData} {ps : List Str} {sp : SpD} {x m : Str}
/-! ### the callee runs -/
/-- what a callee lets out is taken, as W says -/
def TkC (X : Cx) (W : WX) : Prop := ∀ σ, PassesAt (L2.CX X.prog X.w) X σ (WE W σ)
theorem tkc (tk : Takes X W) : TkC X W := fun σ => passAt tk σ
theorem run_fnG {sp : Sp} {dvs : List V} {ds : List Value} {pins : List (Addr × Obj)} {σ : L2.St} {H : Hp} {s : Shared} {Q : VK} {us : List Value} {vs : List V} (F : FnG X.prog X.w X.K X.mg X.base k f fd ps sp) (hr : RoomG k X.A) (hb : Binds X.K fd ps ds) (hd : Vals dvs ds) (tk : TkC X W)
    (I : Inv X pins σ H s) (r : Vals vs us) (h : sp (vs ++ dvs) H Q (WE W σ)) : wpAny (model X.prog X.w) X.A (call (.ref f) us) (EP X pins σ Q) X.xe s := by
  have r2 : Vals (vs ++ dvs) (us ++ ds) := r.append hd
  have hl : (us ++ ds).length = ps.length := by rw [← r2.length]; exact F.len _ _ _ _ h
  refine wpAny_call (codeAny_mono (F.run X.A X.stack s H ⟨us, []⟩ (us ++ ds) (vs ++ dvs) Q (WE W σ) hr I.env0 (hb s us I.kIn hl) r2 h) fun r s' hq => ?_)
  cases r with
  | error e => exact tk σ pins H s e s' I hq
  | ok fl =>
    cases fl with
    | ret u => exact I.after hq
    | next => exact False.elim hq
    | brk => exact False.elim hq
    | cont => exact False.elim hq
/-- how a call's promise is asked of the D-level's -/
theorem toSp_of {K : PySem.W.Frag} {F0 F : Hp} {E : XD} {ρ : Rho} {w : Wd} {σ : L2.St} {H : Hp} {ds : List D} {vs : List V} {Qd : VKD} {Q : VK} (hw : WishOk K W F0 E) (at_ : At K F0 F ρ w σ H) (dn : DenL K F ds vs) (hl : ds.length = n) (h : sp ds w (fun x w' => E x ρ w') Qd) (k : EndV K F Qd Q) :
    toSp K n sp vs H Q (WE W σ) := ⟨F, w, ds, _, Qd, at_.h, dn, hl, h, k, ⟨fun x w' F' cls o H' e h' dx q => hw x F' w' ρ σ H' cls o (at_.step e h') dx q⟩⟩
/-- what defaults are -/
def DflD (K : PySem.W.Frag) (dd : List D) (dvs : List V) : Prop := ∀ F, DenL K F dd dvs
theorem dflD_nil {K : PySem.W.Frag} : DflD K [] [] := fun _ => DenL.nil
def dCall (n : Nat) (sp : SpD) (dd : List D) (r : TAD) : TED := fun E ρ w Q => r E ρ w fun ds w1 => (ds ++ dd).length = n ∧ sp (ds ++ dd) w1 (fun x w' => E x ρ w') Q
theorem call_ref {K : PySem.W.Frag} {ur : TA} {dd : List D} {dvs : List V} (hd : DflD K dd dvs)
    (rr : ∀ F0 E, WishOk K W F0 E → ∀ F ρ w σ H Qd Q, At K F0 F ρ w σ H → r E ρ w Qd → EndL K F Qd Q → ur σ H Q) :
    ∀ F0 E, WishOk K W F0 E → ∀ F ρ w σ H Qd Q, At K F0 F ρ w σ H → dCall n sp dd r E ρ w Qd → EndV K F Qd Q → ur σ H fun vs H1 => toSp K n sp (vs ++ dvs) H1 Q (WE W σ) := fun F0 E hw F ρ w σ H Qd Q at_ hh k =>
  rr F0 E hw F ρ w σ H _ _ at_ hh fun ds w1 F1 vs H1 e1 h1 d1 q1 => toSp_of hw (at_.step e1 h1) (d1.append (hd F1)) q1.1 q1.2 (k.mono e1)
/-- f(e, ..) -/
theorem de_call {dd : List D} {dvs : List V} {dv : List Value} (F : FnG X.prog X.w X.K X.mg X.base k f fd ps (toSp X.K n sp)) (hr : RoomG k X.A) (tk : TkC X W) (hm : X.mg x = some (.ref f)) (hk : PySem.W.keepIn X.K (.ref f) = true) (hb : Binds X.K fd ps dv) (hv : Vals dvs dv) (hd : DflD X.K dd dvs)
    (ha : DA X W (e :: es) r) (hg : Gl X x := by rfl) (hdb : (x == ("__debug__" : Str)) = false := by decide) (he : starEach (e :: es) X.env = (false, eval e X.env) :: starEach es X.env := by rfl) (hpl : (backTo pos (starEach es X.env)).any (·.1) = false := by rfl) :
    DE X W (.Call (.Name x p) (e :: es) [] pos) (dCall n sp dd r) := by
  obtain ⟨ur, pr, rr⟩ := ha.ex
  refine ⟨fun σ H Q => ur σ H fun vs H1 => toSp X.K n sp (vs ++ dvs) H1 Q (WE W σ), ⟨fun pins s σ H Q I h => ?_⟩, call_ref hd rr⟩
  refine wpAny_Call_Name_kw (ld_glob I hg hm ?_ hdb)
  refine PySem.W.callWith_K (h₀ := X.base) I.ok.mod.kin hk (thn (pr.run pos pins s σ H _ I h) fun us s1 ⟨vs, H1, I1, r, q⟩ => ⟨I1.kIn, ?_⟩) he hpl
  exact run_fnG F hr hb hv tk I1 r q
/-- f() -/
theorem de_call0 {dd : List D} {dvs : List V} {dv : List Value} (F : FnG X.prog X.w X.K X.mg X.base k f fd ps (toSp X.K n sp)) (hr : RoomG k X.A) (tk : TkC X W) (hm : X.mg x = some (.ref f)) (hk : PySem.W.keepIn X.K (.ref f) = true) (hb : Binds X.K fd ps dv) (hv : Vals dvs dv) (hd : DflD X.K dd dvs)
    (hg : Gl X x := by rfl) (hdb : (x == ("__debug__" : Str)) = false := by decide) : DE X W (.Call (.Name x p) [] [] pos) (dCall n sp dd dNil) := by
  refine ⟨fun σ H Q => tNil σ H fun vs H1 => toSp X.K n sp (vs ++ dvs) H1 Q (WE W σ), ⟨fun pins s σ H Q I h => ?_⟩, call_ref hd fun F0 E hw F ρ w σ H Qd Q at_ hh k => k [] w F [] H (Evl.Ex.refl _) at_.h DenL.nil hh⟩
  refine wpAny_Call_Name_kw (ld_glob I hg hm ?_ hdb)
  exact PySem.W.callWith_K0 I.kIn hk (run_fnG (us := []) F hr hb hv tk I .nil h)
/-- o.m(e, ..), o an instance of the class at C -/
def dMeth (C : Addr) (m : Str) (n : Nat) (sp : SpD) (dd : List D) (to : TED) (r : TAD) : TED := fun E ρ w Q => to E ρ w fun x w1 => ∃ a fs, x = .ref a ∧ w1 a = some (.ins C fs) ∧ fs.lookup m = none ∧ dCall n sp dd (fun E ρ w2 R => r E ρ w2 fun ds w3 => R (.ref a :: ds) w3) E ρ w1 Q
def hMeth (K : PySem.W.Frag) (W : WX) (C : Addr) (m : Str) (n : Nat) (sp : SpD) (dvs : List V) (uo : TE) (ur : TA) : TE := fun σ H Q => uo σ H fun x H1 => ∃ a dx fs, x = .ref a ∧ H1 a = some (.ins C dx fs) ∧ fs.lookup m = none ∧ ur σ H1 fun vs H2 => toSp K n sp (x :: (vs ++ dvs)) H2 Q (WE W σ)
theorem meth_ref {K : PySem.W.Frag} {uo : TE} {ur : TA} {dd : List D} {dvs : List V} (hd : DflD K dd dvs)
    (ro : ∀ F0 E, WishOk K W F0 E → ∀ F ρ w σ H Qd Q, At K F0 F ρ w σ H → t E ρ w Qd → EndV K F Qd Q → uo σ H Q)
    (rr : ∀ F0 E, WishOk K W F0 E → ∀ F ρ w σ H Qd Q, At K F0 F ρ w σ H → r E ρ w Qd → EndL K F Qd Q → ur σ H Q) :
    ∀ F0 E, WishOk K W F0 E → ∀ F ρ w σ H Qd Q, At K F0 F ρ w σ H → dMeth C m n sp dd t r E ρ w Qd → EndV K F Qd Q → hMeth K W C m n sp dvs uo ur σ H Q := fun F0 E hw F ρ w σ H Qd Q at_ hh k =>
  ro F0 E hw F ρ w σ H _ _ at_ hh fun x w1 F1 v H1 e1 h1 d1 q1 => by
    obtain ⟨a, fs, rfl, ha, hl, q⟩ := q1
    cases d1.ref_
    obtain ⟨_, dx, gs, h2, h3⟩ := h1.obj a _ ha
    refine ⟨a, dx, gs, rfl, h2, h3.out hl, ?_⟩
    have a1 := at_.step e1 h1
    exact rr F0 E hw F1 ρ w1 σ H1 _ _ a1 q fun ds w2 F2 vs H2 e2 h2 d2 q2 => toSp_of (vs := .ref a :: (vs ++ dvs)) hw (a1.step e2 h2) (DenL.cons den_ref (d2.append (hd F2))) q2.1 q2.2 (k.mono (e1.trans e2))
theorem de_meth {dd : List D} {dvs : List V} {dv : List Value} {pl : Sem Bool} (ho : DE X W o t) (c : Cls X.K C) (hm : Meth X.K C m f) (F : FnG X.prog X.w X.K X.mg X.base k f fd ps (toSp X.K n sp)) (hr : RoomG k X.A) (tk : TkC X W) (hb : Binds X.K fd ps dv) (hv : Vals dvs dv) (hd : DflD X.K dd dvs) (ha : DA X W (e :: es) r)
    (hst : starEach (e :: es) X.env = (false, eval e X.env) :: starEach es X.env := by rfl) (hpl : (backTo pos (starEach es X.env)).any (·.1) = false := by rfl)
    (ht : eval (.Call (.Attribute o m apos) (e :: es) [] pos) X.env = (do
      let ov ← eval o X.env
      standAt apos.atName
      let (f, first) ← holding [ov] (getMethod ov m pl)
      callWith pos f first (backTo pos (starEach (e :: es) X.env)) (backToKw pos (keywordEach [] X.env))) := by rfl) :
    DE X W (.Call (.Attribute o m apos) (e :: es) [] pos) (dMeth C m n sp dd t r) := by
  obtain ⟨uo, po, ro⟩ := ho.ex
  obtain ⟨ur, pr, rr⟩ := ha.ex
  refine ⟨hMeth X.K W C m n sp dvs uo ur, ⟨fun pins s σ H Q I h => ?_⟩, meth_ref hd ro rr⟩
  refine PySem.W.methodCall_KW (pl := pl) (thn (po.run pins s σ H _ I h) fun u s1 ⟨x, H1, I1, rx, a, dx, fs, ex, ea, l, q⟩ => ?_) ht
  subst ex
  obtain rfl : u = Value.ref a := rx
  refine getmeth_ok I1 ea c hm l ?_
  refine PySem.W.callWith_K (first := [.ref a]) (h₀ := X.base) I.ok.mod.kin hm.kp (thn (pr.run pos pins s1 σ H1 _ I1 q) fun us s2 ⟨vs, H2, I2, r, q2⟩ => ⟨I2.kIn, ?_⟩) hst hpl
  exact run_fnG (us := .ref a :: us) (vs := .ref a :: vs) F hr hb hv tk I2 (.cons rfl r) q2
/-- o.m() -/
theorem de_meth0 {dd : List D} {dvs : List V} {dv : List Value} {pl : Sem Bool} (ho : DE X W o t) (c : Cls X.K C) (hm : Meth X.K C m f) (F : FnG X.prog X.w X.K X.mg X.base k f fd ps (toSp X.K n sp)) (hr : RoomG k X.A) (tk : TkC X W) (hb : Binds X.K fd ps dv) (hv : Vals dvs dv) (hd : DflD X.K dd dvs)
    (ht : eval (.Call (.Attribute o m apos) [] [] pos) X.env = (do
      let ov ← eval o X.env
      standAt apos.atName
      let (f, first) ← holding [ov] (getMethod ov m pl)
      callWith pos f first (backTo pos (starEach [] X.env)) (backToKw pos (keywordEach [] X.env))) := by rfl) :
    DE X W (.Call (.Attribute o m apos) [] [] pos) (dMeth C m n sp dd t dNil) := by
  obtain ⟨uo, po, ro⟩ := ho.ex
  refine ⟨hMeth X.K W C m n sp dvs uo tNil, ⟨fun pins s σ H Q I h => ?_⟩, meth_ref hd ro fun F0 E hw F ρ w σ H Qd Q at_ hh k => k [] w F [] H (Evl.Ex.refl _) at_.h DenL.nil hh⟩
  refine PySem.W.methodCall_KW (pl := pl) (thn (po.run pins s σ H _ I h) fun u s1 ⟨x, H1, I1, rx, a, dx, fs, ex, ea, l, q⟩ => ?_) ht
  subst ex
  obtain rfl : u = Value.ref a := rx
  refine getmeth_ok I1 ea c hm l ?_
  exact PySem.W.callWith_K0 (first := [.ref a]) I1.kIn hm.kp (run_fnG (us := [.ref a]) (vs := [.ref a]) F hr hb hv tk I1 (.cons rfl .nil) q)
/-- C(e, ..) -/
def dMake (C : Addr) (n : Nat) (sp : SpD) (dd : List D) (r : TAD) : TED := fun E ρ w Q => r E ρ w fun ds w1 => ∀ a, w1 a = none → (D.ref a :: (ds ++ dd)).length = n ∧ sp (.ref a :: (ds ++ dd)) (wupd w1 a (.ins C [])) (fun x w' => E x ρ w') fun v w2 => v = .non ∧ Q (.ref a) w2
def hMake (K : PySem.W.Frag) (W : WX) (C : Addr) (n : Nat) (sp : SpD) (dvs : List V) (ur : TA) : TE := fun σ H Q => ur σ H fun vs H1 => ∀ x dx, H1 x = none → H1 dx = none → dx ≠ x → toSp K n sp (.ref x :: (vs ++ dvs)) (upd (upd H1 dx (.own x)) x (.ins C dx [])) (fun v H2 => v = .non ∧ Q (.ref x) H2) (WE W σ)
theorem make_ref {K : PySem.W.Frag} {ur : TA} {dd : List D} {dvs : List V} (hd : DflD K dd dvs)
    (rr : ∀ F0 E, WishOk K W F0 E → ∀ F ρ w σ H Qd Q, At K F0 F ρ w σ H → r E ρ w Qd → EndL K F Qd Q → ur σ H Q) :
    ∀ F0 E, WishOk K W F0 E → ∀ F ρ w σ H Qd Q, At K F0 F ρ w σ H → dMake C n sp dd r E ρ w Qd → EndV K F Qd Q → hMake K W C n sp dvs ur σ H Q := fun F0 E hw F ρ w σ H Qd Q at_ hh k =>
  rr F0 E hw F ρ w σ H _ _ at_ hh fun ds w1 F1 vs H1 e1 h1 d1 q1 x dx hx hdx hne => by
    obtain ⟨q0, q⟩ := q1 x (h1.fresh hx).2
    have h2 : RelH K F1 w1 (upd H1 dx (.own x)) := h1.newU hdx _
    have hx2 : (upd H1 dx (.own x)) x = none := by rw [upd_ne (Ne.symm hne)]; exact hx
    have h3 : RelH K F1 (wupd w1 x (.ins C [])) (upd (upd H1 dx (.own x)) x (.ins C dx [])) := h2.newW (u := .ins C []) hx2 ⟨dx, [], upd_same, .nil⟩
    refine toSp_of hw (at_.step e1 h3) (DenL.cons den_ref (d1.append (hd F1))) q0 q fun v w4 F4 u H4 e4 h4 d4 q4 => ?_
    obtain ⟨rfl, q4⟩ := q4
    exact ⟨d4.non_, k _ w4 F4 _ H4 (e1.trans e4) h4 den_ref q4⟩
theorem run_makeG {sp : Sp} {dvs : List V} {ds : List Value} {pins : List (Addr × Obj)} {σ : L2.St} {H : Hp} {s : Shared} {Q : VK} {us : List Value} {vs : List V} (M : Mk X.K C f) (F : FnG X.prog X.w X.K X.mg X.base k f fd ps sp) (hr : RoomG (k + 1) X.A) (hb : Binds X.K fd ps ds) (hd : Vals dvs ds)
    (tk : TkC X W) (I : Inv X pins σ H s) (r : Vals vs us)
    (h : ∀ x dx, H x = none → H dx = none → dx ≠ x → sp (.ref x :: (vs ++ dvs)) (upd (upd H dx (.own x)) x (.ins C dx [])) (fun v H2 => v = .non ∧ Q (.ref x) H2) (WE W σ)) :
    wpAny (model X.prog X.w) X.A (call (.ref C) us) (EP X pins σ Q) X.xe s := by
  have hq := h (s.heap.objs.size + 1) s.heap.objs.size (I.hok.fresh (Nat.le_succ _)) (I.hok.fresh (Nat.le_refl _)) (Nat.ne_of_lt (Nat.lt_succ_self _))
  have I2 := Inv.made (C := C) I
  have r2 : Vals (V.ref (s.heap.objs.size + 1) :: (vs ++ dvs)) (Value.ref (s.heap.objs.size + 1) :: (us ++ ds)) := .cons rfl (r.append hd)
  have hl : (Value.ref (s.heap.objs.size + 1) :: us ++ ds).length = ps.length := by
    have e := r2.length
    rw [F.len _ _ _ _ hq] at e
    exact e.symm
  refine wpAny_call (make_map (f := f) I.kIn M.makes M.init (beq_iff_eq.mp M.fn) (codeAny_mono (F.run _ X.stack _ _ ⟨Value.ref (s.heap.objs.size + 1) :: us, []⟩ (Value.ref (s.heap.objs.size + 1) :: (us ++ ds)) _ _ _ (hr.make C us [])
    (I2.env0.make C us []) (hb _ (Value.ref (s.heap.objs.size + 1) :: us) I2.kIn hl) r2 hq) fun r s' hq' => ?_))
  cases r with
  | error e => exact tk σ pins _ _ e s' I2 hq'
  | ok fl =>
    cases fl with
    | ret u =>
      obtain ⟨v, H', I3, rv, ev, q3⟩ := I2.after hq'
      subst ev
      exact ⟨rv, ⟨V.ref (s.heap.objs.size + 1), H', I3, rfl, q3⟩⟩
    | next => exact False.elim hq'
    | brk => exact False.elim hq'
    | cont => exact False.elim hq'
theorem de_make {dd : List D} {dvs : List V} {dv : List Value} (M : Mk X.K C f) (F : FnG X.prog X.w X.K X.mg X.base k f fd ps (toSp X.K n sp)) (hr : RoomG (k + 1) X.A) (tk : TkC X W) (hm : X.mg x = some (.ref C)) (hb : Binds X.K fd ps dv) (hv : Vals dvs dv) (hd : DflD X.K dd dvs)
    (ha : DA X W (e :: es) r) (hg : Gl X x := by rfl) (hdb : (x == ("__debug__" : Str)) = false := by decide) (he : starEach (e :: es) X.env = (false, eval e X.env) :: starEach es X.env := by rfl) (hpl : (backTo pos (starEach es X.env)).any (·.1) = false := by rfl) :
    DE X W (.Call (.Name x p) (e :: es) [] pos) (dMake C n sp dd r) := by
  obtain ⟨ur, pr, rr⟩ := ha.ex
  refine ⟨hMake X.K W C n sp dvs ur, ⟨fun pins s σ H Q I h => ?_⟩, make_ref hd rr⟩
  refine wpAny_Call_Name_kw (ld_glob I hg hm ?_ hdb)
  refine PySem.W.callWith_K (h₀ := X.base) I.ok.mod.kin M.kp (thn (pr.run pos pins s σ H _ I h) fun us s1 ⟨vs, H1, I1, r, q⟩ => ⟨I1.kIn, ?_⟩) he hpl
  exact run_makeG M F hr hb hv tk I1 r q
theorem de_make0 {dd : List D} {dvs : List V} {dv : List Value} (M : Mk X.K C f) (F : FnG X.prog X.w X.K X.mg X.base k f fd ps (toSp X.K n sp)) (hr : RoomG (k + 1) X.A) (tk : TkC X W) (hm : X.mg x = some (.ref C)) (hb : Binds X.K fd ps dv) (hv : Vals dvs dv) (hd : DflD X.K dd dvs)
    (hg : Gl X x := by rfl) (hdb : (x == ("__debug__" : Str)) = false := by decide) : DE X W (.Call (.Name x p) [] [] pos) (dMake C n sp dd dNil) := by
  refine ⟨hMake X.K W C n sp dvs tNil, ⟨fun pins s σ H Q I h => ?_⟩, make_ref hd fun F0 E hw F ρ w σ H Qd Q at_ hh k => k [] w F [] H (Evl.Ex.refl _) at_.h DenL.nil hh⟩
  refine wpAny_Call_Name_kw (ld_glob I hg hm ?_ hdb)
  exact PySem.W.callWith_K0 I.kIn M.kp (run_makeG (us := []) M F hr hb hv tk I .nil h)
/-! ### a name that holds a def of the text -/
structure Fnv (P : Program) (w : World) (K : PySem.W.Frag) (mg : Str → Option Value) (base : Heap) (k n : Nat) (f : Addr) (sp : SpD) : Prop where
  ex : ∃ fd ps, FnG P w K mg base k f fd ps (toSp K n sp) ∧ PySem.W.keepIn K (.ref f) = true ∧ Binds K fd ps []
def dCallV (P : Program) (w0 : World) (K : PySem.W.Frag) (mg : Str → Option Value) (base : Heap) (k n i : Nat) (r : TAD) : TED := fun E ρ w Q => ∃ f sp, ρ[i]? = some (some (.ref f)) ∧ Fnv P w0 K mg base k n f sp ∧ r E ρ w fun ds w1 => ds.length = n ∧ sp ds w1 (fun x w' => E x ρ w') Q
theorem de_callV {i : Nat} (hr : RoomG k X.A) (tk : TkC X W) (ha : DA X W (e :: es) r) (hN : X.N[i]? = some x := by rfl) (hv : Vis X.env.scope x := by first | exact Or.inl rfl | exact Or.inr (Or.inl rfl) | exact Or.inr (Or.inr rfl)) (hdb : (x == ("__debug__" : Str)) = false := by decide) (hcd : (x == ("__classdict__" : Str)) = false := by decide)
    (he : starEach (e :: es) X.env = (false, eval e X.env) :: starEach es X.env := by rfl) (hpl : (backTo pos (starEach es X.env)).any (·.1) = false := by rfl) : DE X W (.Call (.Name x p) (e :: es) [] pos) (dCallV X.prog X.w X.K X.mg X.base k n i r) := by
  obtain ⟨ur, pr, rr⟩ := ha.ex
  refine ⟨fun σ H Q => ∃ f sp, σ[i]? = some (some (.ref f)) ∧ Fnv X.prog X.w X.K X.mg X.base k n f sp ∧ ur σ H fun vs H1 => toSp X.K n sp vs H1 Q (WE W σ), ⟨fun pins s σ H Q I h => ?_⟩, fun F0 E hw F ρ w σ H Qd Q at_ hh k => ?_⟩
  · obtain ⟨f, sp, hs, fv, ht⟩ := h
    obtain ⟨fd, ps, F, hk, hb⟩ := fv.ex
    refine wpAny_Call_Name_kw (thn ((pe_var (pos := p) hN hv hdb hcd).run pins s σ H (fun v H1 => v = .ref f ∧ H1 = H) I ⟨.ref f, hs, rfl, rfl⟩) fun u s1 ⟨v, H1, I1, r1, q1⟩ => ?_)
    obtain ⟨rfl, rfl⟩ := q1
    cases r1
    refine PySem.W.callWith_K (h₀ := X.base) I.ok.mod.kin hk (thn (pr.run pos pins s1 σ _ _ I1 ht) fun us s2 ⟨vs, H2, I2, r, q⟩ => ⟨I2.kIn, ?_⟩) he hpl
    exact run_fnG F hr hb .nil tk I2 r (by rw [List.append_nil]; exact q)
  · obtain ⟨f, sp, hf, fv, q⟩ := hh
    obtain ⟨v, hv, dv⟩ := at_.r.at_ i _ hf
    cases dv.ref_
    exact ⟨f, sp, hv, fv, rr F0 E hw F ρ w σ H _ _ at_ q fun ds w1 F1 vs H1 e1 h1 d1 q1 => toSp_of hw (at_.step e1 h1) d1 q1.1 q1.2 (k.mono e1)⟩
/-! ### built-ins, by values -/
abbrev RcD := List D → Wd → VKD → Prop
def LiftC (K : PySem.W.Frag) (f : RcD) (r : List V → Hp → VK → Prop) : Prop := ∀ F w H ds vs Qd Q, RelH K F w H → DenL K F ds vs → f ds w Qd → EndV K F Qd Q → r vs H Q
def dCB (f : RcD) (r : TAD) : TED := fun E ρ w Q => r E ρ w fun ds w1 => f ds w1 Q
theorem cb_ref {K : PySem.W.Frag} {ur : TA} {f : RcD} {g : List V → Hp → VK → Prop} (hf : LiftC K f g)
    (rr : ∀ F0 E, WishOk K W F0 E → ∀ F ρ w σ H Qd Q, At K F0 F ρ w σ H → r E ρ w Qd → EndL K F Qd Q → ur σ H Q) :
    ∀ F0 E, WishOk K W F0 E → ∀ F ρ w σ H Qd Q, At K F0 F ρ w σ H → dCB f r E ρ w Qd → EndV K F Qd Q → tCB g ur σ H Q := fun F0 E hw F ρ w σ H Qd Q at_ hh k =>
  rr F0 E hw F ρ w σ H _ _ at_ hh fun ds w1 F1 vs H1 e1 h1 d1 q1 => hf F1 w1 H1 ds vs Qd Q h1 d1 q1 (k.mono e1)
theorem de_callB {id : String} {f : RcD} {g : List V → Hp → VK → Prop} (hc : CallR X (.builtin id) g) (hf : LiftC X.K f g) (hm : X.mg x = none) (hv : bootBuiltins x = some (.builtin id)) (ha : DA X W (e :: es) r) (hg : Gl X x := by rfl) (hn : x ≠ "__name__" := by decide) (hdb : (x == ("__debug__" : Str)) = false := by decide)
    (he : starEach (e :: es) X.env = (false, eval e X.env) :: starEach es X.env := by rfl) (hpl : (backTo pos (starEach es X.env)).any (·.1) = false := by rfl) : DE X W (.Call (.Name x p) (e :: es) [] pos) (dCB f r) := by
  obtain ⟨ur, pr, rr⟩ := ha.ex
  exact ⟨_, pe_callB hc hg hm hv pr hn hdb he hpl, cb_ref hf rr⟩
theorem de_callTy {T : String} {f : RcD} {g : List V → Hp → VK → Prop} (hc : CallR X (.type T) g) (hf : LiftC X.K f g) (hm : X.mg x = none) (hv : bootBuiltins x = some (.type T)) (ha : DA X W (e :: es) r) (hg : Gl X x := by rfl) (hn : x ≠ "__name__" := by decide) (hdb : (x == ("__debug__" : Str)) = false := by decide)
    (he : starEach (e :: es) X.env = (false, eval e X.env) :: starEach es X.env := by rfl) (hpl : (backTo pos (starEach es X.env)).any (·.1) = false := by rfl) : DE X W (.Call (.Name x p) (e :: es) [] pos) (dCB f r) := by
  obtain ⟨ur, pr, rr⟩ := ha.ex
  exact ⟨_, pe_callTy hc hg hm hv pr hn hdb he hpl, cb_ref hf rr⟩
/-- len of a list, a tuple, a text -/
def lenD : RcD := fun ds w Q => ∃ x, ds = [x] ∧
  match x with
  | .str z => z.length ≤ sizeLine ∧ Q (.int z.length) w
  | x => ∃ xs, seqD w x = some xs ∧ Q (.int xs.length) w
theorem lift_len {K : PySem.W.Frag} : LiftC K lenD (fun xs H Q => ∃ x n, xs = [x] ∧ LenV K x H n ∧ Q (.int n) H) := by
  intro F w H ds vs Qd Q r dn h k
  obtain ⟨x, rfl, h⟩ := h
  obtain ⟨v, rfl, dv⟩ := dn.one
  split at h
  · cases dv.str_
    exact ⟨_, _, rfl, ⟨h.1, rfl⟩, k _ w F _ H (Evl.Ex.refl _) r den_int h.2⟩
  · obtain ⟨xs, hs, q⟩ := h
    obtain ⟨a, us, rfl, h1, h2⟩ := seqD_ok r dv hs
    refine ⟨_, us.length, rfl, h1.elim (fun z => .inl ⟨us, z, rfl⟩) (fun z => .inr ⟨us, z, rfl⟩), ?_⟩
    rw [← h2.len]
    exact k _ w F _ H (Evl.Ex.refl _) r den_int q
theorem de_len (hm : X.mg "len" = none) (ha : DA X W (e :: es) r) (hg : Gl X "len" := by rfl)
    (he : starEach (e :: es) X.env = (false, eval e X.env) :: starEach es X.env := by rfl) (hpl : (backTo pos (starEach es X.env)).any (·.1) = false := by rfl) : DE X W (.Call (.Name "len" p) (e :: es) [] pos) (dCB lenD r) :=
  de_callB call_len lift_len hm PySem.boot_len ha hg (by decide) (by decide) he hpl
/-- all of a list of bools -/
def allD : RcD := fun ds w Q => ∃ (x : D) (bs : List Bool), ds = [x] ∧ lstD w x = some (bs.map D.bl) ∧ Q (.bl (bs.all id)) w
theorem denL_bls {K : PySem.W.Frag} {F : Hp} : ∀ {bs : List Bool} {vs : List V}, DenL K F (bs.map D.bl) vs → vs = bs.map V.bl
  | [], vs, h => denL_nil h
  | b :: bs, vs, h => by
    obtain ⟨v, r, rfl, h1, h2⟩ := denL_cons h
    rw [h1.bl_, denL_bls h2]; rfl
theorem denL_ints {K : PySem.W.Frag} {F : Hp} : ∀ {bs : List Int} {vs : List V}, DenL K F (bs.map D.int) vs → vs = bs.map V.int
  | [], vs, h => denL_nil h
  | b :: bs, vs, h => by
    obtain ⟨v, r, rfl, h1, h2⟩ := denL_cons h
    rw [h1.int_, denL_ints h2]; rfl
theorem denL_strs {K : PySem.W.Frag} {F : Hp} : ∀ {bs : List Str} {vs : List V}, DenL K F (bs.map D.str) vs → vs = bs.map V.str
  | [], vs, h => denL_nil h
  | b :: bs, vs, h => by
    obtain ⟨v, r, rfl, h1, h2⟩ := denL_cons h
    rw [h1.str_, denL_strs h2]; rfl
theorem DenL.ofStrs {K : PySem.W.Frag} {F : Hp} : ∀ (bs : List Str), DenL K F (bs.map D.str) (bs.map V.str)
  | [] => DenL.nil
  | b :: bs => DenL.cons den_str (DenL.ofStrs bs)
theorem lift_all {K : PySem.W.Frag} : LiftC K allD (rAll K) := by
  intro F w H ds vs Qd Q r dn h k
  obtain ⟨x, bs, rfl, hs, q⟩ := h
  obtain ⟨v, rfl, dv⟩ := dn.one
  obtain ⟨a, us, rfl, h1, h2⟩ := lstD_ok r dv hs
  exact ⟨a, bs, rfl, by rw [← denL_bls h2]; exact h1, k _ w F _ H (Evl.Ex.refl _) r den_bl q⟩
theorem de_all (hc : X.calm = true) (hm : X.mg "all" = none) (ha : DA X W (e :: es) r) (hg : Gl X "all" := by rfl)
    (he : starEach (e :: es) X.env = (false, eval e X.env) :: starEach es X.env := by rfl) (hpl : (backTo pos (starEach es X.env)).any (·.1) = false := by rfl) : DE X W (.Call (.Name "all" p) (e :: es) [] pos) (dCB allD r) :=
  de_callB (cr_all hc) lift_all hm (by decide +kernel) ha hg (by decide) (by decide) he hpl
/-- int of an int, a bool, a text that writes one -/
def intCD : RcD := fun ds w Q => ∃ x, ds = [x] ∧
  match x with
  | .int i => Q (.int i) w
  | .bl b => Q (.int (if b then 1 else 0)) w
  | .str z => ∃ n : Int, PySem.intText? z = some n ∧ z.length ≤ 640 ∧ Q (.int n) w
  | _ => False
def rIntC : List V → Hp → VK → Prop := fun xs H Q => ((∃ i, xs = [.int i] ∧ Q (.int i) H) ∨ ∃ k, xs = [.bl k] ∧ Q (.int (if k then 1 else 0)) H) ∨ ∃ a n, xs = [.str a] ∧ PySem.intText? a = some n ∧ a.length ≤ 640 ∧ Q (.int n) H
theorem lift_int_c {K : PySem.W.Frag} : LiftC K intCD rIntC := by
  intro F w H ds vs Qd Q r dn h k
  obtain ⟨x, rfl, h⟩ := h
  obtain ⟨v, rfl, dv⟩ := dn.one
  split at h
  · cases dv.int_
    exact .inl (.inl ⟨_, rfl, k _ w F _ H (Evl.Ex.refl _) r den_int h⟩)
  · cases dv.bl_
    exact .inl (.inr ⟨_, rfl, k _ w F _ H (Evl.Ex.refl _) r den_int h⟩)
  · obtain ⟨n, h1, h2, q⟩ := h
    cases dv.str_
    exact .inr ⟨_, n, rfl, h1, h2, k _ w F _ H (Evl.Ex.refl _) r den_int q⟩
  · exact h.elim
theorem de_intC (hm : X.mg "int" = none) (ha : DA X W (e :: es) r) (hg : Gl X "int" := by rfl)
    (he : starEach (e :: es) X.env = (false, eval e X.env) :: starEach es X.env := by rfl) (hpl : (backTo pos (starEach es X.env)).any (·.1) = false := by rfl) : DE X W (.Call (.Name "int" p) (e :: es) [] pos) (dCB intCD r) :=
  de_callTy (CallR.or call_int1 call_int_str) lift_int_c hm (by decide +kernel) ha hg (by decide) (by decide) he hpl
/-- str of an int, a text -/
def strCD : RcD := fun ds w Q => ∃ x, ds = [x] ∧
  match x with
  | .int i => i.natAbs.log2 < 1920 ∧ Q (.str (toString i)) w
  | .str z => Q (.str z) w
  | _ => False
theorem lift_strC {K : PySem.W.Frag} : LiftC K strCD (fun xs H Q => (∃ i, xs = [.int i] ∧ i.natAbs.log2 < 1920 ∧ Q (.str (toString i)) H) ∨ ∃ a, xs = [.str a] ∧ Q (.str a) H) := by
  intro F w H ds vs Qd Q r dn h k
  obtain ⟨x, rfl, h⟩ := h
  obtain ⟨v, rfl, dv⟩ := dn.one
  split at h
  · cases dv.int_
    exact .inl ⟨_, rfl, h.1, k _ w F _ H (Evl.Ex.refl _) r den_str h.2⟩
  · cases dv.str_
    exact .inr ⟨_, rfl, k _ w F _ H (Evl.Ex.refl _) r den_str h⟩
  · exact h.elim
theorem de_strC (hm : X.mg "str" = none) (ha : DA X W (e :: es) r) (hg : Gl X "str" := by rfl)
    (he : starEach (e :: es) X.env = (false, eval e X.env) :: starEach es X.env := by rfl) (hpl : (backTo pos (starEach es X.env)).any (·.1) = false := by rfl) : DE X W (.Call (.Name "str" p) (e :: es) [] pos) (dCB strCD r) :=
  de_callTy (CallR.or call_str_int SkE.call_str_str) lift_strC hm (by decide +kernel) ha hg (by decide) (by decide) he hpl
def absD : RcD := fun ds w Q => ∃ i : Int, ds = [.int i] ∧ Q (.int (if i < 0 then -i else i)) w
theorem lift_abs {K : PySem.W.Frag} : LiftC K absD (fun xs H Q => ∃ i, xs = [.int i] ∧ Q (.int (if i < 0 then -i else i)) H) := by
  intro F w H ds vs Qd Q r dn h k
  obtain ⟨i, rfl, q⟩ := h
  obtain ⟨v, rfl, dv⟩ := dn.one
  cases dv.int_
  exact ⟨i, rfl, k _ w F _ H (Evl.Ex.refl _) r den_int q⟩
theorem de_abs (hm : X.mg "abs" = none) (ha : DA X W (e :: es) r) (hg : Gl X "abs" := by rfl)
    (he : starEach (e :: es) X.env = (false, eval e X.env) :: starEach es X.env := by rfl) (hpl : (backTo pos (starEach es X.env)).any (·.1) = false := by rfl) : DE X W (.Call (.Name "abs" p) (e :: es) [] pos) (dCB absD r) :=
  de_callB call_abs lift_abs hm (by decide +kernel) ha hg (by decide) (by decide) he hpl
/-- list(xs): a new list; tuple(xs) -/
def listCD : RcD := fun ds w Q => ∃ x xs, ds = [x] ∧ seqD w x = some xs ∧ Q (.lst xs) w
theorem lift_listC {K : PySem.W.Frag} : LiftC K listCD (fun xs H Q => ∃ p ys, xs = [.ref p] ∧ (SqL K H p ys ∨ SqT K H p ys) ∧ ∀ l, H l = none → Q (.ref l) (upd H l (.lst ys))) := by
  intro F w H ds vs Qd Q r dn h k
  obtain ⟨x, xs, rfl, hs, q⟩ := h
  obtain ⟨v, rfl, dv⟩ := dn.one
  obtain ⟨a, us, rfl, h1, h2⟩ := seqD_ok r dv hs
  refine ⟨a, us, rfl, h1, fun p hp => ?_⟩
  have e1 : Ex F (upd F p (.lst us)) := Evl.Ex.new (r.fresh hp).1
  exact k _ w _ _ _ e1 (r.newF hp _) (den_lst upd_same (h2.mono e1)) q
theorem de_listC (hm : X.mg "list" = none) (ha : DA X W (e :: es) r) (hg : Gl X "list" := by rfl)
    (he : starEach (e :: es) X.env = (false, eval e X.env) :: starEach es X.env := by rfl) (hpl : (backTo pos (starEach es X.env)).any (·.1) = false := by rfl) : DE X W (.Call (.Name "list" p) (e :: es) [] pos) (dCB listCD r) :=
  de_callTy call_list_of lift_listC hm (by decide +kernel) ha hg (by decide) (by decide) he hpl
/-- .. of the world -/
def listCDW : RcD := fun ds w Q => ∃ x xs, ds = [x] ∧ seqD w x = some xs ∧ ∀ a, w a = none → Q (.ref a) (wupd w a (.lst xs))
theorem lift_listCW {K : PySem.W.Frag} : LiftC K listCDW (fun xs H Q => ∃ p ys, xs = [.ref p] ∧ (SqL K H p ys ∨ SqT K H p ys) ∧ ∀ l, H l = none → Q (.ref l) (upd H l (.lst ys))) := by
  intro F w H ds vs Qd Q r dn h k
  obtain ⟨x, xs, rfl, hs, q⟩ := h
  obtain ⟨v, rfl, dv⟩ := dn.one
  obtain ⟨a, us, rfl, h1, h2⟩ := seqD_ok r dv hs
  exact ⟨a, us, rfl, h1, fun p hp => k _ _ F _ _ (Evl.Ex.refl _) (r.newW (u := .lst xs) hp ⟨us, upd_same, h2⟩) den_ref (q p (r.fresh hp).2)⟩
theorem de_listCW (hm : X.mg "list" = none) (ha : DA X W (e :: es) r) (hg : Gl X "list" := by rfl)
    (he : starEach (e :: es) X.env = (false, eval e X.env) :: starEach es X.env := by rfl) (hpl : (backTo pos (starEach es X.env)).any (·.1) = false := by rfl) : DE X W (.Call (.Name "list" p) (e :: es) [] pos) (dCB listCDW r) :=
  de_callTy call_list_of lift_listCW hm (by decide +kernel) ha hg (by decide) (by decide) he hpl
def tupCD : RcD := fun ds w Q => ∃ x xs, ds = [x] ∧ seqD w x = some xs ∧ Q (.tup xs) w
theorem lift_tupC {K : PySem.W.Frag} : LiftC K tupCD (fun xs H Q => ∃ p ys, xs = [.ref p] ∧ ((SqL K H p ys ∧ ∀ l, H l = none → Q (.ref l) (upd H l (.tup ys))) ∨ (SqT K H p ys ∧ Q (.ref p) H))) := by
  intro F w H ds vs Qd Q r dn h k
  obtain ⟨x, xs, rfl, hs, q⟩ := h
  obtain ⟨v, rfl, dv⟩ := dn.one
  have hl : ∀ {a us}, SqL K H a us → DenL K F xs us → ∀ l, H l = none → Q (.ref l) (upd H l (.tup us)) := fun {a us} h1 h2 p hp => by
    have e1 : Ex F (upd F p (.tup us)) := Evl.Ex.new (r.fresh hp).1
    exact k _ w _ _ _ e1 (r.newF hp _) (den_tup (SqT.of upd_same) (h2.mono e1)) q
  cases x with
  | tup ys =>
    cases hs
    obtain ⟨a, us, rfl, h1, h2⟩ := dv.tup_
    exact ⟨a, us, rfl, .inr ⟨ex_t r.ex h1, k _ w F _ H (Evl.Ex.refl _) r (den_tup h1 h2) q⟩⟩
  | lst ys =>
    obtain ⟨a, us, rfl, h1, h2⟩ := lstD_ok r dv (show lstD w (.lst ys) = some xs from hs)
    exact ⟨a, us, rfl, .inl ⟨h1, hl h1 h2⟩⟩
  | rls ys =>
    obtain ⟨a, us, rfl, h1, h2⟩ := lstD_ok r dv (show lstD w (.rls ys) = some xs from hs)
    exact ⟨a, us, rfl, .inl ⟨h1, hl h1 h2⟩⟩
  | ref b =>
    obtain ⟨a, us, rfl, h1, h2⟩ := lstD_ok r dv (show lstD w (.ref b) = some xs from hs)
    exact ⟨a, us, rfl, .inl ⟨h1, hl h1 h2⟩⟩
  | _ => cases hs
theorem de_tupC (hm : X.mg "tuple" = none) (ha : DA X W (e :: es) r) (hg : Gl X "tuple" := by rfl)
    (he : starEach (e :: es) X.env = (false, eval e X.env) :: starEach es X.env := by rfl) (hpl : (backTo pos (starEach es X.env)).any (·.1) = false := by rfl) : DE X W (.Call (.Name "tuple" p) (e :: es) [] pos) (dCB tupCD r) :=
  de_callTy call_tuple_of lift_tupC hm (by decide +kernel) ha hg (by decide) (by decide) he hpl
end
end DL
set_option Elab.async false
set_option linter.all false
set_option maxRecDepth 100000
set_option maxHeartbeats 1000000
/-! DL8: texts, f-strings, isinstance, repr, append, attributes, dicts. -/
namespace DL
open PySem PySem.Spec PyProof.Rows L2
open Evl (Ex ex_l ex_t)

section
variable {X : Cx} {W : WX} {e o a b f : Expr} {es : List Expr} {t ta tb to te : TED} {r : TAD} {pos p apos : Pos} {x m : Str}
/-! ### methods of texts -/
abbrev RmD := D → List D → Wd → VKD → Prop
def LiftM (K : PySem.W.Frag) (f : RmD) (r : V → List V → Hp → VK → Prop) : Prop := ∀ F w H x ds v vs Qd Q, RelH K F w H → Den K F x v → DenL K F ds vs → f x ds w Qd → EndV K F Qd Q → r v vs H Q
def dM0 (f : RmD) (to : TED) : TED := fun E ρ w Q => to E ρ w fun x w1 => ∃ z, x = .str z ∧ f x [] w1 Q
def dM1 (f : RmD) (to te : TED) : TED := fun E ρ w Q => to E ρ w fun x w1 => ∃ z, x = .str z ∧ te E ρ w1 fun y w2 => f x [y] w2 Q
theorem de_m0 {id : String} {name : Str} {g : RmD} {rr : V → List V → Hp → VK → Prop} (slot : Slot "str" name id) (ty : typeOf (.builtin id) = pure (.type "method_descriptor")) (rule : MtR X id rr) (hl : LiftM X.K g rr) (ho : DE X W o to)
    (hbase : attributeBase o name X.env (eval o X.env) = eval o X.env := by rfl) (hline : (apos.endLine == pos.line) = true := by rfl) : DE X W (.Call (.Attribute o name apos) [] [] pos) (dM0 g to) := by
  obtain ⟨u, p, r⟩ := ho.ex
  refine ⟨_, pe_m0 slot ty rule p hbase hline, fun F0 E hw F ρ w σ H Qd Q at_ hh k => r F0 E hw F ρ w σ H _ _ at_ hh fun x w1 F1 v H1 e1 h1 d1 q1 => ?_⟩
  obtain ⟨z, rfl, q⟩ := q1
  exact ⟨⟨z, d1.str_⟩, hl F1 w1 H1 _ _ _ _ Qd Q h1 d1 DenL.nil q (k.mono e1)⟩
theorem de_m1 {id : String} {name : Str} {g : RmD} {rr : V → List V → Hp → VK → Prop} (slot : Slot "str" name id) (ty : typeOf (.builtin id) = pure (.type "method_descriptor")) (rule : MtR X id rr) (hl : LiftM X.K g rr) (ho : DE X W o to) (he : DE X W e te)
    (hs : starEach [e] X.env = [(false, eval e X.env)] := by rfl) (hbase : attributeBase o name X.env (eval o X.env) = eval o X.env := by rfl) (hline : (apos.endLine == pos.line) = true := by rfl) : DE X W (.Call (.Attribute o name apos) [e] [] pos) (dM1 g to te) := by
  obtain ⟨u, p, r⟩ := ho.ex
  obtain ⟨u2, p2, r2⟩ := he.ex
  refine ⟨_, pe_m1 slot ty rule p p2 hs hbase hline, fun F0 E hw F ρ w σ H Qd Q at_ hh k => r F0 E hw F ρ w σ H _ _ at_ hh fun x w1 F1 v H1 e1 h1 d1 q1 => ?_⟩
  obtain ⟨z, rfl, q⟩ := q1
  refine ⟨⟨z, d1.str_⟩, r2 F0 E hw F1 ρ w1 σ H1 _ _ (at_.step e1 h1) q fun y w2 F2 v2 H2 e2 h2 d2 q2 => ?_⟩
  exact hl F2 w2 H2 _ _ _ _ Qd Q h2 (d1.mono e2) (DenL.cons d2 DenL.nil) q2 (k.mono (e1.trans e2))
def splitD : RmD := fun x ds w Q => ∃ a b, x = .str a ∧ ds = [.str b] ∧ (b.length == 0) = false ∧ a.length + 2 ≤ sizeLine ∧ Q (.lst ((Txt.split a b).map D.str)) w
theorem lift_split {K : PySem.W.Frag} : LiftM K splitD (fun x xs H Q => ∃ a b, x = .str a ∧ xs = [.str b] ∧ (b.length == 0) = false ∧ a.length + 2 ≤ sizeLine ∧ rNewStrs (Txt.split a b) H Q) := by
  intro F w H x ds v vs Qd Q r dx dn h k
  obtain ⟨a, b, rfl, rfl, h1, h2, q⟩ := h
  cases dx.str_
  obtain ⟨v, rfl, dv⟩ := dn.one
  cases dv.str_
  refine ⟨a, b, rfl, rfl, h1, h2, fun p hp => ?_⟩
  have e1 : Ex F (upd F p (.lst ((Txt.split a b).map V.str))) := Evl.Ex.new (r.fresh hp).1
  exact k _ w _ _ _ e1 (r.newF hp _) (den_lst upd_same (DenL.ofStrs _)) q
theorem de_split (ho : DE X W o to) (he : DE X W e te) (hs : starEach [e] X.env = [(false, eval e X.env)] := by rfl) (hbase : attributeBase o "split" X.env (eval o X.env) = eval o X.env := by rfl) (hline : (apos.endLine == pos.line) = true := by rfl) :
    DE X W (.Call (.Attribute o "split" apos) [e] [] pos) (dM1 splitD to te) := de_m1 F.slot_str_split F.type_str_split mt_split lift_split ho he hs hbase hline
def partD : RmD := fun x ds w Q => ∃ a b, x = .str a ∧ ds = [.str b] ∧ (b.length == 0) = false ∧ a.length ≤ sizeLine ∧ Q (.tup [.str (Txt.partition a b).1, .str (Txt.partition a b).2.1, .str (Txt.partition a b).2.2]) w
theorem lift_part {K : PySem.W.Frag} : LiftM K partD (fun x xs H Q => ∃ a b, x = .str a ∧ xs = [.str b] ∧ (b.length == 0) = false ∧ a.length ≤ sizeLine ∧
    ∀ p, H p = none → Q (.ref p) (upd H p (.tup [.str (Txt.partition a b).1, .str (Txt.partition a b).2.1, .str (Txt.partition a b).2.2]))) := by
  intro F w H x ds v vs Qd Q r dx dn h k
  obtain ⟨a, b, rfl, rfl, h1, h2, q⟩ := h
  cases dx.str_
  obtain ⟨v, rfl, dv⟩ := dn.one
  cases dv.str_
  refine ⟨a, b, rfl, rfl, h1, h2, fun p hp => ?_⟩
  have e1 : Ex F (upd F p (.tup [.str (Txt.partition a b).1, .str (Txt.partition a b).2.1, .str (Txt.partition a b).2.2])) := Evl.Ex.new (r.fresh hp).1
  exact k _ w _ _ _ e1 (r.newF hp _) (den_tup (SqT.of upd_same) (DenL.cons den_str (DenL.cons den_str (DenL.cons den_str DenL.nil)))) q
theorem de_part (ho : DE X W o to) (he : DE X W e te) (hs : starEach [e] X.env = [(false, eval e X.env)] := by rfl) (hbase : attributeBase o "partition" X.env (eval o X.env) = eval o X.env := by rfl) (hline : (apos.endLine == pos.line) = true := by rfl) :
    DE X W (.Call (.Attribute o "partition" apos) [e] [] pos) (dM1 partD to te) := de_m1 F.slot_str_partition F.type_str_partition mt_partition lift_part ho he hs hbase hline
def joinD : RmD := fun x ds w Q => ∃ (a : Str) (d : D) (ys : List Str), x = .str a ∧ ds = [d] ∧ seqD w d = some (ys.map D.str) ∧ (ys.map (·.length)).sum + ys.length * a.length ≤ 16777216 ∧ Q (.str (Txt.join a ys)) w
theorem lift_join {K : PySem.W.Frag} : LiftM K joinD (fun x xs H Q => ∃ a p, ∃ ys : List Str, x = .str a ∧ xs = [.ref p] ∧ (SqL K H p (ys.map V.str) ∨ SqT K H p (ys.map V.str)) ∧
    (ys.map (·.length)).sum + ys.length * a.length ≤ 16777216 ∧ Q (.str (Txt.join a ys)) H) := by
  intro F w H x ds v vs Qd Q r dx dn h k
  obtain ⟨a, d, ys, rfl, rfl, h1, h2, q⟩ := h
  cases dx.str_
  obtain ⟨v, rfl, dv⟩ := dn.one
  obtain ⟨p, us, rfl, g1, g2⟩ := seqD_ok r dv h1
  rw [denL_strs g2] at g1
  exact ⟨a, p, ys, rfl, rfl, g1, h2, k _ w F _ H (Evl.Ex.refl _) r den_str q⟩
theorem de_join (ho : DE X W o to) (he : DE X W e te) (hs : starEach [e] X.env = [(false, eval e X.env)] := by rfl) (hbase : attributeBase o "join" X.env (eval o X.env) = eval o X.env := by rfl) (hline : (apos.endLine == pos.line) = true := by rfl) :
    DE X W (.Call (.Attribute o "join" apos) [e] [] pos) (dM1 joinD to te) := de_m1 F.slot_str_join F.type_str_join mt_join lift_join ho he hs hbase hline
/-! ### replace: where a token is out already -/
structure DET (X : Cx) (W : WX) (e : Expr) (t : TED) : Prop where
  ex : ∃ te, PET X e te ∧ ∀ F0 E, WishOk X.K W F0 E → ∀ F ρ w σ H Qd Q, At X.K F0 F ρ w σ H → t E ρ w Qd → EndV X.K F Qd Q → te σ H Q
def dRepl (to : TED) (y z : Str) : TED := fun E ρ w Q => to E ρ w fun v w1 => ∃ x, v = .str x ∧ x.length + (x.length + 1) * z.length ≤ 16777216 ∧ Q (.str (Txt.replace x y z)) w1
theorem repl_ref {K : PySem.W.Frag} {u : TE} {y z : Str} (r : ∀ F0 E, WishOk K W F0 E → ∀ F ρ w σ H Qd Q, At K F0 F ρ w σ H → to E ρ w Qd → EndV K F Qd Q → u σ H Q) :
    ∀ F0 E, WishOk K W F0 E → ∀ F ρ w σ H Qd Q, At K F0 F ρ w σ H → dRepl to y z E ρ w Qd → EndV K F Qd Q → CwR.tReplC u y z σ H Q := fun F0 E hw F ρ w σ H Qd Q at_ hh k =>
  r F0 E hw F ρ w σ H _ _ at_ hh fun v w1 F1 u H1 e1 h1 d1 q1 => by
    obtain ⟨x, rfl, hb, q⟩ := q1
    exact ⟨x, d1.str_, hb, k _ w1 F1 _ H1 e1 h1 den_str q⟩
variable {y z : Str} {j k : Nat} {c0 c1 : Pos}
theorem det_repl (ho : DE X W o to) (hyz : (y == z) = false := by decide)
    (hst : starEach [.Constant (.str y) j c0, .Constant (.str z) k c1] X.env = [(false, eval (.Constant (.str y) j c0) X.env), (false, eval (.Constant (.str z) k c1) X.env)] := by rfl)
    (hbase : attributeBase o "replace" X.env (eval o X.env) = eval o X.env := by rfl) (hline : (apos.endLine == pos.line) = true := by rfl) : DET X W (.Call (.Attribute o "replace" apos) [.Constant (.str y) j c0, .Constant (.str z) k c1] [] pos) (dRepl to y z) := by
  obtain ⟨u, p, r⟩ := ho.ex
  exact ⟨_, CwR.pet_replC p hyz hst hbase hline, repl_ref r⟩
theorem det_replT (ho : DET X W o to) (hyz : (y == z) = false := by decide)
    (hst : starEach [.Constant (.str y) j c0, .Constant (.str z) k c1] X.env = [(false, eval (.Constant (.str y) j c0) X.env), (false, eval (.Constant (.str z) k c1) X.env)] := by rfl)
    (hbase : attributeBase o "replace" X.env (eval o X.env) = eval o X.env := by rfl) (hline : (apos.endLine == pos.line) = true := by rfl) : DET X W (.Call (.Attribute o "replace" apos) [.Constant (.str y) j c0, .Constant (.str z) k c1] [] pos) (dRepl to y z) := by
  obtain ⟨u, p, r⟩ := ho.ex
  exact ⟨_, CwR.pet_replT p hyz hst hbase hline, repl_ref r⟩
/-- a written text, an operator, what wants a token -/
theorem de_binT {op : Operator} {g : R2D} {rr : R2} {j : Nat} (ho : OpR X (binaryOp op) rr) (hf : Lift2 X.K g rr) (hb : DET X W b tb) : DE X W (.BinOp (.Constant (.str z) j c0) op b pos) (dBin g (dC (.str z)) tb) := by
  obtain ⟨u, p, r⟩ := hb.ex
  refine ⟨tOp rr (tC (.str z)) u, ⟨fun pins s σ H Q I h => ?_⟩, fun F0 E hw F ρ w σ H Qd Q at_ hh k => ?_⟩
  · refine wpAny_BinOp (Calls.Constant_str (thn (p pins { s with toks := s.toks + 1 } σ H _ (Nat.le_add_left 1 s.toks) (I.tok _) h) fun u2 s2 ⟨v2, H2, I2, r2, q2⟩ => ho pins s2 σ H2 (.str z) _ _ _ Q I2 ⟨_, rfl⟩ r2 q2))
  · exact r F0 E hw F ρ w σ H _ _ at_ hh fun y w2 F2 u H2 e2 h2 d2 q2 => hf F2 w2 H2 _ y _ u Qd Q h2 den_str d2 q2 (k.mono e2)
theorem de_addT {j : Nat} (hb : DET X W b tb) : DE X W (.BinOp (.Constant (.str z) j c0) .Add b pos) (dBin addD (dC (.str z)) tb) := de_binT op_addA lift_add hb
/-! ### text * int -/
theorem foldl_app_rep (l : Array Nat) : ∀ (n : Nat) (acc : Array Nat), ((List.replicate n l).foldl (· ++ ·) acc).toList = acc.toList ++ (List.replicate n l.toList).flatten
  | 0, acc => by simp
  | n + 1, acc => by
    rw [List.replicate_succ, List.foldl_cons, foldl_app_rep l n]
    simp [List.replicate_succ]
def repS (x : Str) (n : Nat) : Str := ⟨((List.replicate n x.cps.toList).flatten).toArray⟩
theorem repS_tl (x : Str) (n : Nat) : (repS x n).cps.toList = (List.replicate n x.cps.toList).flatten := by unfold repS; simp
theorem repS_length (x : Str) (n : Nat) : (repS x n).length = n * x.length := by
  rw [TL.len_tl, TL.len_tl]
  show ((repS x n).cps.toList).length = n * (x.cps.toList).length
  rw [repS_tl, List.length_flatten]
  simp
def rMulS : R2 := fun x y H Q => ∃ (z : Str) (n : Nat), x = .str z ∧ y = .int (n : Int) ∧ 2 ≤ n ∧ 1 ≤ z.length ∧ z.length * n ≤ sizeLine ∧ Q (.str (repS z n)) H
theorem op_mulS : OpR X (binaryOp .Mult) rMulS := by
  intro pins s σ H x y v u Q I rx ry h
  obtain ⟨z, n, rfl, rfl, hn, hz, hl, q⟩ := h
  obtain ⟨tz, rfl⟩ := rx
  obtain ⟨tn, rfl⟩ := ry
  have hline : sizeLine = 16777216 := by rw [sizeLine_eq]
  have hz0 : 0 < z.length := hz
  have hn2 : n ≤ 16777216 := by
    have : 1 * n ≤ z.length * n := Nat.mul_le_mul_right _ hz
    omega
  refine PySem.P.mul_str ?_ (fun _ _ => ?_) (fun _ _ => ?_) ?_
  · have h1 : ¬ ((n : Int) < -(2 ^ 63 : Int)) := by omega
    have h2 : ¬ ((n : Int) ≥ 2 ^ 63) := by omega
    rw [decide_eq_false h1, decide_eq_false h2]; rfl
  · have hnp : (0 : Int) < (n : Int) := by omega
    intro hgt
    have h3 : (2 ^ 63 - 1 : Int) < (z.length : Int) * (n : Int) := by
      have := (Int.ediv_lt_iff_lt_mul hnp).mp hgt
      exact this
    have h4 : (z.length : Int) * (n : Int) ≤ (sizeLine : Int) := by exact_mod_cast hl
    rw [hline] at h4
    omega
  · show decide (z.length * (n : Int).toNat > sizeLine) = false
    rw [Int.toNat_natCast]
    exact decide_eq_false (by omega)
  · have h1 : ¬ ((n : Int) < 1) := by omega
    have h2 : ((n : Int) == 1 || z.length == 0) = false := by
      rw [Bool.or_eq_false_iff]
      exact ⟨by simp; omega, by simp; omega⟩
    rw [if_neg h1, h2, if_neg Bool.false_ne_true, Int.toNat_natCast]
    have e : (⟨(List.replicate n z.cps).foldl (· ++ ·) #[]⟩ : Str) = repS z n := by
      apply TL.ext_tl
      show ((List.replicate n z.cps).foldl (· ++ ·) #[]).toList = (repS z n).cps.toList
      rw [foldl_app_rep, repS_tl]; simp
    rw [e]
    refine ⟨by rw [repS_length, Nat.mul_comm]; exact hl, ?_⟩
    exact ⟨.str (repS z n), H, I.tok _, ⟨_, rfl⟩, q⟩
def mulA : R2D := fun x y w Q => (∃ (z : Str) (n : Nat), x = .str z ∧ y = .int (n : Int) ∧ 2 ≤ n ∧ 1 ≤ z.length ∧ z.length * n ≤ sizeLine ∧ Q (.str (repS z n)) w) ∨ mulD x y w Q
theorem lift_mulA {K : PySem.W.Frag} : Lift2 K mulA (fun x y H Q => rMulS x y H Q ∨ rI CMul (fun i j => .int (i * j)) x y H Q) := by
  intro F w H x y d e Qd Q r dx dy h k
  rcases h with ⟨z, n, rfl, rfl, h1, h2, h3, q⟩ | h
  · cases dx.str_; cases dy.int_
    exact .inl ⟨z, n, rfl, rfl, h1, h2, h3, k _ w F _ H (Evl.Ex.refl _) r den_str q⟩
  · exact .inr (lift_int F w H x y d e Qd Q r dx dy h k)
theorem de_mulA (ha : DE X W a ta) (hb : DE X W b tb) : DE X W (.BinOp a .Mult b pos) (dBin mulA ta tb) := de_bin (OpR.or op_mulS op_mul) lift_mulA ha hb
/-! ### f-strings -/
inductive DJ (X : Cx) (W : WX) : List Expr → List TED → Prop where
  | nil : DJ X W [] []
  | cons {e : Expr} {t : TED} {es : List Expr} {ts : List TED} (h : DE X W e t) (r : DJ X W es ts) : DJ X W (e :: es) (t :: ts)
def dJs : List TED → Str → XD → Rho → Wd → (Str → Wd → Prop) → Prop
  | [], acc, _, _, w, Q => Q acc w
  | t :: ts, acc, E, ρ, w, Q => t E ρ w fun x w1 => ∃ y : Str, x = .str y ∧ (acc ++ y).length ≤ sizeLine ∧ dJs ts (acc ++ y) E ρ w1 Q
theorem dj_pj {es : List Expr} {ts : List TED} (h : DJ X W es ts) : ∃ us, PJ X es us ∧ ∀ F0 E, WishOk X.K W F0 E → ∀ acc F ρ w σ H (Qd : Str → Wd → Prop) (Q : Str → Hp → Prop), At X.K F0 F ρ w σ H → dJs ts acc E ρ w Qd → (∀ out w' F' H', Ex F F' → RelH X.K F' w' H' → Qd out w' → Q out H') → tJs us acc σ H Q := by
  induction h with
  | nil => exact ⟨[], .nil, fun F0 E hw acc F ρ w σ H Qd Q at_ hh k => k acc w F H (Evl.Ex.refl _) at_.h hh⟩
  | @cons e t es ts h r ih =>
    obtain ⟨u, p, rr⟩ := h.ex
    obtain ⟨us, ps, rs⟩ := ih
    refine ⟨u :: us, .cons p ps, fun F0 E hw acc F ρ w σ H Qd Q at_ hh k => rr F0 E hw F ρ w σ H _ _ at_ hh fun x w1 F1 v H1 e1 h1 d1 q1 => ?_⟩
    obtain ⟨y, rfl, hl, q⟩ := q1
    exact ⟨y, d1.str_, hl, rs F0 E hw (acc ++ y) F1 ρ w1 σ H1 _ _ (at_.step e1 h1) q fun out w2 F2 H2 e2 h2 q2 => k out w2 F2 H2 (e1.trans e2) h2 q2⟩
def dJoined (ts : List TED) : TED := fun E ρ w Q => dJs ts Str.empty E ρ w fun out w1 => Q (.str out) w1
theorem de_joined {v1 v2 : Expr} {rest : List Expr} {ts : List TED} (h : DJ X W (v1 :: v2 :: rest) ts) : DE X W (.JoinedStr (v1 :: v2 :: rest) pos) (dJoined ts) := by
  obtain ⟨us, ps, rs⟩ := dj_pj h
  exact ⟨_, pe_joined ps, fun F0 E hw F ρ w σ H Qd Q at_ hh k => rs F0 E hw Str.empty F ρ w σ H _ _ at_ hh fun out w2 F2 H2 e2 h2 q2 => k _ w2 F2 _ H2 e2 h2 den_str q2⟩
theorem de_joined1 (he : DE X W e te) : DE X W (.JoinedStr [e] pos) te := by
  obtain ⟨u, p, r⟩ := he.ex
  exact ⟨_, pe_joined1 p, r⟩
def dFmt (t : TED) : TED := fun E ρ w Q => t E ρ w fun x w1 =>
  match x with
  | .str y => y.length ≤ sizeLine ∧ Q (.str y) w1
  | .int i => i.natAbs.log2 < 1920 ∧ Q (.str (toString i)) w1
  | _ => False
theorem de_fmt (he : DE X W e te) : DE X W (.FormattedValue e (-1) none pos) (dFmt te) := by
  obtain ⟨u, p, r⟩ := he.ex
  refine ⟨_, pe_fmt p, fun F0 E hw F ρ w σ H Qd Q at_ hh k => r F0 E hw F ρ w σ H _ _ at_ hh fun x w1 F1 v H1 e1 h1 d1 q1 => ?_⟩
  split at q1
  · exact .inl ⟨_, d1.str_, q1.1, k _ w1 F1 _ H1 e1 h1 den_str q1.2⟩
  · exact .inr ⟨_, d1.int_, q1.1, k _ w1 F1 _ H1 e1 h1 den_str q1.2⟩
  · exact q1.elim
/-! ### isinstance of a built-in class -/
def doTy : Option DO → Option String
  | some (.lst _) => some "list"
  | some (.dK _) => some "dict"
  | _ => none
def tyD (w : Wd) : D → Option String
  | .non => some "NoneType"
  | .bl _ => some "bool"
  | .int _ => some "int"
  | .str _ => some "str"
  | .tup _ => some "tuple"
  | .lst _ => some "list"
  | .ref a => doTy (w a)
  | _ => none
theorem tyD_ok {K : PySem.W.Frag} {F H : Hp} {w : Wd} {d : D} {v : V} {n : String} (r : RelH K F w H) (h : Den K F d v) (e : tyD w d = some n) : TyX K H v (.type n) := by
  cases d with
  | non => cases h.non_; cases e; exact .base .non
  | bl _ => cases h.bl_; cases e; exact .base (.bl _)
  | int _ => cases h.int_; cases e; exact .base (.int _)
  | str _ => cases h.str_; cases e; exact .base (.str _)
  | tup xs =>
    obtain ⟨a, us, rfl, h1, h2⟩ := h.tup_
    cases e
    rcases ex_t r.ex h1 with (q | ⟨o, q⟩) | ⟨o, _, _, q, c, _⟩
    · exact .base (.tup q)
    · exact .fTuple q
    · exact .kTuple q c
  | lst xs =>
    obtain ⟨a, us, rfl, h1, h2⟩ := h.lst_
    cases e
    exact .base (.lst (r.ex _ _ h1))
  | ref a =>
    cases h.ref_
    have e' : doTy (w a) = some n := e
    unfold doTy at e'
    split at e'
    · rename_i q
      cases e'
      obtain ⟨_, us, h1, _⟩ := r.obj a _ q
      exact .base (.lst h1)
    · rename_i q
      cases e'
      obtain ⟨_, us, h1, _⟩ := r.obj a _ q
      exact .base (.dK h1)
    · cases e'
  | _ => cases e
def isiD : RcD := fun ds w Q => ∃ (d : D) (n t : String) (b : Bool), ds = [d, .ty n] ∧ tyD w d = some t ∧ kitB t n = some b ∧ Q (.bl b) w
theorem lift_isi {K : PySem.W.Frag} : LiftC K isiD (rIsi K) := by
  intro F w H ds vs Qd Q r dn h k
  obtain ⟨d, n, t, b, rfl, h1, h2, q⟩ := h
  obtain ⟨v, u, rfl, dv, du⟩ := dn.two
  cases du.ty_
  exact ⟨v, .ty n, .type t, .type n, b, rfl, .ty n, tyD_ok r dv h1, kit_ty h2, k _ w F _ H (Evl.Ex.refl _) r den_bl q⟩
theorem de_isi (hm : X.mg "isinstance" = none) (ha : DA X W (e :: es) r) (hg : Gl X "isinstance" := by rfl)
    (he : starEach (e :: es) X.env = (false, eval e X.env) :: starEach es X.env := by rfl) (hpl : (backTo pos (starEach es X.env)).any (·.1) = false := by rfl) : DE X W (.Call (.Name "isinstance" p) (e :: es) [] pos) (dCB isiD r) :=
  de_callB call_isi lift_isi hm (by decide +kernel) ha hg (by decide) (by decide) he hpl
theorem kit_str_str : kitB "str" "str" = some true := by decide +kernel
theorem kit_int_str : kitB "int" "str" = some false := by decide +kernel
theorem kit_bool_str : kitB "bool" "str" = some false := by decide +kernel
theorem kit_list_str : kitB "list" "str" = some false := by decide +kernel
theorem kit_tuple_str : kitB "tuple" "str" = some false := by decide +kernel
theorem kit_dict_str : kitB "dict" "str" = some false := by decide +kernel
theorem kit_none_str : kitB "NoneType" "str" = some false := by decide +kernel
/-! ### repr of a list, a tuple -/
def rRepr (K : PySem.W.Frag) : List V → Hp → VK → Prop := fun xs H Q => ∃ a d, xs = [V.ref a] ∧ Dp K H (.ref a) d ∧ d.showable = true ∧ d.hasDict = false ∧ d.depth ≤ 60 ∧ d.shown.length ≤ sizeLine ∧ Q (.str d.shown) H
theorem call_reprR {n : Nat} (hr : RoomG n X.A) : CallR X (.builtin "repr") (rRepr X.K) := by
  intro pins s σ H xs us Q I rs h
  obtain ⟨a, d, rfl, dp, h1, h2, h3, h4, q⟩ := h
  obtain ⟨u, rfl, ru⟩ := vals1 rs
  cases ru
  obtain ⟨as, rd⟩ := Dp.reads I d (.ref a) (.ref a) dp rfl
  refine PySem.repr_of_reads' rd h1 (fun z => by rw [h2] at z; cases z) hr.g (by have := hr.hu; omega) (fun b o e => e) (fun h' u tk hk => ?_) h4
  exact ⟨.str d.shown, H, I.kept hk, ⟨_, rfl⟩, q⟩
def reprD : RcD := fun ds w Q => ∃ x p, ds = [x] ∧ (seqD w x).isSome = true ∧ pyOf w x = some p ∧ p.showable = true ∧ p.hasDict = false ∧ p.depth ≤ 60 ∧ p.shown.length ≤ sizeLine ∧ Q (.str p.shown) w
theorem lift_repr {K : PySem.W.Frag} : LiftC K reprD (rRepr K) := by
  intro F w H ds vs Qd Q r dn h k
  obtain ⟨x, p, rfl, hs, hp, h1, h2, h3, h4, q⟩ := h
  obtain ⟨v, rfl, dv⟩ := dn.one
  obtain ⟨l, hl⟩ := Option.isSome_iff_exists.mp hs
  obtain ⟨a, us, rfl, _, _⟩ := seqD_ok r dv hl
  exact ⟨a, p, rfl, pyOf_ok r dv hp, h1, h2, h3, h4, k _ w F _ H (Evl.Ex.refl _) r den_str q⟩
theorem de_repr {n : Nat} (hr : RoomG n X.A) (hm : X.mg "repr" = none) (ha : DA X W (e :: es) r) (hg : Gl X "repr" := by rfl)
    (he : starEach (e :: es) X.env = (false, eval e X.env) :: starEach es X.env := by rfl) (hpl : (backTo pos (starEach es X.env)).any (·.1) = false := by rfl) : DE X W (.Call (.Name "repr" p) (e :: es) [] pos) (dCB reprD r) :=
  de_callB (call_reprR hr) lift_repr hm (by decide +kernel) ha hg (by decide) (by decide) he hpl
/-! ### xs.append(e) -/
def dApp (to te : TED) : TED := fun E ρ w Q => to E ρ w fun x w1 => ∃ l xs, x = .ref l ∧ w1 l = some (.lst xs) ∧ te E ρ w1 fun y w2 => ∃ ys, w2 l = some (.lst ys) ∧ ys.length < sizeLine ∧ Q .non (wupd w2 l (.lst (ys ++ [y])))
theorem de_app (ho : DE X W o to) (he : DE X W e te) (hbase : attributeBase o "append" X.env (eval o X.env) = eval o X.env := by rfl)
    (hfew : ((backTo pos (starEach (e :: []) X.env)).all (fun x => !x.1) && (backToKw pos (keywordEach [] X.env)).all (fun x => x.1.isSome) && decide ((e :: ([] : List Expr)).length + ([] : List Keyword).length + (if ([] : List Keyword).isEmpty then 0 else 1) < 30)) = true := by rfl)
    (hline : (apos.endLine == pos.line) = true := by rfl) (hs : starEach (e :: []) X.env = (false, eval e X.env) :: starEach [] X.env := by rfl) (hplain : (backTo pos (starEach [] X.env)).any (·.1) = false := by rfl) :
    DE X W (.Call (.Attribute o "append" apos) [e] [] pos) (dApp to te) := by
  obtain ⟨u, p, r⟩ := ho.ex
  obtain ⟨u2, p2, r2⟩ := he.ex
  refine ⟨_, pe_bm PySem.F.plainAttrs_list PySem.F.slot_list_append PySem.F.type_list_append mt_append p (pa_cons p2 pa_nil hs) hbase hfew hline hs hplain, fun F0 E hw F ρ w σ H Qd Q at_ hh k => r F0 E hw F ρ w σ H _ _ at_ hh fun x w1 F1 v H1 e1 h1 d1 q1 => ?_⟩
  obtain ⟨l, xs, rfl, hl, q⟩ := q1
  cases d1.ref_
  obtain ⟨_, us, g1, g2⟩ := h1.obj l _ hl
  refine ⟨.inl ⟨rfl, us, SqL.of g1⟩, r2 F0 E hw F1 ρ w1 σ H1 _ _ (at_.step e1 h1) q fun y w2 F2 v2 H2 e2 h2 d2 q2 => ?_⟩
  obtain ⟨ys, hy, hz, q⟩ := q2
  obtain ⟨gF, us2, g3, g4⟩ := h2.obj l _ hy
  refine ⟨l, us2, v2, rfl, rfl, g3, by rw [← g4.len]; exact hz, ?_⟩
  exact k _ _ F2 _ _ (e1.trans e2) (h2.write (u := .lst (ys ++ [y])) gF ⟨_, upd_same, g4.append (DenL.cons d2 DenL.nil)⟩) den_non q
/-! ### attributes of instances -/
def dFld (C : Addr) (f : Str) (t : TED) : TED := fun E ρ w Q => t E ρ w fun x w1 => ∃ a fs d, x = .ref a ∧ w1 a = some (.ins C fs) ∧ fs.lookup f = some d ∧ Q d w1
theorem de_fld {C : Addr} {f : Str} (c : Cls X.K C) (n : NoAttr X.K C f) (he : DE X W e t) (hb : attributeBase e f X.env (eval e X.env) = eval e X.env := by rfl) : DE X W (.Attribute e f pos) (dFld C f t) := by
  obtain ⟨u, p, r⟩ := he.ex
  refine ⟨_, pe_fld p hb, fun F0 E hw F ρ w σ H Qd Q at_ hh k => r F0 E hw F ρ w σ H _ _ at_ hh fun x w1 F1 v H1 e1 h1 d1 q1 => ?_⟩
  obtain ⟨a, fs, d, rfl, ha, hf, q⟩ := q1
  cases d1.ref_
  obtain ⟨_, dx, gs, g1, g2⟩ := h1.obj a _ ha
  obtain ⟨v, hv, dv⟩ := g2.look hf
  exact ⟨a, C, dx, gs, v, rfl, g1, c, n, hv, k _ w1 F1 _ H1 e1 h1 dv q⟩
def dFldSet (C : Addr) (f : Str) (to te : TED) : TSD := fun E D ρ w => te E ρ w fun y w1 => to E ρ w1 fun x w2 => ∃ a fs, x = .ref a ∧ w2 a = some (.ins C fs) ∧ fs.length < 1000 ∧ D.nx ρ (wupd w2 a (.ins C (putD f y fs)))
theorem ds_fld {C : Addr} {f : Str} {pos' : Pos} (c : Cls X.K C) (n : NoAttr X.K C f) (ho : DE X W o to) (he : DE X W e te) (hs : swapsWith e (some (.Attribute o f pos')) pos.line X.env = pure false := by rfl) : DS X W (.Assign [.Attribute o f pos'] e pos) (dFldSet C f to te) := by
  obtain ⟨u, p, r⟩ := ho.ex
  obtain ⟨u2, p2, r2⟩ := he.ex
  refine ⟨_, ps_fld p p2 hs, fun F0 E hw F ρ w σ H De Dh at_ hh k => r2 F0 E hw F ρ w σ H _ _ at_ hh fun y w1 F1 v H1 e1 h1 d1 q1 => ?_⟩
  have a1 := at_.step e1 h1
  refine r F0 E hw F1 ρ w1 σ H1 _ _ a1 q1 fun x w2 F2 v2 H2 e2 h2 d2 q2 => ?_
  obtain ⟨a, fs, rfl, ha, hl, q⟩ := q2
  cases d2.ref_
  obtain ⟨gF, dx, gs, g1, g2⟩ := h2.obj a _ ha
  exact ⟨a, C, dx, gs, rfl, g1, c, n, by rw [← g2.len]; exact hl, k.nx _ _ F2 _ _ (e1.trans e2) (h2.write (u := .ins C (putD f y fs)) gF ⟨dx, _, upd_same, g2.put (d1.mono e2)⟩) (a1.r.mono e2) q⟩
/-- o.f += e of ints -/
def dFldAug (C : Addr) (f : Str) (to te : TED) (g : Int → Int → Int) : TSD := fun E D ρ w => to E ρ w fun x w1 => ∃ a fs i, x = .ref a ∧ w1 a = some (.ins C fs) ∧ fs.lookup f = some (.int i) ∧ te E ρ w1 fun y w2 => ∃ j fs', y = .int j ∧ w2 a = some (.ins C fs') ∧ fs'.length < 1000 ∧ D.nx ρ (wupd w2 a (.ins C (putD f (.int (g i j)) fs')))
theorem ds_fldadd {C : Addr} {f : Str} {pos' : Pos} (c : Cls X.K C) (n : NoAttr X.K C f) (ho : DE X W o to) (he : DE X W e te) : DS X W (.AugAssign (.Attribute o f pos') .Add e pos) (dFldAug C f to te fun i j => i + j) := by
  obtain ⟨u, p, r⟩ := ho.ex
  obtain ⟨u2, p2, r2⟩ := he.ex
  refine ⟨_, ps_fldaug p p2 in_add, fun F0 E hw F ρ w σ H De Dh at_ hh k => r F0 E hw F ρ w σ H _ _ at_ hh fun x w1 F1 v H1 e1 h1 d1 q1 => ?_⟩
  have a1 := at_.step e1 h1
  obtain ⟨a, fs, i, rfl, ha, hf, q⟩ := q1
  cases d1.ref_
  obtain ⟨_, dx, gs, g1, g2⟩ := h1.obj a _ ha
  obtain ⟨v, hv, dv⟩ := g2.look hf
  cases dv.int_
  refine ⟨a, C, dx, gs, .int i, rfl, g1, c, n, hv, r2 F0 E hw F1 ρ w1 σ H1 _ _ a1 q fun y w2 F2 v2 H2 e2 h2 d2 q2 => ?_⟩
  obtain ⟨j, fs', rfl, ha', hl, q⟩ := q2
  cases d2.int_
  obtain ⟨gF, dx', gs', g3, g4⟩ := h2.obj a _ ha'
  exact ⟨i, j, rfl, rfl, dx', gs', g3, by rw [← g4.len]; exact hl, k.nx _ _ F2 _ _ (e1.trans e2) (h2.write (u := .ins C (putD f (.int (i + j)) fs')) gF ⟨dx', _, upd_same, g4.put den_int⟩) (a1.r.mono e2) q⟩
/-! ### dicts of the world (keys: ints, texts) -/
def keyOf : D → Option Key
  | .int i => some (.inl i)
  | .str x => some (.inr x)
  | _ => none
theorem keyOf_ok {K : PySem.W.Frag} {F : Hp} {d : D} {v : V} {k : Key} (h : Den K F d v) (e : keyOf d = some k) : v = kV k := by
  cases d with
  | int _ => cases h.int_; cases e; rfl
  | str _ => cases h.str_; cases e; rfl
  | _ => cases e
def valD : List (Key × D) → Key → Option D
  | [], _ => none
  | (j, d) :: r, k => if j = k then some d else valD r k
theorem DenKV.val {K : PySem.W.Frag} {F : Hp} {k : Key} {l : List (Key × D)} {m : List (Key × V)} (h : DenKV K F l m) : ∀ {d}, valD l k = some d → ∃ v, valV m k = some v ∧ Den K F d v := by
  induction h with
  | nil => intro d e; cases e
  | @cons j d' v' l m h t ih =>
    intro d e
    unfold valD at e
    by_cases hj : j = k
    · rw [if_pos hj] at e; cases e
      exact ⟨v', valV_pos hj, h⟩
    · rw [if_neg hj] at e
      obtain ⟨v, h1, h2⟩ := ih e
      exact ⟨v, (valV_neg hj).trans h1, h2⟩
theorem DenKV.noval {K : PySem.W.Frag} {F : Hp} {k : Key} {l : List (Key × D)} {m : List (Key × V)} (h : DenKV K F l m) : valD l k = none → valV m k = none := by
  induction h with
  | nil => intro _; rfl
  | @cons j d' v' l m h t ih =>
    intro e
    unfold valD at e
    by_cases hj : j = k
    · rw [if_pos hj] at e; cases e
    · rw [if_neg hj] at e
      exact (valV_neg hj).trans (ih e)
def putKD (kvs : List (Key × D)) (k : Key) (d : D) : List (Key × D) := if (valD kvs k).isSome = true then kvs.map (fun kv => if kv.1 = k then (kv.1, d) else kv) else kvs ++ [(k, d)]
theorem DenKV.len {K : PySem.W.Frag} {F : Hp} {l : List (Key × D)} {m : List (Key × V)} (h : DenKV K F l m) : l.length = m.length := by
  induction h with
  | nil => rfl
  | cons _ _ ih => exact congrArg Nat.succ ih
theorem DenKV.snoc {K : PySem.W.Frag} {F : Hp} {k : Key} {d : D} {v : V} (hd : Den K F d v) {l : List (Key × D)} {m : List (Key × V)} (h : DenKV K F l m) : DenKV K F (l ++ [(k, d)]) (m ++ [(k, v)]) := by
  induction h with
  | nil => exact .cons hd .nil
  | cons h _ ih => exact .cons h ih
theorem DenKV.mapK {K : PySem.W.Frag} {F : Hp} {k : Key} {d : D} {v : V} (hd : Den K F d v) {l : List (Key × D)} {m : List (Key × V)} (h : DenKV K F l m) : DenKV K F (l.map (fun kv => if kv.1 = k then (kv.1, d) else kv)) (m.map (fun kv => if kv.1 = k then (kv.1, v) else kv)) := by
  induction h with
  | nil => exact .nil
  | @cons j d' v' l m h _ ih =>
    show DenKV K F ((if j = k then (j, d) else (j, d')) :: _) ((if j = k then (j, v) else (j, v')) :: _)
    by_cases hj : j = k
    · rw [if_pos hj, if_pos hj]; exact .cons hd ih
    · rw [if_neg hj, if_neg hj]; exact .cons h ih
theorem DenKV.put {K : PySem.W.Frag} {F : Hp} {k : Key} {d : D} {v : V} (hd : Den K F d v) {l : List (Key × D)} {m : List (Key × V)} (h : DenKV K F l m) : DenKV K F (putKD l k d) (putK m k v) := by
  unfold putKD putK
  rw [valV_any]
  cases q : valD l k with
  | none =>
    rw [h.noval q]
    exact h.snoc hd
  | some d' =>
    obtain ⟨v', h1, _⟩ := h.val q
    rw [h1]
    exact h.mapK hd
/-- d[k] -/
def dDGet (to te : TED) : TED := fun E ρ w Q => to E ρ w fun x w1 => te E ρ w1 fun y w2 => ∃ a kvs k d, x = .ref a ∧ w2 a = some (.dK kvs) ∧ keyOf y = some k ∧ valD kvs k = some d ∧ Q d w2
theorem de_dget {n : Nat} (hr : RoomG n X.A) (ho : DE X W o to) (he : DE X W e te) (hs : NoSl e := by exact fun _ _ => rfl) : DE X W (.Subscript o e pos) (dDGet to te) := by
  obtain ⟨u, p, r⟩ := ho.ex
  obtain ⟨u2, p2, r2⟩ := he.ex
  refine ⟨_, pe_dget (by have := hr.hu; omega) p p2 hs, fun F0 E hw F ρ w σ H Qd Q at_ hh k => r F0 E hw F ρ w σ H _ _ at_ hh fun x w1 F1 v H1 e1 h1 d1 q1 => ?_⟩
  refine r2 F0 E hw F1 ρ w1 σ H1 _ _ (at_.step e1 h1) q1 fun y w2 F2 v2 H2 e2 h2 d2 q2 => ?_
  obtain ⟨a, kvs, kk, d, rfl, ha, hk, hv, q⟩ := q2
  cases d1.ref_
  obtain ⟨_, ms, g1, g2⟩ := h2.obj a _ ha
  obtain ⟨v3, hv3, dv3⟩ := g2.val hv
  refine ⟨a, v3, rfl, ?_, k _ w2 F2 _ H2 (e1.trans e2) h2 dv3 q⟩
  rw [keyOf_ok d2 hk, ← hv3]
  exact DGet.k g1
/-- d[k] = e -/
def dDPut (to ti te : TED) : TSD := fun E D ρ w => te E ρ w fun y w1 => to E ρ w1 fun x w2 => ti E ρ w2 fun i w3 => ∃ a kvs k, x = .ref a ∧ w3 a = some (.dK kvs) ∧ keyOf i = some k ∧ kvs.length < sizeLine ∧ D.nx ρ (wupd w3 a (.dK (putKD kvs k y)))
theorem ds_dput {n : Nat} {i : Expr} {ti : TED} {pos' : Pos} (hr : RoomG n X.A) (ho : DE X W o to) (hi : DE X W i ti) (he : DE X W e te) (hs : swapsWith e (some (.Subscript o i pos')) pos.line X.env = pure false := by rfl) : DS X W (.Assign [.Subscript o i pos'] e pos) (dDPut to ti te) := by
  obtain ⟨u, p, r⟩ := ho.ex
  obtain ⟨u1, p1, r1⟩ := hi.ex
  obtain ⟨u2, p2, r2⟩ := he.ex
  refine ⟨_, ps_dput (by have := hr.hu; omega) p p1 p2 hs, fun F0 E hw F ρ w σ H De Dh at_ hh k => r2 F0 E hw F ρ w σ H _ _ at_ hh fun y w1 F1 v1 H1 e1 h1 d1 q1 => ?_⟩
  have a1 := at_.step e1 h1
  refine r F0 E hw F1 ρ w1 σ H1 _ _ a1 q1 fun x w2 F2 v2 H2 e2 h2 d2 q2 => ?_
  have a2 := a1.step e2 h2
  refine r1 F0 E hw F2 ρ w2 σ H2 _ _ a2 q2 fun i w3 F3 v3 H3 e3 h3 d3 q3 => ?_
  obtain ⟨a, kvs, kk, rfl, ha, hk, hl, q⟩ := q3
  cases d2.ref_
  obtain ⟨gF, ms, g1, g2⟩ := h3.obj a _ ha
  have ev : v3 = kV kk := keyOf_ok d3 hk
  subst ev
  refine ⟨a, _, rfl, DPut.k g1 (by rw [← g2.len]; exact hl), ?_⟩
  exact k.nx _ _ F3 _ _ ((e1.trans e2).trans e3) (h3.write (u := .dK (putKD kvs kk y)) gF ⟨_, upd_same, g2.put (d1.mono (e2.trans e3))⟩) (a2.r.mono e3) q
end
end DL
set_option Elab.async false
set_option linter.all false
set_option maxRecDepth 100000
set_option maxHeartbeats 2000000
/-! DL9: a list comprehension whose element may raise. -/
namespace DL
open PySem PySem.Spec PyProof.Rows L2
open Evl (Ex ex_l ex_t)

section
variable {X : Cx}
/-- a block that may let exceptions out -/
abbrev blkE (X : Cx) (ce : Env) : Value → Shared → Prop := notedBy (model X.prog X.w) X.A ce (CompFails (model X.prog X.w) X.A X.xe ce)
theorem hok_restrict {P : Program} {w : World} {H : Hp} {h g : Heap} {C : Addr} (hok : HOk P w H h) (hC : H C = none) (hg : ∀ b o, b ≠ C → h.get? b = some o → g.get? b = some o) : HOk P w H g := fun a o e =>
  (hok a o e).stay (fun b u hb q => hg b u (fun z => by
    subst z
    rcases hb with z | z
    · subst z; rw [hC] at e; cases e
    · rw [hC] at z; cases z) q) (fun _ z => z) (fun _ _ z => z)
/-- what a call in a block lets out leaves the comprehension, too -/
theorem blk_takes {pins : List (Addr × Obj)} {σ σ8 : L2.St} {H3 H8 : Hp} {s3 s8 s' : Shared} {scope : Scope} {ce : Env} {fp : List Addr} {W WB : WX} {a : Value} {pb : List (Addr × Obj)}
    (I3 : Inv X pins σ H3 s3) (hfp : ∀ b ∈ fp, FpOk X pins H3 b ∧ b < s3.heap.objs.size) (hC : ce.locals = s3.heap.objs.size) (hcf : ce.frame = X.env.frame) (hs : X.stack = X.env :: X.outer) (hf : X.env.frame = some X.env.locals)
    (tk : Takes X W) (hW : ∀ cls d σ8 H', WB cls d σ8 H' → W cls d σ H')
    (I8 : Inv (X.blk s3 H3 scope ce fp) pb σ8 H8 s8) (c : L2.CX X.prog X.w X.stack H8 s8 (WE WB σ8) a s') : blkE X ce a s' := by
  obtain ⟨e, B, H', cls, d, rfl, fl, hok, ub, na, os, ag, hE⟩ := c
  have fl0 := fl
  obtain ⟨fB, fe, fF, oe, vs, T, oT, ts, hoe, hz, hd, h1, hnT, hTe, hT, hdT, h3⟩ := fl
  obtain ⟨m, hns, _⟩ := I8.loc
  have hns : s8.heap.Ns ce.locals m := hns
  obtain ⟨oC, es, ep, hoC, hdC, hr⟩ := id hns
  have hHC : H8 ce.locals = none := I8.free
  have hCfr : ce.locals ∉ frs X.stack := fun hm => by
    have hl : ce.locals < s3.heap.objs.size := by
      rw [hs] at hm
      rcases List.mem_filterMap.mp hm with ⟨en, hen, q⟩
      obtain ⟨L', o', hf', ho'⟩ := Heap.FunFrames.mem I3.stack (b := ce.locals) (by rw [hs]; exact hm) |> fun z => (⟨ce.locals, z.2.choose, q, z.2.choose_spec.1⟩ : ∃ L' o', en.frame = some L' ∧ s3.heap.get? ce.locals = some o')
      exact Heap.lt_size ho'
    rw [hC] at hl
    exact Nat.lt_irrefl _ hl
  have hBC : B.get? ce.locals = some oC := ub.keep _ _ hoC hHC hCfr
  have hC' : H' ce.locals = none := ub.free _ _ hoC hHC
  have neC : ∀ {b : Addr}, B.get? b = none → b ≠ ce.locals := fun {b} hb z => by rw [z, hBC] at hb; cases hb
  obtain ⟨B1, b1, b2⟩ := restrict B fun b => decide (b ≠ ce.locals)
  have B1o : ∀ b o, B1.get? b = some o → b ≠ ce.locals ∧ B.get? b = some o := fun b o q => by
    by_cases hb : b = ce.locals
    · rw [b2 b (by simp [hb])] at q; cases q
    · rw [b1 b (by simp [hb])] at q; exact ⟨hb, q⟩
  have B1n : ∀ b, B.get? b = none → B1.get? b = none := fun b q => by
    cases z : B1.get? b with
    | none => rfl
    | some o => rw [(B1o b o z).2] at q; cases q
  have hfrB : ∀ L ∈ frs X.stack, B.get? L = none := fun L hL => (Heap.FunFrames.mem fF hL).1
  have hfr : X.A.frames = some (X.env :: X.outer) := by rw [I3.ok.frames, hs]
  show wpAny _ _ (noteFrame (.ref e) ce) _ _ _
  rw [noteFrame_env _ hcf]
  have fl1 : HandSPX.FlyingZ B (X.env :: X.outer) e (Zc cls d) s'.heap := by rw [← hs]; exact fl0
  refine HandSPX.looks_onZ Zc.steady hfr hf fl1 fun g1 hh1 up1 => ?_
  obtain ⟨k1, k2, k3, k4⟩ := id hh1
  have hgC : g1.get? ce.locals = some oC := k1 _ _ hBC
  refine ⟨m, ⟨oC, es, ep, hgC, hdC, hr⟩, fun g2 m2 hn2 hs2 => ?_⟩
  obtain ⟨oe1, vs1, T1, oT1, ts1, he1, hz1, hd1, h11, hnT1, hTe1, hT1, hdT1, h31⟩ := k4
  have hh2 : HandSPX.HeldZ B1 X.stack e (Zc cls d) X.env.locals g2 := by
    refine ⟨fun b o q => ?_, B1n _ k2, ?_, oe1, vs1, T1, oT1, ts1, (hs2.2 _ (neC k2)).trans he1, hz1, hd1, h11, B1n _ hnT1, hTe1, (hs2.2 _ (neC hnT1)).trans hT1, hdT1, h31⟩
    · obtain ⟨hb, q'⟩ := B1o b o q
      exact (hs2.2 b hb).trans (k1 b o q')
    · have := Heap.FunFrames.sameBut hs2 hn2 k3
      rw [← hs] at this
      exact funFrames_none this fun L hL => B1n _ (hfrB L hL)
  unfold PySem.passOn
  refine wpAny_bind (wpAny_field ((hs2.2 _ (neC k2)).trans he1) hd1 h11 ?_)
  rw [if_neg (show ¬ ((Value.ref T1 == Value.none) = true) from by simp)]
  rw [hcf, hf]
  refine wpAny_bind (HandSPX.setFlight_onZ hh2 fun g3 hh3 up3 => ?_)
  refine wpAny_throw ?_
  refine tk _ _ ?_
  have st : B1.StaysIn g3 := hh3.1
  obtain ⟨G, g1', g2'⟩ := restrict g3 fun b => (B1.get? b).isSome || decide (b ∈ frs X.stack)
  have gB : ∀ b o, B1.get? b = some o → G.get? b = some o := fun b o q => by
    rw [g1' b (by simp [q])]
    exact st b o q
  have gF : ∀ b, b ∈ frs X.stack → G.get? b = g3.get? b := fun b hb => g1' b (by simp [hb])
  have og : ∀ b o, G.get? b = some o → g3.get? b = some o ∧ ((B1.get? b).isSome = true ∨ b ∈ frs X.stack) := fun b o q => by
    cases z : ((B1.get? b).isSome || decide (b ∈ frs X.stack)) with
    | false => rw [g2' b z] at q; cases q
    | true =>
      rw [g1' b z] at q
      exact ⟨q, by simpa [Bool.or_eq_true] using z⟩
  have ltC : ∀ {b : Addr} {o : Obj}, s3.heap.get? b = some o → b ≠ ce.locals := fun {b o} q z => by
    have := Heap.lt_size q
    rw [z, hC] at this
    exact Nat.lt_irrefl _ this
  have toB1 : ∀ b o, b ≠ ce.locals → B.get? b = some o → B1.get? b = some o := fun b o hb q => by rw [b1 b (by simp [hb])]; exact q
  have u0 : Un (frs X.stack) fp H3 H8 s3.heap s8.heap := I8.base
  have slotG : ∀ (b : Addr) (o : Obj), b ∈ frs X.stack → b ≠ ce.locals → (∀ vs, o.data ≠ .fields vs) → (∃ sl, s'.heap.get? b = some { o with slots := sl }) → ∃ sl, G.get? b = some { o with slots := sl } := fun b o hb hne hnf ⟨sl, q⟩ => by
    obtain ⟨sl1, q1⟩ := up1 b _ q hnf
    have q2 := (hs2.2 b hne).trans q1
    obtain ⟨sl3, q3⟩ := up3 b _ q2 hnf
    exact ⟨sl3, by rw [gF b hb]; exact q3⟩
  have frND : ∀ (b : Addr) (o : Obj), b ∈ frs X.stack → s3.heap.get? b = some o → ∀ vs, o.data ≠ .fields vs := fun b o hb q => by
    obtain ⟨_, o', q', hn⟩ := Heap.FunFrames.mem I3.stack hb
    rw [q] at q'; cases q'
    exact hn
  refine ⟨e, B1, { s3 with heap := G, gens := s'.gens, drawn := s'.drawn, toks := s'.toks }, pins, σ, H', cls, d, rfl, ?_, fun b o q hb => ?_, Heap.UpToSlots.of_keeps fun b o q => (og b o q).1, .inr (.inr hh3), na, ?_, ag, hW _ _ _ _ hE⟩
  · refine I3.call (ch := fp) ⟨fun b o q n hb hx => ?_, fun b o q n hb hx => ?_, fun b o q n hx => ?_, fun b o q hx => ?_, fun b xs q => ub.tups b xs (u0.tups b xs q), fun b o xs q => ub.frzs b o xs (u0.frzs b o xs q), fun b ps q => ?_⟩ ?_ ag fun b hb => ⟨(hfp b hb).1.2.2.2.1, (hfp b hb).1.2.1, (hfp b hb).1.2.2.2.2.1, (hfp b hb).1.2.2.2.2.2⟩
    · exact gB b o (toB1 b o (ltC q) (ub.keep b o (u0.keep b o q n hb hx) (u0.free b o q n hx) hb))
    · obtain ⟨sl, q1⟩ := u0.slot b o q n hb hx
      obtain ⟨sl2, q2⟩ := ub.slot b _ q1 hb
      exact slotG b o hb (ltC q) (frND b o hb q) ⟨sl2, q2⟩
    · obtain ⟨sl, q1⟩ := u0.any q n hx
      exact ub.free b _ q1 (u0.free b o q n hx)
    · obtain ⟨o1, q1⟩ := u0.there b o q hx
      by_cases hb : b ∈ frs X.stack
      · obtain ⟨_, o2, q2, hn2'⟩ := Heap.FunFrames.mem fF hb
        obtain ⟨sl, q3⟩ := slotG b o2 hb (ltC q) hn2' ⟨o2.slots, q2⟩
        exact ⟨_, q3⟩
      · obtain ⟨o2, q2⟩ := ub.there b o1 q1 hb
        exact ⟨o2, gB b o2 (toB1 b o2 (ltC q) q2)⟩
    · obtain ⟨m1, q1⟩ := u0.tbls b ps q
      obtain ⟨m2, q2⟩ := ub.tbls b _ q1
      exact ⟨m1 ++ m2, by rw [q2, Array.append_assoc]⟩
    · exact hok_restrict hok hC' fun b o hb q => gB b o (toB1 b o hb q)
  · obtain ⟨q', h⟩ := og b o q
    rcases h with h | h
    · obtain ⟨o', z⟩ := Option.isSome_iff_exists.mp h
      have z' := st b o' z
      rw [q'] at z'; cases z'
      exact z
    · exact absurd h hb
  · rw [os]
    exact I8.os

theorem lc_coreX {pins : List (Addr × Obj)} {s : Shared} {σ : L2.St} {H : Hp} {Q : VK} {elt tg iter : Expr} {ifs : List Expr} {scope : Scope} {own : List (Str × Nat)} {pos pos' : Pos} {wi : TI} {g : TG} {tt : TT} {te : TE} {use : Option (Value → Sem Unit)} {Qf : Value → Shared → Prop} {W WB : WX}
    (hc : X.calm = true) (hN : X.N.Nodup) (hst : X.stack = X.env :: X.outer) (hf : X.env.frame = some X.env.locals) (tk : Takes X W) (hW : ∀ cls d σ8 H', WB cls d σ8 H' → W cls d σ H') (I : Inv X pins σ H s) (hi : PI X tg iter wi) (ok : BlkOk X.N X.env.scope scope own)
    (hg : ∀ (s : Shared) (H : Hp) (C : Addr) (cl : List (Str × Addr)) (fp : List Addr), PG (X.blk s H scope (compEnvC scope cl C X.env) fp) tg g) (ht : ∀ (s : Shared) (H : Hp) (C : Addr) (cl : List (Str × Addr)) (fp : List Addr), PTs (X.blk s H scope (compEnvC scope cl C X.env) fp) ifs tt)
    (he : ∀ (s : Shared) (H : Hp) (C : Addr) (cl : List (Str × Addr)) (fp : List Addr), TkC ((X.blk s H scope (compEnvC scope cl C X.env) fp).wish (blkE X (compEnvC scope cl C X.env))) WB → PE ((X.blk s H scope (compEnvC scope cl C X.env) fp).wish (blkE X (compEnvC scope cl C X.env))) elt te) (hs : ∀ x, foldedSetIterable iter X.env x = pure x)
    (h : tLc wi g tt te (own.map (·.2)) σ H Q)
    (hRR : ∀ D ce s' m H', Inv X pins σ H' s' → Q (.ref D) H' → s'.heap.Ns ce.locals m → FpOk X pins H' ce.locals → compEnds (model X.prog X.w) X.A X.xe use Qf (.ref D) ce (.ok .next) s') :
    wpAny (model X.prog X.w) X.A (comprehension (.ListComp elt [⟨tg, iter, ifs, 0⟩] scope pos) scope X.env pos' (newList []) false (eval iter X.env) use) Qf X.xe s := by
  have hfree : ∀ y ∈ scope.names, y.2 = .free → ∃ c, X.env.cells.lookup y.1 = some c := fun y hy e => by
    rcases ok.free y hy e with k | k
    · exact I.ok.has _ (.inl k)
    · exact I.ok.has _ (.inr k)
  refine comprehension_at (use := use) rfl hs (closure_ok hfree) ok.kind (fun y hy e => by rw [ok.uniq y hy, e])
    (thn (hi.run pins s σ H _ I h) fun xv s1 hx => thn hx fun itv s2 h2 => ?_)
  obtain ⟨it, fp, tn, J, H2, e, I2, T, st2, f2, q⟩ := h2
  subst e
  refine wpAny_newObj_type (newEnv_comp ?_) (by show 0 ≤ sizeLine; decide)
  generalize hD : s2.heap.objs.size = D
  have hDn : H2 D = none := I2.hok.fresh (Nat.le_of_eq hD)
  obtain ⟨Wt, ⟨m0, w0⟩, turn⟩ := q D hDn
  generalize hs3 : ({ s2 with heap := s2.heap.push { cls := .type "list", data := .seq ([] : List Value).toArray } } : Shared) = s3
  have I3 : Inv X pins σ (upd H2 D (.lst [])) s3 := by
    rw [← hs3]
    refine I2.laid (t' := s2.toks) (fun b o e => Heap.get?_push_of_some _ e) (Nat.le_of_eq hD) ⟨Nat.zero_le _, [], 0, .nil, ?_⟩
    rw [← hD]
    exact Heap.get?_push_size _ rfl
  have h3 : s3.heap = s2.heap.push { cls := .type "list", data := .seq ([] : List Value).toArray } := by rw [← hs3]
  have sz : ∀ b ∈ fp, b < s2.heap.objs.size := fun b hb => by
    obtain ⟨o, e, _⟩ := T.obj _ _ st2 b hb
    exact Heap.lt_size e
  have f3 : ∀ b ∈ fp, FpOk X pins (upd H2 D (.lst [])) b ∧ b < s3.heap.objs.size := fun b hb => by
    have hlt := sz b hb
    refine ⟨⟨?_, (f2 b hb).2⟩, by rw [h3, Heap.size_push]; exact Nat.lt_succ_of_lt hlt⟩
    rw [upd_ne (by rw [← hD]; exact Nat.ne_of_lt hlt)]
    exact (f2 b hb).1
  have st3 : tn 0 s3.heap := T.keep _ _ _ st2 fun b _ o e => by rw [h3]; exact Heap.get?_push_of_some _ e
  have I4 := block_start I3 ok hN f3
  have pg := hg s3 (upd H2 D (.lst [])) s3.heap.objs.size (cellsFrom (s3.heap.objs.size + 1) scope.names (cloFrom X.env.cells scope.names [])) fp
  have pt := ht s3 (upd H2 D (.lst [])) s3.heap.objs.size (cellsFrom (s3.heap.objs.size + 1) scope.names (cloFrom X.env.cells scope.names [])) fp
  have pe := he s3 (upd H2 D (.lst [])) s3.heap.objs.size (cellsFrom (s3.heap.objs.size + 1) scope.names (cloFrom X.env.cells scope.names [])) fp
  show codeAny _ _ (.compStart (.ListComp elt [⟨tg, iter, ifs, 0⟩] scope pos) 0 (.ref it) (.ref D) (compEnvC scope (cellsFrom (s3.heap.objs.size + 1) scope.names (cloFrom X.env.cells scope.names [])) s3.heap.objs.size X.env)) (compEnds (model X.prog X.w) X.A X.xe use Qf (.ref D) (compEnvC scope (cellsFrom (s3.heap.objs.size + 1) scope.names (cloFrom X.env.cells scope.names [])) s3.heap.objs.size X.env)) { s3 with heap := pushCells (s3.heap.push { cls := .type "dict", data := .dict #[] }) scope.names }
  have nfp : ∀ b ∈ fp, (upd H2 D (.lst [])) b = none := fun b hb => (f3 b hb).1.1
  have cf : (compEnvC scope (cellsFrom (s3.heap.objs.size + 1) scope.names (cloFrom X.env.cells scope.names [])) s3.heap.objs.size X.env).frame = X.env.frame := rfl
  generalize hce : compEnvC scope (cellsFrom (s3.heap.objs.size + 1) scope.names (cloFrom X.env.cells scope.names [])) s3.heap.objs.size X.env = ce at I4 pg pt pe cf ⊢
  have cL : ce.locals = s3.heap.objs.size := by subst hce; rfl
  generalize hH3 : upd H2 D (.lst []) = H3 at I3 I4 pg pt pe w0 nfp f3
  generalize hs4 : ({ s3 with heap := pushCells (s3.heap.push { cls := .type "dict", data := .dict #[] }) scope.names } : Shared) = s4 at I4 ⊢
  have tkB : TkC ((X.blk s3 H3 scope ce fp).wish (blkE X ce)) WB := fun σ8 pb H8 s8 a s' I8 c => blk_takes I3 f3 cL cf hst hf tk hW (I8.wish _) c
  have pe := pe tkB
  have st4 : tn 0 s4.heap := T.keep _ _ _ st3 fun b _ o e => by rw [← hs4]; exact pushCells_keeps _ _ _ _ (Heap.get?_push_of_some _ e)
  have stat : ∀ {σ' : L2.St} {H' : Hp} {s' : Shared}, Inv (X.blk s3 H3 scope ce fp) [] σ' H' s' → (∀ b ∈ fp, H' b = none) → ∀ b ∈ fp, FpOk (X.blk s3 H3 scope ce fp) [] H' b := fun {σ' H' s'} I' hn b hb =>
    ⟨hn b hb, (I'.ok.exf b hb).1, I'.ok.exfs b hb, .inl hb, fun x c e => (I'.ok.exf b hb).2 x c e, fun p hp => absurd (show p ∈ ([] : List (Addr × Obj)) ++ [] from hp) (by simp)⟩
  have loop : codeAny (model X.prog X.w) X.A (.compLoop (.ListComp elt [⟨tg, iter, ifs, 0⟩] scope pos) 0 (.ref it) (.ref D) ce) (compEnds (model X.prog X.w) X.A X.xe use Qf (.ref D) ce) s4 := by
    refine compLoop_any (fun n s' => ∃ i H', Inv (X.blk s3 H3 scope ce fp) [] (wipe σ (own.map (·.2))) H' s' ∧ tn i s'.heap ∧ (∀ b ∈ fp, H' b = none) ∧ Wt i n H') ?_ m0 ⟨0, H3, I4, st4, nfp, w0⟩
    rintro n s5 ⟨i, H5, I5, st5, n5, w5⟩
    rcases turn i n H5 w5 with ⟨stop, qq⟩ | ⟨go, Nx, hNx, step⟩
    · have td := T.done (X.blk s3 H3 scope ce fp) rfl rfl rfl hc i [] s5 _ H5 (fun _ _ => False) I5 (stat I5 n5) st5 stop
      refine thnF td fun r s6 ⟨hr, I6⟩ => ?_
      subst hr
      have I7 : Inv X pins σ H5 s6 := I3.call' (ch := fp) I6.os I6.base I6.hok I6.bare fun b hb => ⟨(f3 b hb).1.2.2.2.1, (f3 b hb).1.2.1, (f3 b hb).1.2.2.2.2.1, (f3 b hb).1.2.2.2.2.2⟩
      have nC : H5 ce.locals = none := I6.free
      obtain ⟨m, hn, _⟩ := I6.loc
      have hn : s6.heap.Ns ce.locals m := hn
      exact hRR D ce s6 m H5 I7 qq hn (I3.fpOk (Nat.le_of_eq cL.symm) nC)
    · have ti := T.item (X.blk s3 H3 scope ce fp) rfl rfl rfl hc i [] s5 _ H5 (fun _ _ => False) I5 (stat I5 n5) st5 go
      refine thnF ti fun r s6 ⟨u, hr, h6⟩ => ?_
      subst hr
      refine thnF h6 fun _ s7 ⟨x, H7, I7, r7, y7, st7, n7⟩ => ?_
      have I7' := I7.pinned (stat I7 n7) (T.obj _ _ st7)
      refine thnF (pg.run _ s7 _ H7 x u _ I7' r7 (step x H7 y7)) fun _ s8 ⟨σ8, H8, I8, hw8, q8⟩ => ?_
      refine thnF (pt.run _ s8 σ8 H8 _ I8 q8) fun b s9 ⟨H9, I9, q9⟩ => ?_
      have fin : ∀ {s' : Shared} {H' : Hp}, Inv (X.blk s3 H3 scope ce fp) ([] ++ pinsAt fp s7.heap) σ8 H' s' → Nx H' → ∃ m, m < n ∧ ∃ i H', Inv (X.blk s3 H3 scope ce fp) [] (wipe σ (own.map (·.2))) H' s' ∧ tn i s'.heap ∧ (∀ b ∈ fp, H' b = none) ∧ Wt i m H' := fun {s' H'} I' nx => by
        obtain ⟨m', hm, w'⟩ := hNx H' nx
        have pin' : ∀ b ∈ fp, ∀ o, s7.heap.get? b = some o → s'.heap.get? b = some o ∧ H' b = none := fun b hb o e =>
          let z := I'.pin (b, o) (List.mem_append_right _ (List.mem_append_right _ (mem_pinsAt hb e)))
          ⟨z.1, z.2.1⟩
        have hl : (wipe σ (own.map (·.2))).length = σ8.length := by rw [← hw8, wipe_length]
        refine ⟨m', hm, i + 1, H', (I'.unpinned (pins := [])).weak hl (fun j v e => ?_), T.keep _ _ _ st7 fun b hb o e => (pin' b hb o e).1, fun b hb => ?_, w'⟩
        · rw [← hw8] at e
          exact (wipe_some e).1
        · obtain ⟨o, e, _⟩ := T.obj _ _ st7 b hb
          exact (pin' b hb o e).2
      cases b with
      | false =>
        simp only [Bool.false_eq_true, if_false] at q9 ⊢
        exact fin I9 q9
      | true =>
        simp only [if_true] at q9 ⊢
        refine wpAny_mono (pe.run _ s9 σ8 H9 _ (I9.wish _) q9) (fun z s10 ⟨yv, H10, I10, r10, acc, hD10, hz10, nx⟩ => ?_) fun e s' hx => hx
        exact app_ok (X := X.blk s3 H3 scope ce fp) (I10.wish _) hD10 hz10 r10 fun s11 I11 => fin I11 nx
  exact codeAny_compStart_list loop (T.self X.A 0 _ _ _ st4 loop)
end
end DL
set_option Elab.async false
set_option linter.all false
set_option maxRecDepth 100000
set_option maxHeartbeats 1000000
/-! DL10: list comprehensions that raise; stored in a name; of two clauses. -/
namespace DL
open PySem PySem.Spec PyProof.Rows L2
open Evl (Ex ex_l ex_t)

section
variable {X : Cx} {W : WX} {e a b c tg tg1 : Expr} {es : List Expr} {t ta tb tc : TED} {r : TAD} {pos : Pos}
def dLcX (ti : TID) (g : TGD) (tt : TTD) (te : TED) (vs : List Nat) : TED := fun E ρ w Q => ti E ρ w fun ds w1 => ∀ D, w1 D = none → ∃ Pv : Nat → Wd → Prop, Pv 0 (wupd w1 D (.lst [])) ∧
  (∀ i d w, ds[i]? = some d → Pv i w → g d (wipeD ρ vs) w fun ρ2 w2 => tt E0D ρ2 w2 fun b w3 => if b = true then te (fun x _ w' => E x ρ w') ρ2 w3 fun y w4 => ∃ acc, w4 D = some (.lst acc) ∧ acc.length < sizeLine ∧ Pv (i + 1) (wupd w4 D (.lst (acc ++ [y]))) else Pv (i + 1) w3) ∧
  ∀ w, Pv ds.length w → ∃ x' w', Frz (.ref D) w x' w' ∧ Q x' w'
theorem lc_refX {K : PySem.W.Frag} {ui : TI} {ug : TG} {ut : TT} {ue : L2.St → TE} {ti : TID} {g : TGD} {tt : TTD} {te : TED} {vs : List Nat} {ws : List Nat} (hsub : ∀ i ∈ ws, i ∈ vs)
    (ri : ∀ F0 E, WishOk K W F0 E → ∀ F ρ w σ H Qd R, At K F0 F ρ w σ H → ti E ρ w Qd → (∀ ds w' F' J H', Ex F F' → RelH K F' w' H' → ItD K F' ds J → Qd ds w' → R J H') → ui σ H R)
    (rg : ∀ F ρ w σ H d v Qd Q, RelH K F w H → RelR K F ρ σ → Den K F d v → g d ρ w Qd → EndR K F Qd Q → ug v σ H Q)
    (sg : ∀ vs', (∀ i ∈ ws, i ∈ vs') → ∀ v σ H (Q Q' : L2.St → Hp → Prop), ug v σ H Q → (∀ σ' H', wipe σ' vs' = wipe σ vs' → Q σ' H' → Q' σ' H') → ug v σ H Q')
    (rt : ∀ F0 E, WishOk K W0 F0 E → ∀ F ρ w σ H Qd Q, At K F0 F ρ w σ H → tt E ρ w Qd → EndB K F Qd Q → ut σ H Q)
    (re : ∀ σ0 F0 E, WishOk K (fun cls d _ H => W cls d σ0 H) F0 E → ∀ F ρ w σ H Qd Q, At K F0 F ρ w σ H → te E ρ w Qd → EndV K F Qd Q → ue σ0 σ H Q) :
    ∀ F0 E, WishOk K W F0 E → ∀ F ρ w σ H (Qd : VKD) (Q : VK), At K F0 F ρ w σ H → dLcX ti g tt te vs E ρ w Qd → EndV K F Qd Q → tLc ui ug ut (ue σ) vs σ H Q := fun F0 E hw F ρ w σ H Qd Q at_ hh k =>
  ri F0 E hw F ρ w σ H _ _ at_ hh fun ds w1 F1 J H1 e1 h1 it q1 => by
    intro D hD
    obtain ⟨Pv, h0, hs, hd⟩ := q1 D (h1.fresh hD).2
    have a1 := at_.step e1 h1
    have rw1 := relR_wipe a1.r vs
    have hwB : WishOk K (fun cls d _ H => W cls d σ H) F1 (fun x _ w' => E x ρ w') := fun x F' w' ρ' σ' H' cls o a dx q =>
      hw x F' w' ρ σ H' cls o ⟨a1.e0.trans a.e0, a.h, a1.r.mono a.e0⟩ dx q
    refine ⟨fun i m H => i + m = ds.length ∧ ∃ F' w, Ex F1 F' ∧ RelH K F' w H ∧ Pv i w,
      ⟨ds.length, by omega, F1, _, Evl.Ex.refl _, h1.newW (u := .lst []) hD ⟨[], upd_same, DenL.nil⟩, h0⟩, fun i m H2 ⟨hl, F2, w2, e2, h2, p2⟩ => ?_⟩
    by_cases hi : i < ds.length
    · right
      obtain ⟨d, hd'⟩ : ∃ d, ds[i]? = some d := ⟨ds[i], List.getElem?_eq_getElem hi⟩
      refine ⟨it.go i F2 w2 H2 hi e2 h2, _, fun _ z => z, fun x H3 hy => ?_⟩
      obtain ⟨F3, e3, h3, d3⟩ := it.yld i d F2 w2 H2 x H3 hd' e2 h2 hy
      have fin : ∀ {F' : Hp} {w' : Wd} {H' : Hp}, Ex F1 F' → RelH K F' w' H' → Pv (i + 1) w' → ∃ m', m' < m ∧ i + 1 + m' = ds.length ∧ ∃ F' w, Ex F1 F' ∧ RelH K F' w H' ∧ Pv (i + 1) w :=
        fun e' h' p' => ⟨m - 1, by omega, by omega, _, _, e', h', p'⟩
      refine sg vs hsub x _ H3 _ _ (rg F3 (wipeD ρ vs) w2 (wipe σ vs) H3 d x _ (fun σ4 H4 => ut σ4 H4 fun b H5 => if b = true then ue σ σ4 H5 fun y H6 => ∃ acc, H6 D = some (.lst acc) ∧ acc.length < sizeLine ∧ (∃ m', m' < m ∧ i + 1 + m' = ds.length ∧ ∃ F' w, Ex F1 F' ∧ RelH K F' w (upd H6 D (.lst (acc ++ [y]))) ∧ Pv (i + 1) w) else (∃ m', m' < m ∧ i + 1 + m' = ds.length ∧ ∃ F' w, Ex F1 F' ∧ RelH K F' w H5 ∧ Pv (i + 1) w)) h3 (rw1.mono (e2.trans e3)) d3 (hs i d w2 hd' p2) fun ρ4 w4 F4 σ4 H4 e4 h4 r4 q4 => ?_) fun σ' H' ew q => ⟨ew.trans (wipe_idem vs σ), q⟩
      have a4 : At K F4 F4 ρ4 w4 σ4 H4 := ⟨Evl.Ex.refl _, h4, r4⟩
      refine rt F4 E0D wishOk0 F4 ρ4 w4 σ4 H4 _ _ a4 q4 fun b w5 F5 H5 e5 h5 q5 => ?_
      by_cases hb : b = true
      · rw [if_pos hb] at q5 ⊢
        refine re σ F1 _ hwB F5 ρ4 w5 σ4 H5 _ _ ⟨((e2.trans e3).trans e4).trans e5, h5, r4.mono e5⟩ q5 fun y w6 F6 v6 H6 e6 h6 d6 q6 => ?_
        obtain ⟨acc, hacc, hz, p6⟩ := q6
        obtain ⟨g0, us, g1, g2⟩ := h6.obj D _ hacc
        exact ⟨us, g1, by rw [← g2.len]; exact hz, fin ((((e2.trans e3).trans e4).trans e5).trans e6) (h6.write (u := .lst (acc ++ [y])) g0 ⟨_, upd_same, g2.append (DenL.cons d6 DenL.nil)⟩) p6⟩
      · rw [if_neg hb] at q5 ⊢
        exact fin (((e2.trans e3).trans e4).trans e5) h5 q5
    · left
      have e : i = ds.length := by omega
      subst e
      obtain ⟨x', w', fz, q⟩ := hd w2 p2
      obtain ⟨F3, e3, h3, d3⟩ := fz K F2 H2 (.ref D) h2 den_ref
      exact ⟨it.stop F2 w2 H2 e2 h2, k x' w' F3 _ H2 ((e1.trans e2).trans e3) h3 d3 q⟩
theorem canG_sub {K : PySem.W.Frag} {vs : List Nat} {g : TGD} : ∀ vs', (∀ i ∈ vs, i ∈ vs') → ∀ v σ H (Q Q' : L2.St → Hp → Prop), canG K vs g v σ H Q → (∀ σ' H', wipe σ' vs' = wipe σ vs' → Q σ' H' → Q' σ' H') → canG K vs g v σ H Q' :=
  fun vs' hv v σ H Q Q' ⟨F, ρ, w, d, Qd, rh, rr, dn, q, k⟩ kk => ⟨F, ρ, w, d, Qd, rh, rr, dn, q, fun ρ' w' F' σ' H' e' h' r' q' ew => kk σ' H' (by
    have key : ∀ (us vs : List Nat), (∀ i ∈ us, i ∈ vs) → ∀ σ : L2.St, wipe (wipe σ us) vs = wipe σ vs := by
      intro us
      induction us with
      | nil => intro vs _ σ; rfl
      | cons j us ih =>
        intro vs hv σ
        show wipe ((wipe σ us).set j none) vs = wipe σ vs
        rw [wipe_set (hv j List.mem_cons_self), ih vs (fun i hi => hv i (List.mem_cons_of_mem _ hi))]
    rw [← key _ _ hv σ', ew, key _ _ hv σ]) (k ρ' w' F' σ' H' e' h' r' q' ew)⟩
theorem canG_ref {K : PySem.W.Frag} {vs : List Nat} {g : TGD} : ∀ F ρ w σ H d v Qd Q, RelH K F w H → RelR K F ρ σ → Den K F d v → g d ρ w Qd → EndR K F Qd Q → canG K vs g v σ H Q :=
  fun F ρ w σ H d v Qd Q rh rr dn q k => ⟨F, ρ, w, d, Qd, rh, rr, dn, q, fun ρ' w' F' σ' H' e' h' r' q' _ => k ρ' w' F' σ' H' e' h' r' q'⟩
theorem canT_ref {K : PySem.W.Frag} {W : WX} {tt : TTD} : ∀ F0 E, WishOk K W F0 E → ∀ F ρ w σ H Qd Q, At K F0 F ρ w σ H → tt E ρ w Qd → EndB K F Qd Q → canT K W tt σ H Q :=
  fun F0 E hw F ρ w σ H Qd Q a q k => ⟨F0, E, F, ρ, w, Qd, hw, a, q, k⟩
theorem canE_ref {K : PySem.W.Frag} {W : WX} {te : TED} : ∀ F0 E, WishOk K W F0 E → ∀ F ρ w σ H Qd Q, At K F0 F ρ w σ H → te E ρ w Qd → EndV K F Qd Q → canE K W te σ H Q :=
  fun F0 E hw F ρ w σ H Qd Q a q k => ⟨F0, E, F, ρ, w, Qd, hw, a, q, k⟩
def canI (K : PySem.W.Frag) (W : WX) (t : TID) : TI := fun σ H R => ∃ F0 E F ρ w Qd, WishOk K W F0 E ∧ At K F0 F ρ w σ H ∧ t E ρ w Qd ∧ (∀ ds w' F' J H', Ex F F' → RelH K F' w' H' → ItD K F' ds J → Qd ds w' → R J H')
theorem canI_ref {K : PySem.W.Frag} {W : WX} {ti : TID} : ∀ F0 E, WishOk K W F0 E → ∀ F ρ w σ H Qd R, At K F0 F ρ w σ H → ti E ρ w Qd → (∀ ds w' F' J H', Ex F F' → RelH K F' w' H' → ItD K F' ds J → Qd ds w' → R J H') → canI K W ti σ H R :=
  fun F0 E hw F ρ w σ H Qd Q a q k => ⟨F0, E, F, ρ, w, Qd, hw, a, q, k⟩
theorem DI.can {iter : Expr} {ti : TID} (h : DI X W tg iter ti) : PI X tg iter (canI X.K W ti) := by
  obtain ⟨u, p, r⟩ := h.ex
  exact ⟨fun pins s σ H Q I ⟨F0, E, F, ρ, w, Qd, hw, a, q, k⟩ => p.run pins s σ H Q I (r F0 E hw F ρ w σ H Qd Q a q k)⟩
theorem de_lcX {elt iter : Expr} {ifs : List Expr} {scope : Scope} {own : List (Str × Nat)} {ws : List Nat} {ti : TID} {g : TGD} {tt : TTD} {te : TED} (hc : X.calm = true) (hN : X.N.Nodup) (hst : X.stack = X.env :: X.outer) (hf : X.env.frame = some X.env.locals) (tk : Takes X W) (hi : DI X W tg iter ti) (ok : BlkOk X.N X.env.scope scope own) (hsub : ∀ i ∈ ws, i ∈ own.map (·.2))
    (hg : ∀ (s : Shared) (H : Hp) (C : Addr) (cl : List (Str × Addr)) (fp : List Addr), DG (X.blk s H scope (compEnvC scope cl C X.env) fp) ws tg g) (ht : ∀ (s : Shared) (H : Hp) (C : Addr) (cl : List (Str × Addr)) (fp : List Addr), DTs (X.blk s H scope (compEnvC scope cl C X.env) fp) W0 ifs tt)
    (he : ∀ (s : Shared) (H : Hp) (C : Addr) (cl : List (Str × Addr)) (fp : List Addr) (WB : WX), TkC ((X.blk s H scope (compEnvC scope cl C X.env) fp).wish (blkE X (compEnvC scope cl C X.env))) WB → DE ((X.blk s H scope (compEnvC scope cl C X.env) fp).wish (blkE X (compEnvC scope cl C X.env))) WB elt te) (hs : ∀ x, foldedSetIterable iter X.env x = pure x := by intro _; rfl) :
    DE X W (.ListComp elt [⟨tg, iter, ifs, 0⟩] scope pos) (dLcX ti g tt te (own.map (·.2))) := by
  obtain ⟨ui, pi, ri⟩ := hi.ex
  refine ⟨fun σ H Q => tLc ui (canG X.K (own.map (·.2)) g) (canT X.K W0 tt) (canE X.K (fun cls d _ H => W cls d σ H) te) (own.map (·.2)) σ H Q, ⟨fun pins s σ H Q I h => ?_⟩, ?_⟩
  · rw [eval_ListComp]
    refine lc_coreX (WB := fun cls d _ H => W cls d σ H) hc hN hst hf tk (fun cls d σ8 H' z => z) I pi ok (fun s H C cl fp => (hg s H C cl fp).can hsub) (fun s H C cl fp => (ht s H C cl fp).can) (fun s H C cl fp tkB => (he s H C cl fp _ tkB).can) hs h fun D ce s' m H' I' q hn f => ⟨m, hn, fun h'' sb => ?_⟩
    obtain ⟨f0, f1, f2, f3, f4, f5⟩ := f
    exact ⟨.ref D, H', I'.turned (t' := s'.toks) (fun b o hb e => (sb.2 b hb).trans e) f0 f1 f3 f4 f5, rfl, q⟩
  · intro F0 E hw F ρ w σ H Qd Q at_ hh k
    exact lc_refX (W := W) (ue := fun σ0 => canE X.K (fun cls d _ H => W cls d σ0 H) te) (ws := own.map (·.2)) (fun i hi => hi) ri canG_ref canG_sub canT_ref (fun σ0 => canE_ref) F0 E hw F ρ w σ H Qd Q at_ hh k
/-- y = [..] -/
theorem ds_setLc {i : Nat} {y : Str} {py spos : Pos} {elt iter : Expr} {ifs : List Expr} {scope : Scope} {own : List (Str × Nat)} {ws : List Nat} {ti : TID} {g : TGD} {tt : TTD} {te : TED} (hc : X.calm = true) (hN : X.N.Nodup) (hi : DI X W tg iter ti) (ok : BlkOk X.N X.env.scope scope own) (hsub : ∀ i ∈ ws, i ∈ own.map (·.2))
    (hg : ∀ (s : Shared) (H : Hp) (C : Addr) (cl : List (Str × Addr)) (fp : List Addr), DG (X.blk s H scope (compEnvC scope cl C X.env) fp) ws tg g) (ht : ∀ (s : Shared) (H : Hp) (C : Addr) (cl : List (Str × Addr)) (fp : List Addr), DTs (X.blk s H scope (compEnvC scope cl C X.env) fp) W0 ifs tt)
    (he : ∀ (s : Shared) (H : Hp) (C : Addr) (cl : List (Str × Addr)) (fp : List Addr), DE (X.blk s H scope (compEnvC scope cl C X.env) fp) W0 elt te) (hy : X.N[i]? = some y := by rfl) (hyl : X.env.scope.names.lookup y = some .local := by rfl)
    (hsw : swapsWith (.ListComp elt [⟨tg, iter, ifs, 0⟩] scope pos) (some (.Name y py)) spos.line X.env = pure true := by rfl) (hs : ∀ x, foldedSetIterable iter X.env x = pure x := by intro _; rfl) :
    DS X W (.Assign [.Name y py] (.ListComp elt [⟨tg, iter, ifs, 0⟩] scope pos) spos) (dSet i (dLc ti g tt te (own.map (·.2)))) := by
  obtain ⟨ui, pi, ri⟩ := hi.ex
  refine ⟨_, ps_setLc (g := canG X.K (own.map (·.2)) g) (tt := canT X.K W0 tt) (te := canE X.K W0 te) hc hN hy hyl hsw pi ok (fun s H C cl fp => (hg s H C cl fp).can hsub) (fun s H C cl fp => (ht s H C cl fp).can) (fun s H C cl fp => (he s H C cl fp).can) hs, fun F0 E hw F ρ w σ H De Dh at_ hh k => ?_⟩
  have hh' : dLc ti g tt te (own.map (·.2)) E ρ w (fun x w1 => De.nx (ρ.set i (some x)) w1) := hh
  exact lc_ref (ws := own.map (·.2)) (fun i hi => hi) ri canG_ref canG_sub canT_ref canE_ref F0 E hw F ρ w σ H _ _ at_ hh' fun x w1 F1 v H1 e1 h1 d1 q1 => k.nx _ w1 F1 _ H1 e1 h1 ((at_.r.mono e1).set d1) q1

/-! ### two clauses -/
def dLc2 (ti : TID) (g : TGD) (tt : TTD) (ti1 : TID) (g1 : TGD) (tt1 : TTD) (te : TED) (vs vs1 : List Nat) : TED := fun E ρ w Q => ti E ρ w fun ds w1 => ∀ D, w1 D = none → ∃ Pv : Nat → Wd → Prop, Pv 0 (wupd w1 D (.lst [])) ∧
  (∀ i d w, ds[i]? = some d → Pv i w → g d (wipeD ρ vs) w fun ρ2 w2 => tt E0D ρ2 w2 fun b w3 => if b = true then ti1 E0D ρ2 w3 fun ds1 w4 => ∃ Pw : Nat → Wd → Prop, Pw 0 w4 ∧
    (∀ j d1 w, ds1[j]? = some d1 → Pw j w → g1 d1 (wipeD ρ2 vs1) w fun ρ3 w5 => tt1 E0D ρ3 w5 fun b w6 => if b = true then te E0D ρ3 w6 fun y w7 => ∃ acc, w7 D = some (.lst acc) ∧ acc.length < sizeLine ∧ Pw (j + 1) (wupd w7 D (.lst (acc ++ [y]))) else Pw (j + 1) w6) ∧
    ∀ w, Pw ds1.length w → Pv (i + 1) w else Pv (i + 1) w3) ∧
  ∀ w, Pv ds.length w → ∃ x' w', Frz (.ref D) w x' w' ∧ Q x' w'
theorem lc2_ref {K : PySem.W.Frag} {ui ui1 : TI} {ug ug1 : TG} {ut ut1 : TT} {ue : TE} {ti ti1 : TID} {g g1 : TGD} {tt tt1 : TTD} {te : TED} {vs vs1 ws ws1 : List Nat} (hsub : ∀ i ∈ ws, i ∈ vs) (hsub1 : ∀ i ∈ ws1, i ∈ vs1)
    (ri : ∀ F0 E, WishOk K W F0 E → ∀ F ρ w σ H Qd R, At K F0 F ρ w σ H → ti E ρ w Qd → (∀ ds w' F' J H', Ex F F' → RelH K F' w' H' → ItD K F' ds J → Qd ds w' → R J H') → ui σ H R)
    (rg : ∀ F ρ w σ H d v Qd Q, RelH K F w H → RelR K F ρ σ → Den K F d v → g d ρ w Qd → EndR K F Qd Q → ug v σ H Q)
    (sg : ∀ vs', (∀ i ∈ ws, i ∈ vs') → ∀ v σ H (Q Q' : L2.St → Hp → Prop), ug v σ H Q → (∀ σ' H', wipe σ' vs' = wipe σ vs' → Q σ' H' → Q' σ' H') → ug v σ H Q')
    (rt : ∀ F0 E, WishOk K W0 F0 E → ∀ F ρ w σ H Qd Q, At K F0 F ρ w σ H → tt E ρ w Qd → EndB K F Qd Q → ut σ H Q)
    (ri1 : ∀ F0 E, WishOk K W0 F0 E → ∀ F ρ w σ H Qd R, At K F0 F ρ w σ H → ti1 E ρ w Qd → (∀ ds w' F' J H', Ex F F' → RelH K F' w' H' → ItD K F' ds J → Qd ds w' → R J H') → ui1 σ H R)
    (rg1 : ∀ F ρ w σ H d v Qd Q, RelH K F w H → RelR K F ρ σ → Den K F d v → g1 d ρ w Qd → EndR K F Qd Q → ug1 v σ H Q)
    (sg1 : ∀ vs', (∀ i ∈ ws1, i ∈ vs') → ∀ v σ H (Q Q' : L2.St → Hp → Prop), ug1 v σ H Q → (∀ σ' H', wipe σ' vs' = wipe σ vs' → Q σ' H' → Q' σ' H') → ug1 v σ H Q')
    (rt1 : ∀ F0 E, WishOk K W0 F0 E → ∀ F ρ w σ H Qd Q, At K F0 F ρ w σ H → tt1 E ρ w Qd → EndB K F Qd Q → ut1 σ H Q)
    (re : ∀ F0 E, WishOk K W0 F0 E → ∀ F ρ w σ H Qd Q, At K F0 F ρ w σ H → te E ρ w Qd → EndV K F Qd Q → ue σ H Q) :
    ∀ F0 E, WishOk K W F0 E → ∀ F ρ w σ H Qd Q, At K F0 F ρ w σ H → dLc2 ti g tt ti1 g1 tt1 te vs vs1 E ρ w Qd → EndV K F Qd Q → tLc2 ui ug ut ui1 ug1 ut1 ue vs vs1 σ H Q := fun F0 E hw F ρ w σ H Qd Q at_ hh k =>
  ri F0 E hw F ρ w σ H _ _ at_ hh fun ds w1 F1 J H1 e1 h1 it q1 => by
    intro D hD
    obtain ⟨Pv, h0, hs, hd⟩ := q1 D (h1.fresh hD).2
    have a1 := at_.step e1 h1
    have rw1 := relR_wipe a1.r vs
    refine ⟨fun i m H => i + m = ds.length ∧ ∃ F' w, Ex F1 F' ∧ RelH K F' w H ∧ Pv i w,
      ⟨ds.length, by omega, F1, _, Evl.Ex.refl _, h1.newW (u := .lst []) hD ⟨[], upd_same, DenL.nil⟩, h0⟩, fun i m H2 ⟨hl, F2, w2, e2, h2, p2⟩ => ?_⟩
    by_cases hi : i < ds.length
    · right
      obtain ⟨d, hd'⟩ : ∃ d, ds[i]? = some d := ⟨ds[i], List.getElem?_eq_getElem hi⟩
      refine ⟨it.go i F2 w2 H2 hi e2 h2, fun H' => ∃ F' w', Ex F1 F' ∧ RelH K F' w' H' ∧ Pv (i + 1) w', fun H' ⟨F', w', e', h', p'⟩ => ⟨m - 1, by omega, by omega, F', w', e', h', p'⟩, fun x H3 hy => ?_⟩
      obtain ⟨F3, e3, h3, d3⟩ := it.yld i d F2 w2 H2 x H3 hd' e2 h2 hy
      refine sg vs hsub x _ H3 _ _ (rg F3 (wipeD ρ vs) w2 (wipe σ vs) H3 d x _ (fun σ4 H4 => ut σ4 H4 fun b H5 => if b = true then ui1 σ4 H5 fun J1 H4 => ∃ W1 : Nat → Nat → Hp → Prop, (∃ m, W1 0 m H4) ∧ ∀ j k H, W1 j k H →
        (J1.stop j H ∧ (∃ F' w', Ex F1 F' ∧ RelH K F' w' H ∧ Pv (i + 1) w')) ∨ (J1.go j H ∧ ∃ Nx1 : Hp → Prop, (∀ H', Nx1 H' → ∃ k', k' < k ∧ W1 (j + 1) k' H') ∧ ∀ x H', J1.yld j H x H' → ug1 x (wipe σ4 vs1) H' fun σ3 H5 => wipe σ3 vs1 = wipe σ4 vs1 ∧ ut1 σ3 H5 fun b H6 =>
          if b = true then ue σ3 H6 fun y H7 => ∃ acc, H7 D = some (.lst acc) ∧ acc.length < sizeLine ∧ Nx1 (upd H7 D (.lst (acc ++ [y]))) else Nx1 H6) else (∃ F' w', Ex F1 F' ∧ RelH K F' w' H5 ∧ Pv (i + 1) w')) h3 (rw1.mono (e2.trans e3)) d3 (hs i d w2 hd' p2) fun ρ4 w4 F4 σ4 H4 e4 h4 r4 q4 => ?_) fun σ' H' ew q => ⟨ew.trans (wipe_idem vs σ), q⟩
      have a4 : At K F4 F4 ρ4 w4 σ4 H4 := ⟨Evl.Ex.refl _, h4, r4⟩
      refine rt F4 E0D wishOk0 F4 ρ4 w4 σ4 H4 _ _ a4 q4 fun b w5 F5 H5 e5 h5 q5 => ?_
      have e15 := ((e2.trans e3).trans e4).trans e5
      by_cases hb : b = true
      · rw [if_pos hb] at q5 ⊢
        refine ri1 F4 E0D wishOk0 F5 ρ4 w5 σ4 H5 _ _ (a4.step e5 h5) q5 fun ds1 w6 F6 J1 H6 e6 h6 it1 q6 => ?_
        obtain ⟨Pw, p0, ps, pe⟩ := q6
        have rw4 := relR_wipe (r4.mono (e5.trans e6)) vs1
        refine ⟨fun j m H => j + m = ds1.length ∧ ∃ F' w, Ex F6 F' ∧ RelH K F' w H ∧ Pw j w, ⟨ds1.length, by omega, F6, w6, Evl.Ex.refl _, h6, p0⟩, fun j m1 H7 ⟨hl1, F7, w7, e7, h7, p7⟩ => ?_⟩
        by_cases hj : j < ds1.length
        · right
          obtain ⟨d1, hd1⟩ : ∃ d, ds1[j]? = some d := ⟨ds1[j], List.getElem?_eq_getElem hj⟩
          refine ⟨it1.go j F7 w7 H7 hj e7 h7, _, fun _ z => z, fun x H8 hy1 => ?_⟩
          obtain ⟨F8, e8, h8, d8⟩ := it1.yld j d1 F7 w7 H7 x H8 hd1 e7 h7 hy1
          have fin : ∀ {F' : Hp} {w' : Wd} {H' : Hp}, Ex F6 F' → RelH K F' w' H' → Pw (j + 1) w' → ∃ m', m' < m1 ∧ j + 1 + m' = ds1.length ∧ ∃ F' w, Ex F6 F' ∧ RelH K F' w H' ∧ Pw (j + 1) w :=
            fun e' h' p' => ⟨m1 - 1, by omega, by omega, _, _, e', h', p'⟩
          refine sg1 vs1 hsub1 x _ H8 _ _ (rg1 F8 (wipeD ρ4 vs1) w7 (wipe σ4 vs1) H8 d1 x _ (fun σ4 H4 => ut1 σ4 H4 fun b H5 => if b = true then ue σ4 H5 fun y H6 => ∃ acc, H6 D = some (.lst acc) ∧ acc.length < sizeLine ∧ (∃ m', m' < m1 ∧ j + 1 + m' = ds1.length ∧ ∃ F' w, Ex F6 F' ∧ RelH K F' w (upd H6 D (.lst (acc ++ [y]))) ∧ Pw (j + 1) w) else (∃ m', m' < m1 ∧ j + 1 + m' = ds1.length ∧ ∃ F' w, Ex F6 F' ∧ RelH K F' w H5 ∧ Pw (j + 1) w)) h8 (rw4.mono (e7.trans e8)) d8 (ps j d1 w7 hd1 p7) fun ρ9 w9 F9 σ9 H9 e9 h9 r9 q9 => ?_) fun σ' H' ew q => ⟨ew.trans (wipe_idem vs1 σ4), q⟩
          have a9 : At K F9 F9 ρ9 w9 σ9 H9 := ⟨Evl.Ex.refl _, h9, r9⟩
          refine rt1 F9 E0D wishOk0 F9 ρ9 w9 σ9 H9 _ _ a9 q9 fun b w10 F10 H10 e10 h10 q10 => ?_
          by_cases hb1 : b = true
          · rw [if_pos hb1] at q10 ⊢
            refine re F9 E0D wishOk0 F10 ρ9 w10 σ9 H10 _ _ (a9.step e10 h10) q10 fun y w11 F11 v11 H11 e11 h11 d11 q11 => ?_
            obtain ⟨acc, hacc, hz, p11⟩ := q11
            obtain ⟨g0, us, g1', g2⟩ := h11.obj D _ hacc
            exact ⟨us, g1', by rw [← g2.len]; exact hz, fin ((((e7.trans e8).trans e9).trans e10).trans e11) (h11.write (u := .lst (acc ++ [y])) g0 ⟨_, upd_same, g2.append (DenL.cons d11 DenL.nil)⟩) p11⟩
          · rw [if_neg hb1] at q10 ⊢
            exact fin (((e7.trans e8).trans e9).trans e10) h10 q10
        · left
          have e : j = ds1.length := by omega
          subst e
          exact ⟨it1.stop F7 w7 H7 e7 h7, F7, w7, (e15.trans e6).trans e7, h7, pe w7 p7⟩
      · rw [if_neg hb] at q5 ⊢
        exact ⟨F5, w5, e15, h5, q5⟩
    · left
      have e : i = ds.length := by omega
      subst e
      obtain ⟨x', w', fz, q⟩ := hd w2 p2
      obtain ⟨F3, e3, h3, d3⟩ := fz K F2 H2 (.ref D) h2 den_ref
      exact ⟨it.stop F2 w2 H2 e2 h2, k x' w' F3 _ H2 ((e1.trans e2).trans e3) h3 d3 q⟩
theorem de_lc2 {elt iter iter1 : Expr} {ifs ifs1 : List Expr} {scope : Scope} {own : List (Str × Nat)} {ws ws1 vs1 : List Nat} {ti ti1 : TID} {g g1 : TGD} {tt tt1 : TTD} {te : TED} (hc : X.calm = true) (hN : X.N.Nodup) (hi : DI X W tg iter ti) (ok : BlkOk X.N X.env.scope scope own) (hv : ∀ i ∈ vs1, i ∈ own.map (·.2)) (hsub : ∀ i ∈ ws, i ∈ own.map (·.2)) (hsub1 : ∀ i ∈ ws1, i ∈ vs1)
    (hg : ∀ (s : Shared) (H : Hp) (C : Addr) (cl : List (Str × Addr)) (fp : List Addr), DG (X.blk s H scope (compEnvC scope cl C X.env) fp) ws tg g) (ht : ∀ (s : Shared) (H : Hp) (C : Addr) (cl : List (Str × Addr)) (fp : List Addr), DTs (X.blk s H scope (compEnvC scope cl C X.env) fp) W0 ifs tt)
    (hi1 : ∀ (s : Shared) (H : Hp) (C : Addr) (cl : List (Str × Addr)) (fp : List Addr), DI (X.blk s H scope (compEnvC scope cl C X.env) fp) W0 tg1 iter1 ti1)
    (hg1 : ∀ (s : Shared) (H : Hp) (C : Addr) (cl : List (Str × Addr)) (fp : List Addr), DG (X.blk s H scope (compEnvC scope cl C X.env) fp) ws1 tg1 g1) (ht1 : ∀ (s : Shared) (H : Hp) (C : Addr) (cl : List (Str × Addr)) (fp : List Addr), DTs (X.blk s H scope (compEnvC scope cl C X.env) fp) W0 ifs1 tt1)
    (he : ∀ (s : Shared) (H : Hp) (C : Addr) (cl : List (Str × Addr)) (fp : List Addr), DE (X.blk s H scope (compEnvC scope cl C X.env) fp) W0 elt te) (hs : ∀ x, foldedSetIterable iter X.env x = pure x := by intro _; rfl) (hs1 : ∀ env x, foldedSetIterable iter1 env x = pure x := by intro _ _; rfl) :
    DE X W (.ListComp elt [⟨tg, iter, ifs, 0⟩, ⟨tg1, iter1, ifs1, 0⟩] scope pos) (dLc2 ti g tt ti1 g1 tt1 te (own.map (·.2)) vs1) := by
  obtain ⟨ui, pi, ri⟩ := hi.ex
  exact ⟨_, pe_lc2 (g := canG X.K (own.map (·.2)) g) (tt := canT X.K W0 tt) (te := canE X.K W0 te) (wi1 := canI X.K W0 ti1) (g1 := canG X.K vs1 g1) (tt1 := canT X.K W0 tt1) hc hN pi ok hv (fun s H C cl fp => (hg s H C cl fp).can hsub) (fun s H C cl fp => (ht s H C cl fp).can) (fun s H C cl fp => (hi1 s H C cl fp).can) (fun s H C cl fp => (hg1 s H C cl fp).can hsub1) (fun s H C cl fp => (ht1 s H C cl fp).can) (fun s H C cl fp => (he s H C cl fp).can) hs hs1,
    lc2_ref (ws := own.map (·.2)) (ws1 := vs1) (fun i hi => hi) (fun i hi => hi) ri canG_ref canG_sub canT_ref canI_ref canG_ref canG_sub canT_ref canE_ref⟩
theorem ds_setLc2 {i : Nat} {y : Str} {py spos : Pos} {elt iter iter1 : Expr} {ifs ifs1 : List Expr} {scope : Scope} {own : List (Str × Nat)} {ws ws1 vs1 : List Nat} {ti ti1 : TID} {g g1 : TGD} {tt tt1 : TTD} {te : TED} (hc : X.calm = true) (hN : X.N.Nodup) (hi : DI X W tg iter ti) (ok : BlkOk X.N X.env.scope scope own) (hv : ∀ i ∈ vs1, i ∈ own.map (·.2)) (hsub : ∀ i ∈ ws, i ∈ own.map (·.2)) (hsub1 : ∀ i ∈ ws1, i ∈ vs1)
    (hg : ∀ (s : Shared) (H : Hp) (C : Addr) (cl : List (Str × Addr)) (fp : List Addr), DG (X.blk s H scope (compEnvC scope cl C X.env) fp) ws tg g) (ht : ∀ (s : Shared) (H : Hp) (C : Addr) (cl : List (Str × Addr)) (fp : List Addr), DTs (X.blk s H scope (compEnvC scope cl C X.env) fp) W0 ifs tt)
    (hi1 : ∀ (s : Shared) (H : Hp) (C : Addr) (cl : List (Str × Addr)) (fp : List Addr), DI (X.blk s H scope (compEnvC scope cl C X.env) fp) W0 tg1 iter1 ti1)
    (hg1 : ∀ (s : Shared) (H : Hp) (C : Addr) (cl : List (Str × Addr)) (fp : List Addr), DG (X.blk s H scope (compEnvC scope cl C X.env) fp) ws1 tg1 g1) (ht1 : ∀ (s : Shared) (H : Hp) (C : Addr) (cl : List (Str × Addr)) (fp : List Addr), DTs (X.blk s H scope (compEnvC scope cl C X.env) fp) W0 ifs1 tt1)
    (he : ∀ (s : Shared) (H : Hp) (C : Addr) (cl : List (Str × Addr)) (fp : List Addr), DE (X.blk s H scope (compEnvC scope cl C X.env) fp) W0 elt te) (hy : X.N[i]? = some y := by rfl) (hyl : X.env.scope.names.lookup y = some .local := by rfl)
    (hsw : swapsWith (.ListComp elt [⟨tg, iter, ifs, 0⟩, ⟨tg1, iter1, ifs1, 0⟩] scope pos) (some (.Name y py)) spos.line X.env = pure true := by rfl) (hs : ∀ x, foldedSetIterable iter X.env x = pure x := by intro _; rfl) (hs1 : ∀ env x, foldedSetIterable iter1 env x = pure x := by intro _ _; rfl) :
    DS X W (.Assign [.Name y py] (.ListComp elt [⟨tg, iter, ifs, 0⟩, ⟨tg1, iter1, ifs1, 0⟩] scope pos) spos) (dSet i (dLc2 ti g tt ti1 g1 tt1 te (own.map (·.2)) vs1)) := by
  obtain ⟨ui, pi, ri⟩ := hi.ex
  refine ⟨_, ps_setLc2 (g := canG X.K (own.map (·.2)) g) (tt := canT X.K W0 tt) (te := canE X.K W0 te) (wi1 := canI X.K W0 ti1) (g1 := canG X.K vs1 g1) (tt1 := canT X.K W0 tt1) hc hN hy hyl hsw pi ok hv (fun s H C cl fp => (hg s H C cl fp).can hsub) (fun s H C cl fp => (ht s H C cl fp).can) (fun s H C cl fp => (hi1 s H C cl fp).can) (fun s H C cl fp => (hg1 s H C cl fp).can hsub1) (fun s H C cl fp => (ht1 s H C cl fp).can) (fun s H C cl fp => (he s H C cl fp).can) hs hs1, fun F0 E hw F ρ w σ H De Dh at_ hh k => ?_⟩
  have hh' : dLc2 ti g tt ti1 g1 tt1 te (own.map (·.2)) vs1 E ρ w (fun x w1 => De.nx (ρ.set i (some x)) w1) := hh
  exact lc2_ref (ws := own.map (·.2)) (ws1 := vs1) (fun i hi => hi) (fun i hi => hi) ri canG_ref canG_sub canT_ref canI_ref canG_ref canG_sub canT_ref canE_ref F0 E hw F ρ w σ H _ _ at_ hh' fun x w1 F1 v H1 e1 h1 d1 q1 => k.nx _ w1 F1 _ H1 e1 h1 ((at_.r.mono e1).set d1) q1
end
end DL
set_option Elab.async false
set_option linter.all false
set_option maxRecDepth 100000
set_option maxHeartbeats 2000000
/-! DL11: own exceptions whose __init__ says super().__init__('m') and stores its parameters; raise. -/
namespace DLX
open PySem PySem.W PySem.Calls PyProof.Rows PySem.HandSPX
/-- self.f = f, for each f -/
inductive Stores : List Str → List Stmt → Prop
  | nil : Stores [] []
  | cons {f : Str} {fs : List Str} {r : List Stmt} {q1 q2 q3 q4 : Pos} (h : Stores fs r) : Stores (f :: fs) (.Assign [.Attribute (.Name "self" q1) f q2] (.Name f q3) q4 :: r)
structure InitTxt (flds : List Str) (params : Arguments) (body : List Stmt) (scope : Scope) : Prop where
  bod : ∃ (p0 p1 p2 p3 p4 p5 : Pos) (msg : Str) (j : Nat) (rest : List Stmt), body = .Expr (.Call (.Attribute (.Call (.Name "super" p0) [] [] p1) "__init__" p2) [.Constant (.str msg) j p3] [] p4) p5 :: rest ∧ Stores flds rest ∧ (p2.endLine == p4.line) = true
  sup : scope.names.lookup ("super" : Str) = some .globalImplicit
  cls : scope.names.lookup ("__class__" : Str) = some .free
  slf : scope.names.lookup ("self" : Str) = some .local
  fl : ∀ f ∈ flds, scope.names.lookup f = some .local ∧ (f == ("__debug__" : Str)) = false
  cel : ∀ x ∈ scope.names, x.2 ≠ .cell
  co : scope.isCoroutine = false
  gen : scope.isGenerator = false
  kind : scope.kind = .function
  ar : ∃ ar : Arg, (params.posonlyargs ++ params.args).head? = some ar ∧ ar.arg = ("self" : Str)
  ne : flds ≠ []
  nd : flds.Nodup
  nself : ("self" : Str) ∉ flds
  len : flds.length ≤ 20
  bnd : ∀ (s : Shared) (fd : FuncData) (u : Value) (us : List Value), fd.params = params → fd.defaults = .none → fd.kwdefaults = .none → us.length = flds.length → BindsTo s fd ⟨u :: us, []⟩ (("self", u) :: flds.zip us)
/-- what the written part says of the class at C and of its __init__ at fI -/
structure ErrTxt (P : Program) (K : Frag) (mg : Str → Option Value) (C fI : Addr) (B newId initId : String) (bmB : List Value) (flds : List Str) : Prop where
  FB : ExcBaseFacts B newId initId bmB
  SF : StoreFacts B bmB "object.__setattr__" "object"
  KF : KxsFacts B initId
  qI : excInitIn K C bmB newId = true
  ov : excOver K C bmB = true
  hdC : hasDictIn K C = true
  sa : findIn K (.ref C) "__setattr__" = some (some (.builtin "object.__setattr__"))
  nf : ∀ f ∈ flds, findIn K (.ref C) f = some none
  iC : findIn K (.ref C) "__init__" = some (some (.ref fI))
  tC : typeIn K (.ref fI) = some (.type "function")
  kC : keepIn K (.ref C) = true
  exC : subIn K (.ref C) (.type "BaseException") = some true
  tyC : typeIn K (.ref C) = some (.type "type")
  hm : ks_superIn K C C "__init__" = some (some (.builtin initId))
  ho : nsIn K cStatics "thirdparty.any" = some none
  hB : subIn K (.ref C) (.type B) = some true
  hCC : mroIn K C (.ref C) = some true
  gS : mg "super" = none
  top : (P.main.scope.names.lookup ("super" : Str)).isSome = false
  fn : ∃ (oc : Value) (od : Option Addr) (doc pm : Value) (an : Option Addr) (cda cc : Addr) (ct : Value) (osl : Array (Option Value)) (nm qual : Str) (params : Arguments) (body : List Stmt) (scope : Scope) (vs : Array Value) (file : Str) (tf : Tok) (ccl cl : Value) (cdd cld : Option Addr) (ccs csl : Array (Option Value)),
    K.lookup fI = some ⟨oc, od, .func (ksFn nm qual params body scope .none .none doc pm an (.ref cda) ct cc), osl⟩ ∧ codeIn K (.ref cda) qual = true ∧ InitTxt flds params body scope ∧
    K.lookup cda = some ⟨ccl, cdd, .fields vs, ccs⟩ ∧ vs[2]? = some (.str file tf) ∧ ((P.main.file : Str) == file) = true ∧ K.lookup cc = some ⟨cl, cld, .cell (some (.ref C)), csl⟩
section
variable {prog : Program} {w : World} {A : Around} {E : Value → Shared → Prop} {R : Result → Shared → Prop} {K : Frag} {mg mb : Str → Option Value} {C fI : Addr} {B newId initId : String} {bmB : List Value} {flds : List Str}
/-- B.__init__ bound, called -/
theorem call_mw {s : Shared} {u x t0 : Addr} {rest : List Value} {Q : Value → Shared → Prop} (T : ErrTxt prog K mg C fI B newId initId bmB flds) (X : K.In s.heap) (hu : s.heap.get? u = some (kxs_mw initId x)) (hx : s.heap.get? x = some (excO C t0)) (hl : rest.length ≤ sizeLine)
    (hq : ∀ h' t1, (∀ b o, b ≠ x → s.heap.get? b = some o → h'.get? b = some o) → h'.get? x = some (excO C t1) → Q .none { s with heap := h' }) : wpAny (model prog w) A (call (.ref u) rest) Q E s := by
  obtain ⟨nm, N', qn, bs, bm, hdct, sn, sub, ab, col, dd, k0, k1, k2, k3, k5, hC, hT⟩ := excInit_of X T.qI
  have FB := T.FB
  obtain ⟨hh, g, d, tk, os⟩ := s
  refine wpAny_call (codeAny_of_tree ?_)
  show wpAny _ A.in1 (callAny (.ref u) ⟨rest, []⟩) _ _ _
  simp only [callAny]
  refine wpAny_bind (wpAny_load hu ?_)
  simp only [kxs_mw, show (Value.type "method-wrapper" == Value.type "method" || Value.type "method-wrapper" == Value.type "builtin_function_or_method" || Value.type "method-wrapper" == Value.type "method-wrapper") = true by decide, if_true]
  refine KFB.if_so (by decide) ?_
  refine wpAny_bind (check_bound_init FB.toExcCallFacts hC hx rfl ?_)
  refine wpAny_bind (wpAny_pure (wpAny_pure ?_))
  refine ⟨plainId_quiet FB.init.plain _, codeAny_builtin FB.initEntry ?_⟩
  exact exc_init_tree (cls := .ref C) (t0 := t0) (dv := none) (c2 := .none) (c3 := .none) (b4 := .bool false) hx hl fun h' k e' t' => hq h' _ k e'
/-- the first field -/
theorem set_new {s : Shared} {x : Addr} {fv : Array Value} {name : Str} {v : Value} {Q : Unit → Shared → Prop} (T : ErrTxt prog K mg C fI B newId initId bmB flds) (X : K.In s.heap) (hx : s.heap.get? x = some { cls := .ref C, data := .fields fv }) (hn : name ∈ flds)
    (hq : ∀ h' tk' dx, (∀ b o, b ≠ x → s.heap.get? b = some o → h'.get? b = some o) → s.heap.objs.size ≤ dx → dx ≠ x → h'.get? x = some { cls := .ref C, dict := some dx, data := .fields fv } →
      h'.Ns1 dx (fun y => if y = name then some v else none) → Q () { s with heap := h', toks := tk' }) : wpAny (model prog w) A (setAttr (.ref x) name v) Q E s := by
  have I : InstAt s.heap x { cls := .ref C, data := .fields fv } C none := ⟨hx, rfl, rfl, trivial⟩
  refine set_plain X I T.sa ?_
  have ht : takerIn K C name = some none := by unfold takerIn; rw [T.nf _ hn]; rfl
  refine osa_openX (s := { s with toks := s.toks + 1 }) T.SF X I T.ov ht fun b => ?_
  obtain ⟨cd, hc, hd⟩ := any_some T.hdC
  obtain ⟨hp, g, d, t, os⟩ := s
  have hxs : x ≠ hp.objs.size := Nat.ne_of_lt (Heap.lt_size hx)
  have hcls : Looks (model prog w) hp (classData C) cd := looks_clsIn X hc
  obtain ⟨nm, bs, mro, ns, qn, hd', sn, sb, ab, col, del⟩ := cd
  dsimp only at hd
  subst hd
  show wpAny _ _ (Builtin.ObjectAttr.storeInOwnDict (.ref x) (.ref C) (.str name _) name v b) _ _ _
  unfold Builtin.ObjectAttr.storeInOwnDict Builtin.ObjectAttr.ownDictForStores
  repeat (first | with_reducible refine store_in_new ?_ ?_ | with_reducible refine wpAny_loadPart_at hx ?_ | with_reducible refine hcls.at ?_ | wp_step)
  · exact ⟨_, #[], _, (Heap.get?_update_ne _ _ _ _ hxs.symm).trans (Heap.get?_push_at rfl rfl), rfl, fun e he => absurd he (by simp), fun _ => rfl⟩
  · intro h' tk' hn' hs
    have hx₁ : (hp.push { cls := .type "dict", data := .dict #[] }).get? x = some { cls := .ref C, data := .fields fv } := Heap.get?_push_of_some _ hx
    refine hq h' tk' hp.objs.size (fun b o hb ho => ?_) (Nat.le_refl _) hxs.symm ?_ hn'
    · exact (hs.2 b (Nat.ne_of_lt (Heap.lt_size ho))).trans ((Heap.get?_update_ne _ _ _ _ hb).trans (Heap.get?_push_of_some _ ho))
    · exact (hs.2 x hxs).trans (Heap.get?_update_self _ hx₁ rfl)
/-- a further one -/
theorem set_old {s : Shared} {x dx : Addr} {fv : Array Value} {name : Str} {v : Value} {m0 : Str → Option Value} {nl : List Str} {Q : Unit → Shared → Prop} (T : ErrTxt prog K mg C fI B newId initId bmB flds) (X : K.In s.heap) (hx : s.heap.get? x = some { cls := .ref C, dict := some dx, data := .fields fv }) (hns : s.heap.Ns1 dx m0) (hw : Within m0 nl) (hz : nl.length ≤ 1000) (hn : name ∈ flds)
    (hq : ∀ h' tk', (∀ b o, b ≠ dx → s.heap.get? b = some o → h'.get? b = some o) → h'.Ns1 dx (fun y => if y = name then some v else m0 y) → Q () { s with heap := h', toks := tk' }) : wpAny (model prog w) A (setAttr (.ref x) name v) Q E s := by
  obtain ⟨oD, esD, epD, hoD, hdD, _⟩ := hns.count hw
  have I : InstAt s.heap x { cls := .ref C, dict := some dx, data := .fields fv } C (some oD) := ⟨hx, rfl, rfl, hoD⟩
  refine set_plain X I T.sa ?_
  have ht : takerIn K C name = some none := by unfold takerIn; rw [T.nf _ hn]; rfl
  refine osa_openX (s := { s with toks := s.toks + 1 }) T.SF X I T.ov ht fun b => ?_
  obtain ⟨cd, hc, hd⟩ := any_some T.hdC
  obtain ⟨hp, g, d, t, os⟩ := s
  have hcls : Looks (model prog w) hp (classData C) cd := looks_clsIn X hc
  obtain ⟨nm, bs, mro, ns, qn, hd', sn, sb, ab, col, del⟩ := cd
  dsimp only at hd
  subst hd
  show wpAny _ _ (Builtin.ObjectAttr.storeInOwnDict (.ref x) (.ref C) (.str name _) name v b) _ _ _
  unfold Builtin.ObjectAttr.storeInOwnDict Builtin.ObjectAttr.ownDictForStores
  repeat (first | with_reducible refine PySem.OEX.store_in_old hns hw hz ?_ | with_reducible refine wpAny_loadPart_at hx ?_ | with_reducible refine hcls.at ?_ | wp_step)
  intro h' tk' hn' hs
  exact hq h' tk' (fun b o hb ho => (hs.2 b hb).trans ho) hn'
/-- the fields, newest first -/
def asM (l : List (Str × Value)) : Str → Option Value := fun y => l.lookup y
theorem asM_cons (f : Str) (v : Value) (l : List (Str × Value)) : (fun y => if y = f then some v else asM l y) = asM ((f, v) :: l) := by
  funext y
  show _ = List.lookup y ((f, v) :: l)
  rw [List.lookup_cons]
  by_cases h : y = f
  · subst h; simp
  · have : (y == f) = false := by simpa using h
    rw [if_neg h, this]; rfl
theorem asM_within : ∀ l : List (Str × Value), Within (asM l) (l.map (·.1)) := by
  intro l y hy
  have key : ∀ {l : List (Str × Value)} {v : Value}, l.lookup y = some v → y ∈ l.map (·.1) := by
    intro l
    induction l with
    | nil => intro v h; cases h
    | cons p l ih =>
      intro v h
      rw [List.lookup_cons] at h
      cases e : y == p.1 with
      | true => rw [List.map_cons, beq_iff_eq.mp e]; exact List.mem_cons_self
      | false => rw [e] at h; exact List.mem_cons_of_mem _ (ih h)
  cases hl : asM l y with
  | none => exact absurd hl hy
  | some v => exact key hl
/-- what __init__ leaves of the exception at x -/
structure InitEnd (h h' : Heap) (x C dx t1 : Addr) (l : List (Str × Value)) : Prop where
  keep : ∀ b o, b ≠ x → h.get? b = some o → h'.get? b = some o
  obj : h'.get? x = some { cls := .ref C, dict := some dx, data := .fields #[.ref t1, .none, .none, .none, .bool false, .none] }
  dbig : h.objs.size ≤ dx
  dne : dx ≠ x
  ns : h'.Ns1 dx (asM l)
theorem kept_in {h h' : Heap} {x : Addr} (X : K.In h) (hx : K.lookup x = none) (k : ∀ b o, b ≠ x → h.get? b = some o → h'.get? b = some o) : K.In h' := fun a o e =>
  k a o (fun z => by rw [z, hx] at e; cases e) (X a o e)
/-- self.f = f .. once the dict is there -/
theorem stores_old (T : ErrTxt prog K mg C fI B newId initId bmB flds) {env : Env} {x dx t1 : Addr} {hb : Heap} (hnx : K.lookup dx = none) {m : Str → Option Value} (hk : env.scope.kind = .function) (hself : env.kindOf "self" = some .local) (msf : m "self" = some (.ref x)) (hlx : env.locals ≠ x) (hld : env.locals ≠ dx) (hdb : hb.objs.size ≤ dx) (hdne : dx ≠ x) {Q : Flow → Shared → Prop} :
    ∀ (fs : List Str) (r : List Stmt) (vs : List Value) (acc : List (Str × Value)) (s : Shared), Stores fs r → fs.length = vs.length → (∀ f ∈ fs, f ∈ flds ∧ env.kindOf f = some .local ∧ (f == ("__debug__" : Str)) = false) → (∀ p ∈ fs.zip vs, m p.1 = some p.2) → acc.length + fs.length ≤ 900 →
      K.In s.heap → s.heap.Ns env.locals m → (∀ b o, b ≠ x → hb.get? b = some o → s.heap.get? b = some o) → s.heap.get? x = some { cls := .ref C, dict := some dx, data := .fields #[.ref t1, .none, .none, .none, .bool false, .none] } → s.heap.Ns1 dx (asM acc) →
      (∀ h' tk', InitEnd hb h' x C dx t1 ((fs.zip vs).reverse ++ acc) → Q .next { s with heap := h', toks := tk' }) → wpAny (model prog w) A (execs r env) Q E s := by
  intro fs
  induction fs with
  | nil =>
    intro r vs acc s hst hl _ _ _ X hn k hx hns hq
    cases hst
    exact wpAny_execs_nil (hq s.heap s.toks ⟨k, hx, hdb, hdne, hns⟩)
  | cons f fs ih =>
    intro r vs acc s hst hl hf hm hz X hn k hx hns hq
    obtain ⟨v, vs, rfl⟩ : ∃ v r, vs = v :: r := by cases vs with | nil => cases hl | cons v r => exact ⟨v, r, rfl⟩
    cases hst with
    | cons hst =>
      obtain ⟨f1, f2, f3⟩ := hf f List.mem_cons_self
      refine wpAny_execs_cons (plainObj_wpAny_Assign_Attribute ?_)
      refine wpAny_Name (wpAny_loadName_local hk f2 hn (hm (f, v) List.mem_cons_self) ?_) f3
      refine wpAny_Name (wpAny_loadName_local hk hself hn msf ?_) (by decide)
      refine set_old T X hx hns (asM_within acc) (by rw [List.length_map]; rw [List.length_cons] at hz; omega) f1 fun h' tk' k' hn' => ?_
      rw [asM_cons] at hn'
      refine ih _ vs ((f, v) :: acc) { s with heap := h', toks := tk' } hst (by simpa using hl) (fun g hg => hf g (List.mem_cons_of_mem _ hg)) (fun p hp => hm p (List.mem_cons_of_mem _ hp)) (by rw [List.length_cons] at hz ⊢; omega)
        (kept_in X hnx k') (hn.at fun o e => k' _ o hld e) (fun b o hb' e => k' b o (fun z => by
            rw [z] at e
            exact absurd (Heap.lt_size e) (Nat.not_lt.mpr hdb)) (k b o hb' e)) (k' x _ (Ne.symm hdne) hx) hn' fun h2 tk2 ie => ?_
      have e : ((f :: fs).zip (v :: vs)).reverse ++ acc = (fs.zip vs).reverse ++ (f, v) :: acc := by simp
      rw [e] at hq
      exact hq h2 tk2 ie

theorem super_call {p0 p1 p2 p3 p4 : Pos} {msg : Str} {j : Nat} {env : Env} (hp : (p2.endLine == p4.line) = true) : eval (.Call (.Attribute (.Call (.Name "super" p0) [] [] p1) "__init__" p2) [.Constant (.str msg) j p3] [] p4) env = (do
    let ov ← attributeBase (.Call (.Name "super" p0) [] [] p1) "__init__" env (eval (.Call (.Name "super" p0) [] [] p1) env)
    standAt p2.atName
    let (f, first) ← holding [ov] (getMethod ov "__init__" (do return (← importBound (.Call (.Name "super" p0) [] [] p1) env).getD true))
    callWith p4 f first (backTo p4 (starEach [.Constant (.str msg) j p3] env)) []) := by
  rw [arm_eval_Call]
  have h1 : methodCallPos true (.Call (.Name "super" p0) [] [] p1) env p2 p4 = pure p4 := by
    unfold methodCallPos
    rw [hp]
    rfl
  show (attributeBase _ _ _ _ >>= fun ov => standAt p2.atName >>= fun _ => (holding [ov] (getMethod ov "__init__" _) >>= fun z => methodCallPos true _ _ _ _ >>= fun cp => callWith cp z.1 z.2 _ _)) = _
  rw [h1]
  rfl
theorem err_init (T : ErrTxt prog K mg C fI B newId initId bmB flds) {s : Shared} {x t0 : Addr} {us : List Value} (X : K.In s.heap) (hlim : s.heap.NoLimit) (G : s.heap.Ns mainGlobals mg) (Bn : s.heap.Ns builtinsNs mb) (mbS : mb "super" = some (.type "super")) (hx : s.heap.get? x = some (excO C t0)) (hnx : K.lookup x = none) (hl : us.length = flds.length) (hroom : A.depth < recursionLimit)
    (hq : ∀ h' tk dx t1, InitEnd s.heap h' x C dx t1 (flds.zip us).reverse → R (.ok (.ret .none)) { s with heap := h', toks := tk }) :
    codeAny (model prog w) A (.call (.ref fI) ⟨.ref x :: us, []⟩) R s := by
  obtain ⟨oc, od, doc, pm, an, cda, cc, ct, osl, nm, qual, params, body, scope, vs, file, tf, ccl, cl, cdd, cld, ccs, csl, lk, hcd, I, hcode, hvs, hfile, hcell⟩ := T.fn
  obtain ⟨p0, p1, p2, p3, p4, p5, msg, j, rest, rfl, hst, hpos⟩ := I.bod
  obtain ⟨ar, har, hself⟩ := I.ar
  have hloc : ∀ y ∈ (("self" : Str), Value.ref x) :: flds.zip us, scope.names.lookup y.1 = some .local := fun y hy => by
    rcases List.mem_cons.mp hy with rfl | hy
    · exact I.slf
    · exact (I.fl _ (List.of_mem_zip hy).1).1
  refine ks_codeAny_call_defAt (fd := ksFn nm qual params _ scope .none .none doc pm an (.ref cda) ct cc) (body := _) (binds := (("self" : Str), Value.ref x) :: flds.zip us) hroom (X _ _ lk) rfl hlim (codeRec_of X hcd) rfl (I.bnd s _ (.ref x) us rfl rfl rfl hl) I.cel hloc (fun h₁ hns hk₁ => ?_) I.co I.gen I.kind
  have X₁ : K.In h₁ := X.keeps hk₁
  have hx₁ := hk₁ _ _ hx
  have L1 : ∀ {b o}, s.heap.get? b = some o → b ≠ s.heap.objs.size := fun {b o} e => Nat.ne_of_lt (Heap.lt_size e)
  generalize hm : (fun x_1 => List.lookup x_1 ((("self" : Str), Value.ref x) :: flds.zip us).reverse) = m at hns
  have msf : m "self" = some (.ref x) := by
    subst hm
    show List.lookup _ ((("self" : Str), Value.ref x) :: flds.zip us).reverse = _
    rw [List.reverse_cons, List.lookup_append]
    have : List.lookup ("self" : Str) (flds.zip us).reverse = none := by
      rw [List.lookup_eq_none_iff]
      intro p hp
      have := (List.of_mem_zip (List.mem_reverse.mp hp)).1
      exact bne_iff_ne.mpr fun z => I.nself (by have z' : ("self" : Str) = p.1 := z; rw [z']; exact this)
    rw [this]
    rfl
  have mfl : ∀ p ∈ flds.zip us, m p.1 = some p.2 := fun p hp => by
    subst hm
    show List.lookup _ ((("self" : Str), Value.ref x) :: flds.zip us).reverse = _
    rw [List.reverse_cons, List.lookup_append]
    have key : ∀ (fs : List Str) (us : List Value), fs.Nodup → p ∈ fs.zip us → List.lookup p.1 (fs.zip us).reverse = some p.2 := by
      intro fs
      induction fs with
      | nil => intro us _ h; cases h
      | cons f fs ih =>
        intro us nd h
        cases us with
        | nil => cases h
        | cons u us =>
          rw [List.zip_cons_cons, List.reverse_cons, List.lookup_append]
          rcases List.mem_cons.mp h with rfl | h
          · have : List.lookup f (fs.zip us).reverse = none := by
              rw [List.lookup_eq_none_iff]
              intro q hq
              have := (List.of_mem_zip (List.mem_reverse.mp hq)).1
              exact bne_iff_ne.mpr fun z => (List.nodup_cons.mp nd).1 (by have z' : f = q.1 := z; rw [z']; exact this)
            show (List.lookup f (fs.zip us).reverse).or _ = _
            rw [this]
            simp
          · rw [ih us (List.nodup_cons.mp nd).2 h]
            rfl
    rw [key flds us I.nd hp]
    rfl
  obtain ⟨cdC, hcC, hcD⟩ := any_some T.hdC
  obtain ⟨oD, hD1, hD2⟩ : ∃ oD, h₁.get? C = some oD ∧ oD.data = .cls cdC := by
    unfold clsIn at hcC
    split at hcC
    · rename_i c d cd' sl ho
      cases hcC
      exact ⟨_, X₁ _ _ ho, rfl⟩
    · cases hcC
  have IA : InstAt h₁ x (excO C t0) C none := ⟨hx₁, rfl, rfl, trivial⟩
  have hxC : x ≠ C := ks_ne X₁ IA hcC
  refine ks_wpAt_execs_cons (ks_wpAt_Expr_any (ks_wpAt_MethodCall (pl := (do return (← importBound (.Call (.Name "super" p0) [] [] p1) (callEnv (ksFn nm qual params _ scope .none .none doc pm an (.ref cda) ct cc) s.heap.objs.size fI)).getD true)) ?_ (super_call hpos)) (by unfold interactive; show (scope.kind == .module && _) = false; rw [I.kind]; rfl))
  refine ks_wpAt_super_base (env := callEnv (ksFn nm qual params _ scope .none .none doc pm an (.ref cda) ct cc) s.heap.objs.size fI) I.sup I.cls (by decide) rfl (X₁ _ _ lk) rfl har rfl (X₁ _ _ hcode) rfl hvs hfile T.top ?_
  refine ks_loadName_global I.kind I.sup (loadGlobal_builtin (G.keeps hk₁) T.gS (Bn.keeps hk₁) mbS ⟨rfl, ?_⟩)
  refine wpAny_loadName_free I.kind I.cls rfl ⟨_, X₁ _ _ hcell, rfl⟩ ?_
  rw [hself]
  refine wpAny_loadName_local I.kind I.slf hns msf ?_
  refine ks_wpAny_isType_cls hD1 hD2 ⟨rfl, ?_⟩
  refine ks_wpAny_call_super hD1 hD2 IA.at_ IA.cls (fun c e => by cases e) (looks_mroIn X₁ T.hCC) (fun h₂ e k₂ => ?_)
  have X₂ := X₁.keeps k₂
  have hx₂ := k₂ _ _ hx₁
  have IA2 : InstAt h₂ x (excO C t0) C none := ⟨hx₂, rfl, rfl, trivial⟩
  have hI : Looks (model prog w) h₂ (isInstance (.ref x) (.type B)) true := IA2.type.andThen (looks_subIn X₂ T.hB)
  have hm' := T.hm
  unfold ks_superIn at hm'
  rw [hcC] at hm'
  refine kxs_getMethod T.KF e (looks_opaque X₂ T.ho) (l₀ := cdC.mro) (fun A Q E s k q => wpAny_bind ((looks_clsIn X₂ hcC) A _ E s k (wpAny_pure q))) rfl X₂ hm' hI hxC (by decide) ?_
  have k₃ : ∀ b o, h₂.get? b = some o → (h₂.push (kxs_mw initId x)).get? b = some o := fun b o e => Heap.get?_push_of_some _ e
  have hu : (h₂.push (kxs_mw initId x)).get? h₂.objs.size = some (kxs_mw initId x) := Heap.get?_push_at rfl rfl
  refine kxs_callWith (i := initId) (x := x) rfl ?_
  have hse : ∀ env : Env, starEach [.Constant (.str msg) j p3] env = [(false, eval (.Constant (.str msg) j p3) env)] := fun _ => rfl
  rw [hse]
  refine evalArgs_plain ?_
  refine spliced_cons ?_
  refine wpAny_Constant_str (k := j) (pos := p3) ?_
  refine spliced_nil ⟨hu, ?_⟩
  show wpAny _ _ (call (.ref h₂.objs.size) [Value.str msg _]) _ _ _
  refine call_mw (s := ⟨h₂.push (kxs_mw initId x), s.gens, s.drawn, _, s.os⟩) T (X₂.keeps k₃) hu (k₃ _ _ hx₂) (by show 1 ≤ sizeLine; rw [sizeLine_eq]; omega) fun h₄ t1 k₄ hx₄ => ?_
  have k14 : ∀ b o, b ≠ x → h₁.get? b = some o → h₄.get? b = some o := fun b o hb e => k₄ b o hb (k₃ _ _ (k₂ _ _ e))
  have X₄ : K.In h₄ := kept_in X₁ hnx k14
  have hLx : s.heap.objs.size ≠ x := (L1 hx).symm
  have hns₄ : h₄.Ns s.heap.objs.size m := hns.at fun o e => k14 _ o hLx e
  -- the fields
  obtain ⟨f, fs, hfl⟩ : ∃ f fs, flds = f :: fs := by
    cases h : flds with
    | nil => exact absurd h I.ne
    | cons f fs => exact ⟨f, fs, rfl⟩
  obtain ⟨u, us', rfl⟩ : ∃ u r, us = u :: r := by cases us with | nil => rw [hfl] at hl; cases hl | cons u r => exact ⟨u, r, rfl⟩
  rw [hfl] at hst
  cases hst with
  | cons hst =>
    rename_i r q1 q2 q3 q4
    have hf0 : f ∈ flds := by rw [hfl]; exact List.mem_cons_self
    have kl : ∀ g ∈ flds, (callEnv (ksFn nm qual params (.Expr (.Call (.Attribute (.Call (.Name "super" p0) [] [] p1) "__init__" p2) [.Constant (.str msg) j p3] [] p4) p5 :: .Assign [.Attribute (.Name "self" q1) f q2] (.Name f q3) q4 :: r) scope .none .none doc pm an (.ref cda) ct cc) s.heap.objs.size fI).kindOf g = some .local := fun g hg => (I.fl g hg).1
    refine wpAt_of_wpAny ?_
    refine wpAny_execs_cons (plainObj_wpAny_Assign_Attribute ?_)
    refine wpAny_Name (wpAny_loadName_local I.kind (kl f hf0) hns₄ (mfl (f, u) (by rw [hfl]; exact List.mem_cons_self)) ?_) (I.fl f hf0).2
    refine wpAny_Name (wpAny_loadName_local I.kind I.slf hns₄ msf ?_) (by decide)
    refine set_new T X₄ hx₄ hf0 fun h₅ tk₅ dx k₅ hbig hdne hx₅ hn₅ => ?_
    have k15 : ∀ b o, b ≠ x → h₁.get? b = some o → h₅.get? b = some o := fun b o hb e => k₅ b o hb (k14 b o hb e)
    have hnd : K.lookup dx = none := by
      cases e : K.lookup dx with
      | none => rfl
      | some o => exact absurd (Heap.lt_size (X₄ _ _ e)) (Nat.not_lt.mpr hbig)
    have s14 : s.heap.objs.size < h₄.objs.size := hns₄.lt
    have hbb : s.heap.objs.size ≤ dx := Nat.le_of_lt (Nat.lt_of_lt_of_le s14 hbig)
    have hLd : s.heap.objs.size ≠ dx := Nat.ne_of_lt (Nat.lt_of_lt_of_le s14 hbig)
    have e1 : (fun y => if y = f then some u else none) = asM [(f, u)] := asM_cons f u []
    rw [e1] at hn₅
    refine stores_old (hb := s.heap) T hnd (m := m) (by exact I.kind) (by exact I.slf) msf (by exact hLx) (by exact hLd) hbb hdne fs r us' [(f, u)] _ hst (by rw [hfl] at hl; simpa using hl.symm) (fun g hg => ?_) (fun p hp => mfl p (by rw [hfl]; exact List.mem_cons_of_mem _ hp)) (by have := I.len; rw [hfl] at this; simp only [List.length_cons, List.length_nil] at this ⊢; omega)
      (kept_in X₄ hnx k₅) (by exact hns₄.at fun o e => k₅ _ o hLx e) (fun b o hb e => k15 b o hb (hk₁ _ _ e)) hx₅ hn₅ fun h' tk' ie => ?_
    · have hg' : g ∈ flds := by rw [hfl]; exact List.mem_cons_of_mem _ hg
      exact ⟨hg', kl g hg', (I.fl g hg').2⟩
    · refine hq h' tk' dx t1 ?_
      have e : (flds.zip (u :: us')).reverse = (fs.zip us').reverse ++ [(f, u)] := by rw [hfl]; simp
      rw [e]
      exact ie
/-- a made one -/
structure OwnMade (h h' : Heap) (e C d : Addr) (l : List (Str × Value)) : Prop where
  keep : ∀ b o, h.get? b = some o → h'.get? b = some o
  new : h.objs.size ≤ e
  obj : ∃ oe vs, h'.get? e = some oe ∧ oe.cls = .ref C ∧ oe.dict = some d ∧ oe.data = .fields vs ∧ vs[1]? = some .none
  dbig : h.objs.size ≤ d
  dne : d ≠ e
  ns : h'.Ns1 d (asM l)
theorem err_made (T : ErrTxt prog K mg C fI B newId initId bmB flds) {s : Shared} {us : List Value} (X : K.In s.heap) (hlim : s.heap.NoLimit) (G : s.heap.Ns mainGlobals mg) (Bn : s.heap.Ns builtinsNs mb) (mbS : mb "super" = some (.type "super")) (hl : us.length = flds.length) (hsz : us.length ≤ sizeLine) (hroom : A.depth + 1 < recursionLimit)
    (hq : ∀ h' tk e d, OwnMade s.heap h' e C d (flds.zip us).reverse → R (.ok (.ret (.ref e))) { s with heap := h', toks := tk }) :
    codeAny (model prog w) A (.call (.ref C) ⟨us, []⟩) R s := by
  obtain ⟨nm, N', qn, bs, bm, hdct, sn, sub, ab, col, dd, k0, k1, k2, k3, k5, hC, hT⟩ := excInit_of X T.qI
  obtain ⟨hp, g, dr, tk, os⟩ := s
  have k : ∀ b o, hp.get? b = some o → ((hp.push (kdv_tup us)).push (excO C hp.objs.size)).get? b = some o := fun b o e => Heap.get?_push_of_some _ (Heap.get?_push_of_some _ e)
  have hget : ((hp.push (kdv_tup us)).push (excO C hp.objs.size)).get? (hp.objs.size + 1) = some (excO C hp.objs.size) := by heap_get
  have hnx : K.lookup (hp.objs.size + 1) = none := by
    cases e : K.lookup (hp.objs.size + 1) with
    | none => rfl
    | some o =>
      have z : hp.get? (hp.objs.size + 1) = some o := X _ _ e
      exact absurd (Nat.lt_of_succ_lt (Heap.lt_size z)) (Nat.lt_irrefl _)
  refine call_own T.FB hT hC (looks_findIn X T.iC) (fun self => bind_fn X self T.tC) hsz ?_
  refine err_init (s := ⟨(hp.push (kdv_tup us)).push (excO C hp.objs.size), g, dr, tk, os⟩) T (X.keeps k) (hlim.keeps k) (G.keeps k) (Bn.keeps k) mbS hget hnx hl ?_ fun h' tk' dx t1 ie => ?_
  · show A.depth + 1 < recursionLimit
    exact hroom
  · have old : ∀ b o, hp.get? b = some o → h'.get? b = some o := fun b o e => ie.keep b o (Nat.ne_of_lt (Nat.lt_succ_of_lt (Heap.lt_size e))) (k b o e)
    have z : hp.objs.size + 1 + 1 ≤ dx := by
      have q := ie.dbig
      rw [Heap.size_push, Heap.size_push] at q
      exact q
    exact ⟨rfl, hq h' tk' (hp.objs.size + 1) dx ⟨old, Nat.le_succ _, ⟨_, _, ie.obj, rfl, rfl, rfl, rfl⟩, Nat.le_trans (Nat.le_trans (Nat.le_succ _) (Nat.le_succ _)) z, ie.dne, ie.ns⟩⟩
end
end DLX
set_option Elab.async false
set_option linter.all false
set_option maxRecDepth 100000
set_option maxHeartbeats 1000000
/-! DL12: raise of own errors; try .. except X as e; a caught error's fields. -/
namespace DL
open PySem PySem.Spec PyProof.Rows L2
open Evl (Ex ex_l ex_t)
open DLX (ErrTxt asM)

section
variable {K : PySem.W.Frag} {F : Hp}
theorem DenF.snoc {k : Str} {d : D} {v : V} {l : List (Str × D)} {m : List (Str × V)} (h : DenF K F l m) (hd : Den K F d v) : DenF K F (l ++ [(k, d)]) (m ++ [(k, v)]) := by
  induction h with
  | nil => exact .cons hd .nil
  | cons h _ ih => exact .cons h ih
theorem denF_zip : ∀ (fs : List Str) {ds : List D} {vs : List V}, DenL K F ds vs → DenF K F (fs.zip ds).reverse (fs.zip vs).reverse
  | [], _, _, _ => .nil
  | f :: fs, [], vs, h => by rw [denL_nil h]; exact .nil
  | f :: fs, d :: ds, vs, h => by
    obtain ⟨v, r, rfl, h1, h2⟩ := denL_cons h
    rw [List.zip_cons_cons, List.zip_cons_cons, List.reverse_cons, List.reverse_cons]
    exact (denF_zip fs h2).snoc h1
end
theorem relO_app (g f : Str) (v : V) (u : Value) (r : RelV v u) : ∀ {l : List (Str × V)} {m : List (Str × Value)}, (∀ g, RelO (l.lookup g) (m.lookup g)) → RelO ((l ++ [(f, v)]).lookup g) ((m ++ [(f, u)]).lookup g) := by
  intro l m h
  rw [List.lookup_append, List.lookup_append]
  have q := h g
  cases e : l.lookup g with
  | some a =>
    rw [e] at q
    cases e2 : m.lookup g with
    | none => rw [e2] at q; exact q.elim
    | some b => rw [e2] at q; exact q
  | none =>
    rw [e] at q
    cases e2 : m.lookup g with
    | some b => rw [e2] at q; exact q.elim
    | none =>
      simp only [Option.none_or, List.lookup]
      cases hb : g == f with
      | true => exact r
      | false => exact True.intro
theorem relO_zip : ∀ (fs : List Str) {vs : List V} {us : List Value}, Vals vs us → ∀ g, RelO ((fs.zip vs).reverse.lookup g) (asM (fs.zip us).reverse g)
  | [], _, _, _, _ => True.intro
  | f :: fs, [], [], .nil, _ => True.intro
  | f :: fs, v :: vs, u :: us, .cons r t, g => by
    show RelO (((f :: fs).zip (v :: vs)).reverse.lookup g) (((f :: fs).zip (u :: us)).reverse.lookup g)
    rw [List.zip_cons_cons, List.zip_cons_cons, List.reverse_cons, List.reverse_cons]
    exact relO_app g f v u r (relO_zip fs t)

section
variable {X : Cx} {W : WX} {C fI : Addr} {B newId initId : String} {bmB : List Value} {flds : List Str} {x : Str} {e : Expr} {es : List Expr} {r : TAD} {p pos pos2 : Pos} {k : Nat}
def tMkE (flds : List Str) (C : Addr) (ta : TA) : L2.St → Hp → XK → Prop := fun σ H Q => ta σ H fun vs H1 => vs.length = flds.length ∧ ∀ d, H1 d = none → Q (.ref C) (some d) (upd H1 d (.xd (flds.zip vs).reverse))
theorem pmk_err {ta : TA} (T : ErrTxt X.prog X.K X.mg C fI B newId initId bmB flds) (hr : RoomG k X.A) (hz : flds.length ≤ 20) (hm : X.mg x = some (.ref C)) (ha : PA X (e :: es) ta) (hg : Gl X x := by rfl) (hdb : (x == ("__debug__" : Str)) = false := by decide)
    (he : starEach (e :: es) X.env = (false, eval e X.env) :: starEach es X.env := by rfl) (hpl : (backTo pos (starEach es X.env)).any (·.1) = false := by rfl) :
    PMk X (.Call (.Name x p) (e :: es) [] pos) (tMkE flds C ta) := by
  intro pins s σ H Q I h
  refine wpAny_Call_Name_kw (ld_glob I hg hm ?_ hdb)
  refine PySem.W.callWith_K (h₀ := X.base) I.ok.mod.kin T.kC (thn (ha.run pos pins s σ H _ I h) fun us s1 hh => ?_) he hpl
  obtain ⟨vs, H1, I1, r1, hl, q1⟩ := hh
  refine ⟨I1.kIn, ?_⟩
  have hlu : us.length = flds.length := by rw [← r1.length]; exact hl
  obtain ⟨mb, b1, b2⟩ := I1.mod.blt
  have hbk := I1.bk
  have hG := I1.mod.glob.keeps hbk
  have hB := b1.keeps hbk
  have hlim := I1.nolimit
  obtain ⟨hp, g, dr, tk, os⟩ := s1
  refine wpAny_call (DLX.err_made T I1.kIn hlim hG hB ((b2 _ (by decide +kernel)).trans (by kernel_rfl)) hlu (by show us.length ≤ sizeLine; rw [hlu, sizeLine_eq]; omega) (by have := hr.r.dp; omega) fun h' tk' e d M => ?_)
  show MkP X pins σ Q (.ref e) ⟨h', g, dr, tk', os⟩
  obtain ⟨oe, fv, hoe, hc, hd, hdat, h1⟩ := M.obj
  have hns := M.ns
  obtain ⟨G', g1, g2⟩ := restrict h' fun b => decide (b ≠ e)
  have gk : ∀ b, b ≠ e → G'.get? b = h'.get? b := fun b hb => g1 b (decide_eq_true hb)
  have ge : G'.get? e = none := g2 e (by simp)
  have old : ∀ b o, hp.get? b = some o → G'.get? b = some o := fun b o q => (gk b (Nat.ne_of_lt (Nat.lt_of_lt_of_le (Heap.lt_size q) M.new))).trans (M.keep b o q)
  have ob : ObjOk X.prog X.w (upd H1 d (.xd (flds.zip vs).reverse)) G' d (.xd (flds.zip vs).reverse) :=
    ⟨_, hns.at (fun o q => (gk d M.dne).trans q), fun f => relO_zip flds r1 f⟩
  have J : Inv X pins σ (upd H1 d (.xd (flds.zip vs).reverse)) ⟨G', g, dr, tk', os⟩ := I1.laid (t' := tk') old M.dbig ob
  refine ⟨e, oe, fv, ⟨G', g, dr, tk', os⟩, _, .ref C, some d, rfl, J, fun b o q => ?_, ge, hoe, ⟨hc, hd⟩, hdat, h1, ?_, rfl, I1.bare, raises_own T.exC T.tyC, q1 d (I1.hok.fresh M.dbig)⟩
  · by_cases hb : b = e
    · have q' : G'.get? b = some o := q
      rw [hb, ge] at q'; cases q'
    · exact (gk b hb).symm.trans q
  · rw [upd_ne (Ne.symm M.dne)]
    exact I1.hok.fresh M.new
/-- raise X(e, ..) -/
def dRaise (flds : List Str) (C : Addr) (r : TAD) : TSD := fun E _ ρ w => r E ρ w fun ds w1 => ds.length = flds.length ∧ E (.own C (flds.zip ds).reverse) ρ w1
theorem ds_raise (T : ErrTxt X.prog X.K X.mg C fI B newId initId bmB flds) (hc : X.calm = true) (tk : Takes X W) (hr : RoomG k X.A) (hz : flds.length ≤ 20) (hm : X.mg x = some (.ref C)) (ha : DA X W (e :: es) r) (hg : Gl X x := by rfl) (hdb : (x == ("__debug__" : Str)) = false := by decide)
    (he : starEach (e :: es) X.env = (false, eval e X.env) :: starEach es X.env := by rfl) (hpl : (backTo pos (starEach es X.env)).any (·.1) = false := by rfl) :
    DS X W (.Raise (some (.Call (.Name x p) (e :: es) [] pos)) none pos2) (dRaise flds C r) := by
  obtain ⟨u, p', r'⟩ := ha.ex
  refine ⟨_, ps_raise hc tk (pmk_err T hr hz hm p' hg hdb he hpl), fun F0 E hw F ρ w σ H De Dh at_ hh k' => ?_⟩
  refine r' F0 E hw F ρ w σ H _ _ at_ hh fun ds w1 F1 vs H1 e1 h1 d1 q1 => ⟨by rw [← d1.len]; exact q1.1, fun d hd => ?_⟩
  have e2 : Ex F1 (upd F1 d (.xd (flds.zip vs).reverse)) := Evl.Ex.new (h1.fresh hd).1
  refine hw (.own C (flds.zip ds).reverse) (upd F1 d (.xd (flds.zip vs).reverse)) w1 ρ σ _ (.ref C) (some d) ⟨(at_.e0.trans e1).trans e2, h1.newF hd _, at_.r.mono (e1.trans e2)⟩ ⟨rfl, .inr ⟨d, _, rfl, upd_same, (denF_zip flds d1).mono e2⟩⟩ q1.2

/-! ### try .. except X as n -/
abbrev ETr : XD := fun _ _ _ => True
/-- what the suite knows of the caught error's fields -/
abbrev WFx (dd : Addr) (gs : List (Str × V)) : WX := fun _ _ _ H => H dd = some (.xd gs)
theorem wfx_ok {K : PySem.W.Frag} {F : Hp} {dd : Addr} {gs : List (Str × V)} (h : F dd = some (.xd gs)) : WishOk K (WFx dd gs) F ETr := fun x F' w ρ σ H cls o a _ _ => a.h.ex _ _ (a.e0 _ _ h)
def isSc : D → Bool
  | .non => true | .bl _ => true | .int _ => true | .str _ => true | .ty _ => true | .ref _ => true
  | _ => false
theorem isSc_any {K K' : PySem.W.Frag} {F F' : Hp} {d : D} {v : V} (h : isSc d = true) (hd : Den K F d v) : Den K' F' d v := by
  cases d <;> first | exact (by unfold Den at hd ⊢; exact hd) | cases h
theorem scF_any {K : PySem.W.Frag} {F : Hp} {fs : List (Str × D)} {gs : List (Str × V)} (hd : DenF K F fs gs) : (∀ q ∈ fs, isSc q.2 = true) → ∀ F', DenF K F' fs gs := by
  induction hd with
  | nil => intro _ _; exact .nil
  | cons h _ ih => intro hs F'; exact .cons (isSc_any (hs _ List.mem_cons_self) h) (ih (fun q hq => hs q (List.mem_cons_of_mem _ hq)) F')
def canS (K : PySem.W.Frag) (W : WX) (t : TSD) : TS := fun Dh σ H => ∃ F0 E F ρ w De, WishOk K W F0 E ∧ At K F0 F ρ w σ H ∧ t E De ρ w ∧ EndS K F De Dh
theorem DSs.can {sts : List Stmt} {t : TSD} (h : DSs X W sts t) : PSs X sts (canS X.K W t) := by
  obtain ⟨u, p, r⟩ := h.ex
  exact ⟨fun pins s σ H Dh I ⟨F0, E, F, ρ, w, De, hw, a, q, k⟩ => p.run pins s σ H Dh I (r F0 E hw F ρ w σ H De Dh a q k)⟩
/-- the reading of the suite: a the error, C its class, fs its fields -/
abbrev TXD := Addr → List (Str × D) → TSD
def clD (i : Nat) (D : EndsD) : EndsD := { nx := fun ρ w => D.nx (ρ.set i none) w, rt := D.rt, bk := fun ρ w => D.bk (ρ.set i none) w, ct := fun ρ w => D.ct (ρ.set i none) w }
def clsX : XC → Value
  | .own C _ => .ref C
  | .bi n => .type n
theorem DenX.cls {K : PySem.W.Frag} {F : Hp} {x : XC} {c : Value} {o : Option Addr} (h : DenX K F x c o) : c = clsX x := by
  cases x with
  | own C fs => exact h.1
  | bi n => exact h.1
def dTryAs (K : PySem.W.Frag) (C : Addr) (i : Nat) (tb : TSD) (ts : TXD) : TSD := fun E D ρ w =>
  tb (fun x ρ' w' => (∃ fs, x = .own C fs ∧ fs ≠ [] ∧ PySem.W.exmOne K (.ref C) (.ref C) = some true ∧ (∀ q ∈ fs, isSc q.2 = true) ∧ ∀ a, w' a = none → ts a fs ETr (clD i D) (ρ'.set i (some (.ref a))) w') ∨
    (PySem.W.exmOne K (clsX x) (.ref C) = some false ∧ E x ρ' w')) D ρ w
def sufX (K : PySem.W.Frag) (C : Addr) (ts : TXD) : Addr → Value → Option Addr → TS := fun a cls d Dh σ H => ∃ dd fs gs F0 F ρ w De, cls = .ref C ∧ d = some dd ∧ F0 dd = some (.xd gs) ∧ (∀ F, DenF K F fs gs) ∧ At K F0 F ρ w σ H ∧ ts a fs ETr De ρ w ∧ EndS K F De Dh
variable {n : Str} {c : Value} {i : Nat} {body suite : List Stmt} {b₀ : Stmt} {np pos' : Pos} {tb : TSD} {ts : TXD}
theorem EndS.clear {K : PySem.W.Frag} {F : Hp} {De : EndsD} {Dh : Ends} (h : EndS K F De Dh) : EndS K F (clD i De) { nx := fun σ' H' => Dh.nx (σ'.set i none) H', rt := Dh.rt, bk := fun σ' H' => Dh.bk (σ'.set i none) H', ct := fun σ' H' => Dh.ct (σ'.set i none) H' } :=
  ⟨fun ρ w F' σ H e r rr q => h.nx _ w F' _ H e r rr.unset q, h.rt, fun ρ w F' σ H e r rr q => h.bk _ w F' _ H e r rr.unset q, fun ρ w F' σ H e r rr q => h.ct _ w F' _ H e r rr.unset q⟩
theorem ds_try_as (hs : X.stack = X.env :: X.outer) (hf : X.env.frame = some X.env.locals) (hN : X.N.Nodup) (hc : Names X x (.ref C)) (tk : Takes X W)
    (hb : ∀ (W' : WX) (pn : List (Addr × Obj)) (xe : Value → Shared → Prop), Takes (X.tr pn xe) W' → PassesOwn (model X.prog X.w) X.A X.env xe → DSs (X.tr pn xe) W' body tb)
    (hsu : ∀ (a : Addr) (oe : Obj) (d : Addr) (pn : List (Addr × Obj)) (fs : List (Str × D)) (gs : List (Str × V)), Zc (.ref C) (some d) oe → (∃ vs, oe.data = .fields vs) → (∀ F, DenF X.K F fs gs) → DSs (X.suite a ((a, oe) :: pn)) (WFx d gs) (b₀ :: suite) (ts a fs))
    (hi : X.N[i]? = some n := by rfl) (hln : X.env.kindOf n = some .local := by rfl) :
    DS X W (.Try body [.ExceptHandler (some (.Name x np)) (some n) (b₀ :: suite) pos'] [] [] pos) (dTryAs X.K C i tb ts) := by
  refine ⟨_, ps_try_as (tb := fun W' => canS X.K W' tb) (ts := sufX X.K C ts) hs hf hN hi hln hc tk (fun W' pn xe tk' po => (hb W' pn xe tk' po).can) (fun a oe cls d pn hz hd => ⟨fun pins s σ H Dh I h => ?_⟩), fun F0 E hw F ρ w σ H De Dh at_ hh k => ?_⟩
  · obtain ⟨dd, fs, gs, F0, F, ρ, w, De, rfl, rfl, h0, hfs, at_, q, ke⟩ := h
    obtain ⟨u, p, r⟩ := (hsu a oe dd pn fs gs hz hd hfs).ex
    exact p.run pins s σ H Dh I (r F0 ETr (wfx_ok h0) F ρ w σ H De Dh at_ q ke)
  · refine ⟨F, _, F, ρ, w, De, fun xc F' w' ρ' σ' H' cls o at' dx hx => ?_, ⟨Evl.Ex.refl _, at_.h, at_.r⟩, hh, k⟩
    rcases hx with ⟨fs, rfl, hne, ht, hsc, q⟩ | ⟨ht, q⟩
    · obtain ⟨rfl, hd⟩ := dx
      rcases hd with ⟨hz, _⟩ | ⟨d, gs, rfl, h0, hfs⟩
      · exact absurd hz hne
      refine ⟨true, ht, fun _ a ha => ?_, fun z => Bool.noConfusion z⟩
      have hfr := at'.h.fresh ha
      exact ⟨d, fs, gs, F', F', _, w', _, rfl, rfl, h0, scF_any hfs hsc, ⟨Evl.Ex.refl _, at'.h, at'.r.set den_ref⟩, q a hfr.2, (k.mono at'.e0).clear⟩
    · rw [dx.cls]
      exact ⟨false, ht, fun z => Bool.noConfusion z, fun _ => by
        have := hw xc F' w' ρ' σ' H' cls o ⟨at_.e0.trans at'.e0, at'.h, at'.r⟩ dx q
        rw [dx.cls] at this
        exact this⟩

/-- error.f -/
def dXf (a : Addr) (fs : List (Str × D)) (f : Str) (t : TED) : TED := fun E ρ w Q => t E ρ w fun x w1 => ∃ v, x = .ref a ∧ E (.bi "") ρ w1 ∧ fs.lookup f = some v ∧ Q v w1
theorem de_xf {a C dd : Addr} {oe : Obj} {pn : List (Addr × Obj)} {fs : List (Str × D)} {gs : List (Str × V)} {f : Str} {t : TED} (T : XfC X.K C) (hno : PySem.W.findIn X.K (.ref C) f = some none) (hz : Zc (.ref C) (some dd) oe) (hd : ∃ vs, oe.data = .fields vs) (hfs : ∀ F, DenF X.K F fs gs)
    (he : DE (X.suite a ((a, oe) :: pn)) (WFx dd gs) e t) (hb : attributeBase e f X.env (eval e X.env) = eval e X.env := by rfl) : DE (X.suite a ((a, oe) :: pn)) (WFx dd gs) (.Attribute e f pos) (dXf a fs f t) := by
  obtain ⟨u, p, r⟩ := he.ex
  refine ⟨_, pe_xf T hno hz hd p hb, fun F0 E hw F ρ w σ H Qd Q at_ hh k => r F0 E hw F ρ w σ H _ _ at_ hh fun x w1 F1 v H1 e1 h1 d1 q1 => ?_⟩
  obtain ⟨d, rfl, hE, hl, q⟩ := q1
  have hdd : H1 dd = some (.xd gs) := hw (.bi "") F1 w1 ρ σ H1 _ none ⟨at_.e0.trans e1, h1, at_.r.mono e1⟩ ⟨rfl, rfl⟩ hE
  obtain ⟨v', hv, dv⟩ := (hfs F1).look hl
  exact ⟨d1.ref_, rfl, dd, gs, v', rfl, hdd, hv, k d w1 F1 v' H1 e1 h1 dv q⟩
end
end DL
set_option Elab.async false
set_option linter.all false
set_option maxRecDepth 100000
set_option maxHeartbeats 1000000
/-! DL13: match on texts; dict displays; tables of the module. -/
namespace DL
open PySem PySem.Spec PyProof.Rows L2
open Evl (Ex ex_l ex_t)

section
variable {X : Cx} {W : WX} {e a b : Expr} {t ta tb : TED} {pos p pos' : Pos} {sts : List Stmt} {s : TSD}
/-! ### match -/
structure PM (X : Cx) (cases : List MatchCase) (t : V → TS) : Prop where
  run : ∀ (pins : List (Addr × Obj)) (s : Shared) (σ : L2.St) (H : Hp) (D : Ends) (v : V) (u : Value) (first : Bool), Inv X pins σ H s → RelV v u → t v D σ H → wpAny (model X.prog X.w) X.A (matchCases cases X.env u first) (SP X pins D) X.xe s
theorem pm_nil : PM X [] (fun _ D σ H => D.nx σ H) := ⟨fun pins s σ H D v u first I r h => wpAny_matchCases_nil ⟨σ, H, I, h⟩⟩
theorem pm_str {m : Str} {j : Nat} {body : List Stmt} {rest : List MatchCase} {tb : TS} {tr : V → TS} (hb : PSs X body tb) (hr : PM X rest tr) :
    PM X (⟨.MatchValue (.Constant (.str m) j p) pos, none, body⟩ :: rest) (fun v D σ H => ∃ z, v = .str z ∧ if z = m then tb D σ H else tr v D σ H) := by
  refine ⟨fun pins s σ H D v u first I r h => ?_⟩
  obtain ⟨z, rfl, h⟩ := h
  have r0 := r
  refine wpAny_matchCases_cons (wpAny_matchPattern_Value (wpAny_Constant_str ?_))
  have I1 : Inv X pins σ H { s with toks := s.toks + 1 } := I.tok _
  refine thn (op_eq pins _ σ H (.str z) (.str m) u (.str m s.toks) (fun b H' => b = .bl (decide (V.str z = V.str m)) ∧ H' = H) I1 r ⟨_, rfl⟩ ⟨rfl, rfl, rfl⟩) fun cv s2 hh => ?_
  obtain ⟨b, H2, I2, rb, eb, eH⟩ := hh
  subst eb eH
  cases rb
  refine wpAny_truthy_bool ?_
  by_cases hz : z = m
  · rw [if_pos hz] at h
    rw [if_pos (show decide (V.str z = V.str m) = true by rw [hz]; simp)]
    show wpAny _ _ (assignInOrder [] []) _ _ _
    refine wpAny_pure ?_
    exact hb.run pins s2 σ H2 D I2 h
  · rw [if_neg hz] at h
    rw [if_neg (show ¬ decide (V.str z = V.str m) = true by simp [hz])]
    exact hr.run pins s2 σ H2 D (.str z) u false I2 r0 h
theorem ps_match {cases : List MatchCase} {te : TE} {t : V → TS} (he : PE X e te) (hm : PM X cases t) : PS X (.Match e cases pos) (fun D σ H => te σ H fun v H1 => t v D σ H1) :=
  ⟨fun pins s σ H D I h => wpAny_Match (thn (he.run pins s σ H _ I h) fun u s1 ⟨v, H1, I1, r1, q1⟩ => hm.run pins s1 σ H1 D v u true I1 r1 q1)⟩
abbrev TMD := D → TSD
structure DM (X : Cx) (W : WX) (cases : List MatchCase) (t : TMD) : Prop where
  ex : ∃ u, PM X cases u ∧ ∀ F0 E, WishOk X.K W F0 E → ∀ F ρ w σ H De Dh d v, At X.K F0 F ρ w σ H → Den X.K F d v → t d E De ρ w → EndS X.K F De Dh → u v Dh σ H
theorem dm_nil : DM X W [] (fun _ _ De ρ w => De.nx ρ w) := ⟨_, pm_nil, fun F0 E hw F ρ w σ H De Dh d v at_ dn hh k => k.nx ρ w F σ H (Evl.Ex.refl _) at_.h at_.r hh⟩
def dmStr (m : Str) (s : TSD) (r : TMD) : TMD := fun d E De ρ w => ∃ z, d = .str z ∧ if z = m then s E De ρ w else r d E De ρ w
theorem dm_str {m : Str} {j : Nat} {body : List Stmt} {rest : List MatchCase} {r : TMD} (hb : DSs X W body s) (hr : DM X W rest r) : DM X W (⟨.MatchValue (.Constant (.str m) j p) pos, none, body⟩ :: rest) (dmStr m s r) := by
  obtain ⟨ub, pb, rb⟩ := hb.ex
  obtain ⟨ur, pr, rr⟩ := hr.ex
  refine ⟨_, pm_str pb pr, fun F0 E hw F ρ w σ H De Dh d v at_ dn hh k => ?_⟩
  obtain ⟨z, rfl, q⟩ := hh
  refine ⟨z, dn.str_, ?_⟩
  by_cases hz : z = m
  · rw [if_pos hz] at q ⊢
    exact rb F0 E hw F ρ w σ H De Dh at_ q k
  · rw [if_neg hz] at q ⊢
    exact rr F0 E hw F ρ w σ H De Dh _ v at_ dn q k
def dMatch (t : TED) (r : TMD) : TSD := fun E De ρ w => t E ρ w fun d w1 => r d E De ρ w1
theorem ds_match {cases : List MatchCase} {r : TMD} (he : DE X W e t) (hm : DM X W cases r) : DS X W (.Match e cases pos) (dMatch t r) := by
  obtain ⟨ue, pe, re⟩ := he.ex
  obtain ⟨um, pm, rm⟩ := hm.ex
  exact ⟨_, ps_match pe pm, fun F0 E hw F ρ w σ H De Dh at_ hh k => re F0 E hw F ρ w σ H _ _ at_ hh fun d w1 F1 v H1 e1 h1 d1 q1 => rm F0 E hw F1 ρ w1 σ H1 De Dh d v (at_.step e1 h1) d1 q1 (k.mono e1)⟩

/-! ### {k: v, ..} -/
abbrev TPD := XD → Rho → Wd → (List (D × D) → Wd → Prop) → Prop
inductive DenP (K : PySem.W.Frag) (F : Hp) : List (D × D) → List (V × V) → Prop
  | nil : DenP K F [] []
  | cons {k v : D} {k' v' : V} {l m} (h1 : Den K F k k') (h2 : Den K F v v') (t : DenP K F l m) : DenP K F ((k, v) :: l) ((k', v') :: m)
theorem DenP.mono {K : PySem.W.Frag} {F F' : Hp} (e : Ex F F') {l : List (D × D)} {m : List (V × V)} (h : DenP K F l m) : DenP K F' l m := by
  induction h with
  | nil => exact .nil
  | cons h1 h2 _ ih => exact .cons (h1.mono e) (h2.mono e) ih
structure DPs (X : Cx) (W : WX) (pos : Pos) (keys : List (Option Expr)) (values : List Expr) (t : TPD) : Prop where
  ex : ∃ trs, PPs X pos keys values trs ∧ ∀ F0 E, WishOk X.K W F0 E → ∀ F ρ w σ H (Qd : List (D × D) → Wd → Prop) (Q : List (V × V) → Hp → Prop), At X.K F0 F ρ w σ H → t E ρ w Qd →
    (∀ ps w' F' vs H', Ex F F' → RelH X.K F' w' H' → DenP X.K F' ps vs → Qd ps w' → Q vs H') → tPairs trs σ H Q
def dpNil : TPD := fun _ _ w Q => Q [] w
def dpCons (tk tv : TED) (r : TPD) : TPD := fun E ρ w Q => tk E ρ w fun k w1 => tv E ρ w1 fun v w2 => r E ρ w2 fun ps w3 => Q ((k, v) :: ps) w3
theorem dps_nil : DPs X W pos [] [] dpNil := ⟨[], pps_nil, fun F0 E hw F ρ w σ H Qd Q at_ hh k => k [] w F [] H (Evl.Ex.refl _) at_.h .nil hh⟩
theorem dps_cons {ks : List (Option Expr)} {vs : List Expr} {r : TPD} (hk : DE X W a ta) (hv : DE X W b tb) (hr : DPs X W pos ks vs r) : DPs X W pos (some a :: ks) (b :: vs) (dpCons ta tb r) := by
  obtain ⟨uk, pk, rk⟩ := hk.ex
  obtain ⟨uv, pv, rv⟩ := hv.ex
  obtain ⟨ur, pr, rr⟩ := hr.ex
  refine ⟨_, pps_cons pk pv pr, fun F0 E hw F ρ w σ H Qd Q at_ hh k => rk F0 E hw F ρ w σ H _ _ at_ hh fun x w1 F1 v1 H1 e1 h1 d1 q1 =>
    rv F0 E hw F1 ρ w1 σ H1 _ _ (at_.step e1 h1) q1 fun y w2 F2 v2 H2 e2 h2 d2 q2 => rr F0 E hw F2 ρ w2 σ H2 _ _ (at_.step (e1.trans e2) h2) q2 fun ps w3 F3 vs H3 e3 h3 d3 q3 =>
      k _ w3 F3 _ H3 ((e1.trans e2).trans e3) h3 (.cons (d1.mono (e2.trans e3)) (d2.mono e3) d3) q3⟩
def kD : Key → D
  | .inl i => .int i
  | .inr x => .str x
def mergeKD (kvs more : List (Key × D)) : List (Key × D) := more.foldl (fun acc kv => putKD acc kv.1 kv.2) kvs
theorem DenKV.merge {K : PySem.W.Frag} {F : Hp} {more : List (Key × D)} {ms : List (Key × V)} (h : DenKV K F more ms) : ∀ {kvs : List (Key × D)} {ls : List (Key × V)}, DenKV K F kvs ls → DenKV K F (mergeKD kvs more) (mergeK ls ms) := by
  induction h with
  | nil => intro kvs ls h; exact h
  | cons hd _ ih => intro kvs ls h; exact ih (h.put hd)
theorem denKV_of {K : PySem.W.Frag} {F : Hp} : ∀ {kvs : List (Key × D)} {vs : List (V × V)}, DenP K F (kvs.map fun kv => (kD kv.1, kv.2)) vs → ∃ ms, DenKV K F kvs ms ∧ vs = ms.map fun kv => (kV kv.1, kv.2)
  | [], _, h => by cases h; exact ⟨[], .nil, rfl⟩
  | (k, d) :: r, _, h => by
    cases h with
    | @cons _ _ k' v' _ _ h1 h2 t =>
      obtain ⟨ms, m1, rfl⟩ := denKV_of t
      refine ⟨(k, v') :: ms, .cons h2 m1, ?_⟩
      have : k' = kV k := by
        cases k with
        | inl i => exact Den.int_ h1
        | inr x => exact Den.str_ h1
      rw [this]; rfl
theorem denKV_len {K : PySem.W.Frag} {F : Hp} {l : List (Key × D)} {m : List (Key × V)} (h : DenKV K F l m) : l.length = m.length := by
  induction h with
  | nil => rfl
  | cons _ _ ih => exact congrArg Nat.succ ih
def dDisp (t : TPD) : TED := fun E ρ w Q => ∀ p, w p = none → t E ρ (wupd w p (.dK [])) fun ps w2 => w2 p = some (.dK []) ∧ ∃ kvs : List (Key × D), ps = kvs.map (fun kv => (kD kv.1, kv.2)) ∧ kvs.length ≤ 15 ∧ Q (.ref p) (wupd w2 p (.dK (mergeKD [] kvs)))
theorem de_disp {keys : List (Option Expr)} {values : List Expr} {t : TPD} (h : DPs X W pos keys values t) (hall : keys.all (·.isSome) = true := by rfl) (hl : keys.length = values.length := by rfl) (h0 : keys ≠ [] := by exact List.cons_ne_nil _ _)
    (h15 : keys.length ≤ 15 := by decide) : DE X W (.Dict keys values pos) (dDisp t) := by
  obtain ⟨u, pp, r⟩ := h.ex
  refine ⟨_, pe_disp pp hall hl h0 h15, fun F0 E hw F ρ w σ H Qd Q at_ hh k p hp => ?_⟩
  have fr := at_.h.fresh hp
  have h1 : RelH X.K F (wupd w p (.dK [])) (upd H p (.dK [])) := at_.h.newW (u := .dK []) hp ⟨[], upd_same, .nil⟩
  refine r F0 E hw F ρ _ σ _ _ _ ⟨at_.e0, h1, at_.r⟩ (hh p fr.2) fun ps w2 F2 vs H2 e2 h2 d2 q2 => ?_
  obtain ⟨hw2, kvs, rfl, hl2, q⟩ := q2
  obtain ⟨g0, ls, g1, g2⟩ := h2.obj p _ hw2
  have : ls = [] := by cases g2; rfl
  subst this
  obtain ⟨ms, m1, rfl⟩ := denKV_of d2
  exact ⟨g1, ms, rfl, by rw [← denKV_len m1]; exact hl2, k (.ref p) _ F2 _ _ e2 (h2.write (u := .dK (mergeKD [] kvs)) g0 ⟨_, upd_same, m1.merge .nil⟩) den_ref q⟩

/-! ### tables of the module -/
structure KTab (K : PySem.W.Frag) (w : World) (d : Addr) (tab : List (Str × D)) : Prop where
  kd : ∃ es n, KDict K w d es n
  look : ∀ z, ∃ r, PySem.W.nsIn K d z = some r ∧ match tab.lookup z with
    | none => r = none
    | some x => ∃ u v, r = some u ∧ RelV v u ∧ ∀ F, Den K F x v
def fInK (d : Addr) (tab : List (Str × D)) : R2D := fun x y w Q => ∃ z, x = .str z ∧ y = .ref d ∧ Q (.bl (tab.lookup z).isSome) w
def fNinK (d : Addr) (tab : List (Str × D)) : R2D := fun x y w Q => ∃ z, x = .str z ∧ y = .ref d ∧ Q (.bl (!(tab.lookup z).isSome)) w
theorem KTab.some_ {K : PySem.W.Frag} {w : World} {d : Addr} {tab : List (Str × D)} (T : KTab K w d tab) (z : Str) : ∃ r, PySem.W.nsIn K d z = some r ∧ r.isSome = (tab.lookup z).isSome := by
  obtain ⟨r, h, q⟩ := T.look z
  refine ⟨r, h, ?_⟩
  cases e : tab.lookup z with
  | none => rw [e] at q; dsimp only at q; rw [q]; rfl
  | some x => rw [e] at q; obtain ⟨u, v, rfl, _⟩ := q; rfl
theorem de_inK {d : Addr} {tab : List (Str × D)} (T : KTab X.K X.w d tab) (ha : DE X W a ta) (hb : DE X W b tb) (hm : behindInMarks .In b = false := by rfl) : DE X W (.Compare a [.In] [b] pos) (dBin (fInK d tab) ta tb) := by
  obtain ⟨es, n, kd⟩ := T.kd
  refine de_cmp (op_in_kd kd) (fun F w H x y d' e' Qd Q r dx dy h k => ?_) ha hb hm
  obtain ⟨z, rfl, rfl, q⟩ := h
  obtain ⟨r', h1, h2⟩ := T.some_ z
  exact ⟨z, r', dx.str_, dy.ref_, h1, k _ w F _ H (Evl.Ex.refl _) r den_bl (by rw [h2]; exact q)⟩
theorem de_notinK {d : Addr} {tab : List (Str × D)} (T : KTab X.K X.w d tab) (ha : DE X W a ta) (hb : DE X W b tb) (hm : behindInMarks .NotIn b = false := by rfl) : DE X W (.Compare a [.NotIn] [b] pos) (dBin (fNinK d tab) ta tb) := by
  obtain ⟨es, n, kd⟩ := T.kd
  refine de_cmp (op_notIn_kd kd) (fun F w H x y d' e' Qd Q r dx dy h k => ?_) ha hb hm
  obtain ⟨z, rfl, rfl, q⟩ := h
  obtain ⟨r', h1, h2⟩ := T.some_ z
  exact ⟨z, r', dx.str_, dy.ref_, h1, k _ w F _ H (Evl.Ex.refl _) r den_bl (by rw [h2]; exact q)⟩
def dGetK (d : Addr) (tab : List (Str × D)) (ta tb : TED) : TED := dBin (fun x y w Q => ∃ z v, x = .ref d ∧ y = .str z ∧ tab.lookup z = some v ∧ Q v w) ta tb
theorem de_getK {d : Addr} {tab : List (Str × D)} (T : KTab X.K X.w d tab) (ha : DE X W a ta) (hb : DE X W b tb) (hs : PlainIx b := by exact fun _ _ => rfl) : DE X W (.Subscript a b pos) (dGetK d tab ta tb) := by
  obtain ⟨ua, pa, ra⟩ := ha.ex
  obtain ⟨ub, pb, rb⟩ := hb.ex
  obtain ⟨es, n, kd⟩ := T.kd
  refine ⟨_, pe_ix ix_kdict pa pb hs, bin_ref (fun F w H x y d' e' Qd Q r dx dy h k => ?_) ra rb⟩
  obtain ⟨z, v, rfl, rfl, hl, q⟩ := h
  obtain ⟨r', h1, h2⟩ := T.look z
  rw [hl] at h2
  obtain ⟨u, v', rfl, rv, dv⟩ := h2
  exact ⟨d, z, v', dx.ref_, dy.str_, ⟨es, n, u, kd.at_, kd.lit, h1, rv⟩, k v w F v' H (Evl.Ex.refl _) r (dv F) q⟩
end
end DL
set_option Elab.async false
set_option linter.all false
set_option maxRecDepth 100000
set_option maxHeartbeats 2000000
/-! DL14: zip(a, b, strict=True) of two tuples of one length. -/
namespace ZS
open PySem RZ
open PySem.Sem (wp)
abbrev IsZipS (h : Heap) (z TI TO : Addr) (f0 : Value) : Prop :=
  h.get? z = some { cls := .type "zip", dict := none, data := .fields #[f0, .bool false, .bool true, .ref TI, .ref TO], slots := #[] }
section
variable {prog : Program} {w : World} {A : Around} {E : Value → Shared → Prop} {s : Shared}
theorem end_item {it l : Addr} {i : Nat} {items} {x : Value} {Q : Option Value → Shared → Prop} (hit : s.heap.IsTupleIter it l i)
    (hl : s.heap.IsTuple l items) (hx : items[i]? = some x)
    (hQ : ∀ h', h'.IsTupleIter it l (i + 1) → Heap.SameBut it s.heap h' → Q (some x) { s with heap := h' }) :
    wpAny (model prog w) A (Builtin.SmallTypes.nextOrEnd (.ref it)) Q E s := by
  unfold Builtin.SmallTypes.nextOrEnd
  exact wpAny_bind (wpAny_attempt (nextOf_tuple_item hit hl hx fun h' a b => wpAny_pure (hQ h' a b)))
theorem end_end {it l : Addr} {i : Nat} {items} {Q : Option Value → Shared → Prop} (hh : A.handled = none) (hit : s.heap.IsTupleIter it l i) (hl : s.heap.IsTuple l items) (hx : items[i]? = none)
    (hQ : ∀ h', Heap.ExtBut it s.heap h' → Q none { s with heap := h' }) : wpAny (model prog w) A (Builtin.SmallTypes.nextOrEnd (.ref it)) Q E s := by
  unfold Builtin.SmallTypes.nextOrEnd
  refine wpAny_bind (wpAny_attempt (nextOf_tuple_end hh hit hl hx fun h' e hk he => ?_))
  obtain ⟨o, ho, hc⟩ := he
  refine wpAny_bind (wpAny_isInstance (T := "StopIteration") (b := true) ⟨o, ho, hc⟩ isSubtype_stop ?_)
  exact wpAny_pure (hQ _ hk)
theorem nextS_item {z TI TO i1 i2 l1 l2 : Addr} {k1 k2 : Nat} {xs ys : Array Value} {x y a b : Value} {Q : Value → Shared → Prop} (D : ZipApart z TI TO i1 i2 l1 l2)
    (hz : IsZipS s.heap z TI TO .none) (hTI : IsPair s.heap TI (.ref i1) (.ref i2)) (hTO : IsPair s.heap TO a b)
    (h1 : s.heap.IsTupleIter i1 l1 k1) (h2 : s.heap.IsTupleIter i2 l2 k2) (hl1 : s.heap.IsTuple l1 xs) (hl2 : s.heap.IsTuple l2 ys) (hx : xs[k1]? = some x) (hy : ys[k2]? = some y)
    (hQ : ∀ h', IsZipS h' z TI TO (rawInt s.heap.objs.size) → IsPair h' TO x y → h'.IsTupleIter i1 l1 (k1 + 1) → h'.IsTupleIter i2 l2 (k2 + 1) → IsPair h' s.heap.objs.size x y → h'.objs.size = s.heap.objs.size + 1 →
      (∀ c o, c ≠ z → c ≠ TO → c ≠ i1 → c ≠ i2 → s.heap.get? c = some o → h'.get? c = some o) → Q (.ref s.heap.objs.size) { s with heap := h' }) :
    wpAny (model prog w) A (Builtin.«zip.__next__» ⟨[.ref z], []⟩) (fun fin s' => ∃ v, fin = .done (.ret v) ∧ Q v s') E s := by
  show wpAny _ _ (field (.ref z) 2 >>= _) _ _ _
  refine wpAny_bind (wpAny_field hz rfl (x := .bool true) rfl ?_)
  show wpAny _ _ (field (.ref z) 3 >>= _) _ _ _
  refine wpAny_bind (wpAny_field hz rfl (x := .ref TI) rfl ?_)
  refine wpAny_bind (wpAny_seqItems hTI rfl ?_)
  show wpAny _ _ (Builtin.SmallTypes.ownedTupleIsFree (.ref z) >>= _) _ _ _
  refine wpAny_bind ?_
  unfold Builtin.SmallTypes.ownedTupleIsFree
  refine wpAny_bind (wpAny_field hz rfl (x := .none) rfl (wpAny_pure ?_))
  simp only [if_true]
  refine wpAny_bind (wpAny_rule ?_)
  refine wpAny_bind (wpAny_field hz rfl (x := .ref TO) rfl ?_)
  refine wpAny_bind (wpAny_setField_rec hz (by simp) fun h₁ hz₁ hs₁ => ?_)
  replace hz₁ : IsZipS h₁ z TI TO .ellipsis := hz₁
  refine wpAny_bind ?_
  simp only [List.zipIdx_cons, List.zipIdx_nil, List.forIn_cons, List.forIn_nil]
  refine wpAny_bind (wpAny_bind (wpAny_onRaise ?_))
  show wpAny _ _ (Builtin.SmallTypes.nextOrEnd (.ref i1)) _ _ _
  refine end_item (h1.extBut hs₁.extBut D.i1z) (hl1.extBut hs₁.extBut D.l1z) hx fun h₂ h1₂ hs₂ => ?_
  have hTO₂ : IsPair h₂ TO a b := hs₂.extBut _ _ D.TOi1 (hs₁.extBut _ _ D.TOz hTO)
  refine wpAny_bind (wpAny_seqItems hTO₂ rfl ?_)
  refine wpAny_bind (wpAny_updateSeq_pair hTO₂ fun h₃ hTO₃ hs₃ => ?_)
  replace hTO₃ : IsPair h₃ TO x b := hTO₃
  refine wpAny_bind (wpAny_letGo (wpAny_pure ?_))
  refine wpAny_bind (wpAny_bind (wpAny_onRaise ?_))
  show wpAny _ _ (Builtin.SmallTypes.nextOrEnd (.ref i2)) _ _ _
  refine end_item (((h2.extBut hs₁.extBut D.i2z).extBut hs₂.extBut D.i12.symm).extBut hs₃.extBut D.TOi2.symm)
    (((hl2.extBut hs₁.extBut D.l2z).extBut hs₂.extBut D.l2i1).extBut hs₃.extBut D.l2TO) hy fun h₄ h2₄ hs₄ => ?_
  have hTO₄ : IsPair h₄ TO x b := hs₄.extBut _ _ D.TOi2 hTO₃
  refine wpAny_bind (wpAny_seqItems hTO₄ rfl ?_)
  refine wpAny_bind (wpAny_updateSeq_pair hTO₄ fun h₅ hTO₅ hs₅ => ?_)
  replace hTO₅ : IsPair h₅ TO x y := hTO₅
  refine wpAny_bind (wpAny_letGo (wpAny_pure (wpAny_pure ?_)))
  refine wpAny_bind (wpAny_seqItems hTO₅ rfl ?_)
  refine wpAny_bind (wpAny_newTuple ?_)
  have hsz : h₅.objs.size = s.heap.objs.size := by rw [hs₅.1, hs₄.1, hs₃.1, hs₂.1, hs₁.1]
  have hz₅ : IsZipS h₅ z TI TO .ellipsis := hs₅.extBut _ _ D.TOz.symm (hs₄.extBut _ _ D.i2z.symm (hs₃.extBut _ _ D.TOz.symm (hs₂.extBut _ _ D.i1z.symm hz₁)))
  have hk₅ : ∀ c o, c ≠ z → c ≠ TO → c ≠ i1 → c ≠ i2 → s.heap.get? c = some o → h₅.get? c = some o := fun c o c1 c2 c3 c4 e =>
    hs₅.extBut _ _ c2 (hs₄.extBut _ _ c4 (hs₃.extBut _ _ c2 (hs₂.extBut _ _ c3 (hs₁.extBut _ _ c1 e))))
  have h1₅ : h₅.IsTupleIter i1 l1 (k1 + 1) := ((h1₂.extBut hs₃.extBut D.TOi1.symm).extBut hs₄.extBut D.i12).extBut hs₅.extBut D.TOi1.symm
  have h2₅ : h₅.IsTupleIter i2 l2 (k2 + 1) := h2₄.extBut hs₅.extBut D.TOi2.symm
  have hzlt : z < h₅.objs.size := Heap.lt_size hz₅
  show wpAny _ _ (Builtin.SmallTypes.ownedTupleHandOut (.ref z) (.ref h₅.objs.size) >>= _) _ _ _
  refine wpAny_bind ?_
  unfold Builtin.SmallTypes.ownedTupleHandOut
  have hz₆ : IsZipS (h₅.push { cls := .type "tuple", data := .seq #[x, y] }) z TI TO .ellipsis := Heap.get?_push_of_some _ hz₅
  refine wpAny_bind (wpAny_setField_rec hz₆ (by simp) fun h₇ hz₇ hs₇ => ?_)
  replace hz₇ : IsZipS h₇ z TI TO (rawInt h₅.objs.size) := hz₇
  refine wpAny_setField_rec hz₇ (by simp) fun h₈ hz₈ hs₈ => ?_
  replace hz₈ : IsZipS h₈ z TI TO (rawInt h₅.objs.size) := hz₈
  have up : ∀ c o, c ≠ z → h₅.get? c = some o → h₈.get? c = some o := fun c o c1 e => hs₈.extBut _ _ c1 (hs₇.extBut _ _ c1 (Heap.get?_push_of_some _ e))
  have hT₈ : IsPair h₈ h₅.objs.size x y := hs₈.extBut _ _ (Nat.ne_of_gt hzlt) (hs₇.extBut _ _ (Nat.ne_of_gt hzlt) (Heap.get?_push_size _ rfl))
  have hz8 : h₈.objs.size = h₅.objs.size + 1 := by rw [hs₈.1, hs₇.1, Heap.size_push]
  rw [hsz] at hz₈ hT₈ hz8
  refine wpAny_pure ⟨_, rfl, ?_⟩
  show Q (.ref h₅.objs.size) _
  rw [hsz]
  exact hQ h₈ hz₈ (up _ _ D.TOz hTO₅) (h1₅.at fun o e => up _ o D.i1z e) (h2₅.at fun o e => up _ o D.i2z e) hT₈ hz8 fun c o c1 c2 c3 c4 e => up c o c1 (hk₅ c o c1 c2 c3 c4 e)
theorem nextS_end {z TI TO i1 i2 l1 l2 : Addr} {k1 k2 : Nat} {xs ys : Array Value} {a b : Value} {Q : Fin → Shared → Prop} (hh : A.handled = none) (D : ZipApart z TI TO i1 i2 l1 l2)
    (hz : IsZipS s.heap z TI TO .none) (hTI : IsPair s.heap TI (.ref i1) (.ref i2)) (hTO : IsPair s.heap TO a b)
    (h1 : s.heap.IsTupleIter i1 l1 k1) (h2 : s.heap.IsTupleIter i2 l2 k2) (hl1 : s.heap.IsTuple l1 xs) (hl2 : s.heap.IsTuple l2 ys) (hx : xs[k1]? = none) (hy : ys[k2]? = none)
    (hE : ∀ h' e, (∀ c o, c ≠ z → c ≠ TO → c ≠ i1 → c ≠ i2 → s.heap.get? c = some o → h'.get? c = some o) → (∃ o, h'.get? e = some o ∧ o.cls = .type "StopIteration") → E (.ref e) { s with heap := h' }) :
    wpAny (model prog w) A (Builtin.«zip.__next__» ⟨[.ref z], []⟩) Q E s := by
  show wpAny _ _ (field (.ref z) 2 >>= _) _ _ _
  refine wpAny_bind (wpAny_field hz rfl (x := .bool true) rfl ?_)
  show wpAny _ _ (field (.ref z) 3 >>= _) _ _ _
  refine wpAny_bind (wpAny_field hz rfl (x := .ref TI) rfl ?_)
  refine wpAny_bind (wpAny_seqItems hTI rfl ?_)
  show wpAny _ _ (Builtin.SmallTypes.ownedTupleIsFree (.ref z) >>= _) _ _ _
  refine wpAny_bind ?_
  unfold Builtin.SmallTypes.ownedTupleIsFree
  refine wpAny_bind (wpAny_field hz rfl (x := .none) rfl (wpAny_pure ?_))
  simp only [if_true]
  refine wpAny_bind (wpAny_rule ?_)
  refine wpAny_bind (wpAny_field hz rfl (x := .ref TO) rfl ?_)
  refine wpAny_bind (wpAny_setField_rec hz (by simp) fun h₁ hz₁ hs₁ => ?_)
  replace hz₁ : IsZipS h₁ z TI TO .ellipsis := hz₁
  refine wpAny_bind ?_
  simp only [List.zipIdx_cons, List.zipIdx_nil, List.forIn_cons, List.forIn_nil]
  refine wpAny_bind (wpAny_bind (wpAny_onRaise ?_))
  show wpAny _ _ (Builtin.SmallTypes.nextOrEnd (.ref i1)) _ _ _
  refine end_end hh (h1.extBut hs₁.extBut D.i1z) (hl1.extBut hs₁.extBut D.l1z) hx fun h₂ hs₂ => ?_
  have hz₂ : IsZipS h₂ z TI TO .ellipsis := hs₂ _ _ D.i1z.symm hz₁
  refine wpAny_bind (wpAny_setField_rec hz₂ (by simp) fun h₃ _ hs₃ => ?_)
  have h2₃ : h₃.IsTupleIter i2 l2 k2 := ((h2.extBut hs₁.extBut D.i2z).extBut hs₂ D.i12.symm).extBut hs₃.extBut D.i2z
  have hl2₃ : h₃.IsTuple l2 ys := ((hl2.extBut hs₁.extBut D.l2z).extBut hs₂ D.l2i1).extBut hs₃.extBut D.l2z
  refine wpAny_bind ?_
  refine wpAny_bind ?_
  rw [show (List.drop 1 [Value.ref i1, Value.ref i2]).zipIdx 1 = [(Value.ref i2, 1)] from rfl, List.forIn_cons]
  refine wpAny_bind (wpAny_bind (end_end hh h2₃ hl2₃ hy fun h₄ hs₄ => ?_))
  rw [if_neg (show ¬ ((none : Option Value).isSome = true) by simp)]
  refine wpAny_pure ?_
  dsimp only
  rw [List.forIn_nil]
  refine wpAny_pure (wpAny_bind (wpAny_rule ?_))
  unfold Builtin.SmallTypes.stopIteration
  refine wpAny_bind ?_
  simp only [newExc, newTuple]
  refine wpAny_bind (wpAny_newObj_type ?_ (by size_fits))
  refine wpAny_bind (m := firstArgMember _ _) (wpAny_of_eq (a := Value.none) (by first | rfl | (simp only [firstArgMember]; rfl)) ?_)
  refine wpAny_newObj_type ?_ (by size_fits)
  simp only [raiseNew]
  refine wpAny_bind (wpAny_handled ?_)
  first | rw [show A.in1.handled = none from hh] | rw [hh]
  refine wpAny_bind (wpAny_pure (wpAny_throw ?_))
  refine hE _ _ (fun c o c1 c2 c3 c4 x => ?_) ⟨_, Heap.get?_push_size _ rfl, rfl⟩
  exact Heap.get?_push_of_some _ (Heap.get?_push_of_some _ (hs₄ _ _ c4 (hs₃.extBut _ _ c1 (hs₂ _ _ c3 (hs₁.extBut _ _ c1 x)))))
theorem pyNextS_item {z TI TO i1 i2 l1 l2 : Addr} {k1 k2 : Nat} {xs ys : Array Value} {x y a b : Value} {Q : Option Value → Shared → Prop} (D : ZipApart z TI TO i1 i2 l1 l2)
    (hz : IsZipS s.heap z TI TO .none) (hTI : IsPair s.heap TI (.ref i1) (.ref i2)) (hTO : IsPair s.heap TO a b)
    (h1 : s.heap.IsTupleIter i1 l1 k1) (h2 : s.heap.IsTupleIter i2 l2 k2) (hl1 : s.heap.IsTuple l1 xs) (hl2 : s.heap.IsTuple l2 ys) (hx : xs[k1]? = some x) (hy : ys[k2]? = some y)
    (hQ : ∀ h', IsZipS h' z TI TO (rawInt s.heap.objs.size) → IsPair h' TO x y → h'.IsTupleIter i1 l1 (k1 + 1) → h'.IsTupleIter i2 l2 (k2 + 1) → IsPair h' s.heap.objs.size x y → h'.objs.size = s.heap.objs.size + 1 →
      (∀ c o, c ≠ z → c ≠ TO → c ≠ i1 → c ≠ i2 → s.heap.get? c = some o → h'.get? c = some o) → Q (some (.ref s.heap.objs.size)) { s with heap := h' }) :
    wpAny (model prog w) A (pyNext (.ref z)) Q E s := by
  have hT : s.TypeIs (.ref z) "zip" := ⟨_, hz, rfl⟩
  unfold pyNext
  exact wpAny_bind (wpAny_attempt (wpAny_callSpecial?_slot (name := Str.ofString "__next__") hT F.slot_zip_next
    (wpAny_call_entry F.slot_zip_next hT F.entry_zip_next
      (nextS_item D hz hTI hTO h1 h2 hl1 hl2 hx hy fun h' a1 a2 a3 a4 a5 a6 a7 => wpAny_pure (hQ h' a1 a2 a3 a4 a5 a6 a7)) (F.args_zip_next_1 _))))
theorem pyNextS_end {z TI TO i1 i2 l1 l2 : Addr} {k1 k2 : Nat} {xs ys : Array Value} {a b : Value} {Q : Option Value → Shared → Prop} (hh : A.handled = none) (D : ZipApart z TI TO i1 i2 l1 l2)
    (hz : IsZipS s.heap z TI TO .none) (hTI : IsPair s.heap TI (.ref i1) (.ref i2)) (hTO : IsPair s.heap TO a b)
    (h1 : s.heap.IsTupleIter i1 l1 k1) (h2 : s.heap.IsTupleIter i2 l2 k2) (hl1 : s.heap.IsTuple l1 xs) (hl2 : s.heap.IsTuple l2 ys) (hx : xs[k1]? = none) (hy : ys[k2]? = none)
    (hQ : ∀ h', (∀ c o, c ≠ z → c ≠ TO → c ≠ i1 → c ≠ i2 → s.heap.get? c = some o → h'.get? c = some o) → Q none { s with heap := h' }) : wpAny (model prog w) A (pyNext (.ref z)) Q E s := by
  have hT : s.TypeIs (.ref z) "zip" := ⟨_, hz, rfl⟩
  unfold pyNext
  refine wpAny_bind (wpAny_attempt (wpAny_callSpecial?_slot (name := Str.ofString "__next__") hT F.slot_zip_next
    (wpAny_call_entry F.slot_zip_next hT F.entry_zip_next (nextS_end hh D hz hTI hTO h1 h2 hl1 hl2 hx hy fun h' e hk he => ?_) (F.args_zip_next_1 _))))
  obtain ⟨o, ho, hc⟩ := he
  refine wpAny_bind (wpAny_isInstance (T := "StopIteration") (b := true) ⟨o, ho, hc⟩ isSubtype_stop ?_)
  exact wpAny_pure (hQ _ hk)
theorem goS {elts : List Expr} {x1} {pos : Pos} {z TI TO T : Addr} {Q : Unit → Shared → Prop} (hz : IsZipS s.heap z TI TO (rawInt T))
    (hQ : ∀ h', IsZipS h' z TI TO .none → Heap.SameBut z s.heap h' → Q () { s with heap := h' }) :
    wpAny (model prog w) A (letOwnedTupleGo (.Tuple elts x1 pos) (.ref z) (.ref T)) Q E s := by
  unfold letOwnedTupleGo
  refine wpAny_bind (wpAny_load hz ?_)
  show wpAny _ _ (if (["enumerate", "zip", "dict_itemiterator", "dict_reverseitemiterator", "odict_iterator", "itertools.zip_longest", "itertools.pairwise"].contains "zip" &&
      (#[rawInt T, .bool false, .bool true, .ref TI, .ref TO] : Array Value)[0]? == some (rawInt T)) = true then _ else _) Q E s
  rw [if_pos (by simp)]
  refine wpAny_bind (wpAny_rule ?_)
  show wpAny _ _ (setField (.ref z) 0 .none) Q E s
  exact wpAny_setField_rec hz (by simp) fun h' hz' hs' => hQ h' hz' hs'
theorem iterS {z TI TO : Addr} {f0 : Value} {Q : Value → Shared → Prop} (hz : IsZipS s.heap z TI TO f0) (h : Q (.ref z) s) : wpAny (model prog w) A (pyIter (.ref z)) Q E s := by
  have hT : s.TypeIs (.ref z) "zip" := ⟨_, hz, rfl⟩
  refine wpAny_pyIter_slot hT F.slot_zip_iter (wpAny_call_entry F.slot_zip_iter hT F.entry_zip_iter ?_ (F.args_zip_iter_1 _))
  show wpAny _ _ (ret (.ref z)) _ _ s
  exact wpAny_pure ⟨_, rfl, "zip", _, hT, F.slot_zip_next.lookup, h⟩

abbrev zS5 (h : Heap) (l1 l2 : Addr) : Heap := (zipTH4 h l1 l2).push { cls := .type "zip", data := .fields #[.none, .bool false, .bool true, .ref (zipTH2 h l1 l2).objs.size, .ref (zipTH3 h l1 l2).objs.size] }
theorem meets_new (l1 l2 : Addr) (xs ys : Array Value) :
    Meets (Builtin.«zip.__new__» ⟨[.type "zip", .ref l1, .ref l2], [("strict", .bool true)]⟩) (fun _ R s => s.heap.IsTuple l1 xs ∧ s.heap.IsTuple l2 ys ∧
      R (.ok (.ret (.ref (zipTH4 s.heap l1 l2).objs.size))) { s with heap := zS5 s.heap l1 l2 }) :=
  .of_wp fun prog w A R s h => by
    obtain ⟨hp, g, d, tk, os⟩ := s; obtain ⟨hl1, hl2, h⟩ := h
    have hsub := sub_zip
    have hL1 : Heap.IsTuple (Shared.heap ⟨hp, g, d, tk, os⟩) l1 xs := hl1
    have hL2 : Heap.IsTuple (Shared.heap ⟨hp.push { cls := .type "tuple_iterator", data := .fields #[.ref l1, .int 0 0] }, g, d, tk, os⟩) l2 ys := Heap.IsTuple.push hl2 _
    wp_walk using wpAny_pyIter_tuple hL1, wpAny_pyIter_tuple hL2
    exact ⟨_, rfl, h⟩

theorem typeCallS (a b : Value) : checkTypeCall "zip" ⟨[a, b], [("strict", .bool true)]⟩ = pure () := by kernel_rfl
theorem newCallS (a b : Value) : checkBuiltinCall "zip.__new__" ⟨[.type "zip", a, b], [("strict", .bool true)]⟩ = pure () := by kernel_rfl
theorem argsS (a b c : Value) : argsOk "object.__init__" ⟨[a, b, c], [("strict", .bool true)]⟩ := by
  unfold argsOk; rw [signature?_of (id := "object.__init__") (n := ['_', '_', 't', 'i', 'n', 'i', '_', '_']) (o := ['t', 'c', 'e', 'j', 'b', 'o']) (by kernel_rfl) F.owner_object]; kernel_rfl
theorem callType_kw {T newId initId : String} {Bn Bi : Builtin} {args : List Value} {kw : List (Str × Value)} {S : Spec} {Q Q₁ : Value → Shared → Prop} (ft : TypeCalled T newId initId)
    (hct : checkTypeCall T ⟨args, kw⟩ = pure ()) (hcn : checkBuiltinCall newId ⟨.type T :: args, kw⟩ = pure ())
    (entryN : entryFor table newId = some Bn) (entryI : entryFor table initId = some Bi) (g : Meets (Bn ⟨.type T :: args, kw⟩) S)
    (h : S A.in1 (wants Q₁ E) s)
    (hnext : ∀ obj s₁, Q₁ obj s₁ → s₁.TypeIs obj T ∧ argsOk initId ⟨obj :: args, kw⟩ ∧ ∃ Si, Meets (Bi ⟨obj :: args, kw⟩) Si ∧ Si A.in1 (wants (fun r s₂ => r = .none ∧ Q obj s₂) E) s₁) :
    wpAny (model prog w) A (call (.type T) args kw) Q E s := by
  obtain ⟨c, tl, hmro⟩ := ft.mro
  have hmade := ft.made
  have hsub := ft.sub
  refine wpAny_call (codeAny_of_tree ?_)
  show wpAny _ _ (callAny (.type T) _) _ _ _
  refine wpAny_pure ⟨Code.quiet_builtin _ (by decide +kernel), codeAny_builtin F.entry_type_call ?_⟩
  rw [Around.under_plain (weight_type_call_type T args kw) (units_type_call_type T args kw)]
  have h1 := ft.notType
  have h2 := ft.canCreate
  repeat (any_goals (first | assumption | wp_step))
  refine codeAny_mono (codeAny_call_builtin ft.plain entryN (wpAny_of_eq hcn (g prog w A.in1 _ s h))) fun r s₁ hr => ?_
  cases r with
  | error e => exact hr
  | ok fl =>
    cases fl with
    | ret obj =>
      obtain ⟨hT, hok, Si, gi, hsi⟩ := hnext _ _ hr
      have hli := ft.init.lookup
      have hbi := ft.init.bind obj
      repeat (any_goals (first | assumption | wp_step))
      refine codeAny_mono (codeAny_call_builtin ft.init.plain entryI (ft.init.check _ _ _ _ _ _ _ _ hT hok (gi prog w A.in1 _ s₁ hsi))) fun r₂ s₂ hr₂ => ?_
      cases r₂ with
      | error e => exact hr₂
      | ok fl₂ =>
        cases fl₂ with
        | ret r =>
          obtain ⟨rfl, hq⟩ := hr₂
          repeat (any_goals (first | assumption | wp_step))
        | _ => exact hr₂.elim
    | _ => exact hr.elim
theorem init_kw {T newId : String} {self a b : Value} {kw : List (Str × Value)} (hl : typeLookup (.type T) "__init__" = pure (some (.builtin "object.__init__")))
    (hm : Bind.madeBy (.type T) = pure (some newId)) (hne : (some newId != some "object.__new__") = true) :
    Meets (Builtin.«object.__init__» ⟨[self, a, b], kw⟩) (fun _ R s => s.TypeIs self T ∧ R (.ok (.ret .none)) s) := by
  refine Meets.of_wp fun prog w A R s hs => ?_
  obtain ⟨hT, hq⟩ := hs
  repeat (any_goals (first | assumption | wp_step))
  exact ⟨_, rfl, hq⟩
theorem callS {l1 l2 : Addr} {xs ys : Array Value} {Q : Value → Shared → Prop} (hl1 : s.heap.IsTuple l1 xs) (hl2 : s.heap.IsTuple l2 ys)
    (h : ∀ h', IsZipS h' (s.heap.objs.size + 4) (s.heap.objs.size + 2) (s.heap.objs.size + 3) .none → IsPair h' (s.heap.objs.size + 2) (.ref s.heap.objs.size) (.ref (s.heap.objs.size + 1)) →
      IsPair h' (s.heap.objs.size + 3) .none .none → h'.IsTupleIter s.heap.objs.size l1 0 → h'.IsTupleIter (s.heap.objs.size + 1) l2 0 → h'.objs.size = s.heap.objs.size + 5 →
      (∀ c o, s.heap.get? c = some o → h'.get? c = some o) → Q (.ref (s.heap.objs.size + 4)) { s with heap := h' }) :
    wpAny (model prog w) A (call (.type "zip") [.ref l1, .ref l2] [("strict", .bool true)]) Q E s := by
  refine callType_kw (Q₁ := fun obj s₁ => s₁.TypeIs obj "zip" ∧ Q obj s₁) F.called_zip (typeCallS _ _) (newCallS _ _) F.entry_zip_new F.entry_object_init
    (meets_new l1 l2 xs ys) ⟨hl1, hl2, ?_⟩ fun obj _ hq => ⟨hq.1, argsS obj _ _, _, init_kw F.called_zip.init.lookup F.called_zip.made (by decide), hq.1, rfl, hq.2⟩
  have z1 : (zipTH1 s.heap l1).objs.size = s.heap.objs.size + 1 := Heap.size_push ..
  have z2 : (zipTH2 s.heap l1 l2).objs.size = s.heap.objs.size + 2 := by rw [Heap.size_push, z1]
  have z3 : (zipTH3 s.heap l1 l2).objs.size = s.heap.objs.size + 3 := by rw [Heap.size_push, z2]
  have z4 : (zipTH4 s.heap l1 l2).objs.size = s.heap.objs.size + 4 := by rw [Heap.size_push, z3]
  have z5 : (zS5 s.heap l1 l2).objs.size = s.heap.objs.size + 5 := by rw [Heap.size_push, z4]
  have g5 : (zS5 s.heap l1 l2).get? (zipTH4 s.heap l1 l2).objs.size = some _ := Heap.get?_push_size _ rfl
  have g4 : (zS5 s.heap l1 l2).get? (zipTH3 s.heap l1 l2).objs.size = some _ := Heap.get?_push_of_some _ (Heap.get?_push_size _ rfl)
  have g3 : (zS5 s.heap l1 l2).get? (zipTH2 s.heap l1 l2).objs.size = some _ := Heap.get?_push_of_some _ (Heap.get?_push_of_some _ (Heap.get?_push_size _ rfl))
  have g2 : (zS5 s.heap l1 l2).get? (zipTH1 s.heap l1).objs.size = some _ := Heap.get?_push_of_some _ (Heap.get?_push_of_some _ (Heap.get?_push_of_some _ (Heap.get?_push_size _ rfl)))
  have g1 : (zS5 s.heap l1 l2).get? s.heap.objs.size = some _ := Heap.get?_push_of_some _ (Heap.get?_push_of_some _ (Heap.get?_push_of_some _ (Heap.get?_push_of_some _ (Heap.get?_push_size _ rfl))))
  have gk : ∀ c o, s.heap.get? c = some o → (zS5 s.heap l1 l2).get? c = some o := fun c o x =>
    Heap.get?_push_of_some _ (Heap.get?_push_of_some _ (Heap.get?_push_of_some _ (Heap.get?_push_of_some _ (Heap.get?_push_of_some _ x))))
  show _ ∧ _
  rw [z2, z3, z4] at g5
  rw [z1, z2] at g3
  rw [z3] at g4
  rw [z1] at g2
  rw [z4]
  exact ⟨⟨_, g5, rfl⟩, h _ g5 g3 g4 ⟨_, g1, rfl, rfl⟩ ⟨_, g2, rfl, rfl⟩ z5 gk⟩
end
open PySem.Spec PyProof.Rows L2
/-- the tuples at a and b, of one length -/
def ItzS (K : PySem.W.Frag) (a b : Addr) : It :=
  ⟨fun i H => ∃ (xs ys : List V) (x y : V), SqT K H a xs ∧ SqT K H b ys ∧ xs[i]? = some x ∧ ys[i]? = some y,
    fun i H v H' => ∃ T x y, v = .ref T ∧ H T = none ∧ H' = upd H T (.tup [x, y]) ∧ (∀ xs, SqT K H a xs → xs[i]? = some x) ∧ ∀ ys, SqT K H b ys → ys[i]? = some y,
    fun i H => ∃ xs ys : List V, SqT K H a xs ∧ SqT K H b ys ∧ (xs.length ≤ i ∧ ys.length ≤ i)⟩
theorem turnS {P : Program} {w : World} {K : PySem.W.Frag} {elts : List Expr} {kk : Nat} {tpos : Pos} {a b z TI TO i1 i2 : Addr} (D : ZipApart z TI TO i1 i2 a b) :
    Turn P w K (.Tuple elts kk tpos) (ItzS K a b) [z, TI, TO, i1, i2] z (fun i h => IsZipS h z TI TO .none ∧ IsPair h TI (.ref i1) (.ref i2) ∧ (∃ x y, IsPair h TO x y) ∧ h.IsTupleIter i1 a i ∧ h.IsTupleIter i2 b i) where
  mem := by simp
  obj := fun i h st c hc => by
    obtain ⟨hz, hTI, ⟨x, y, hTO⟩, ⟨o1, e1, _, d1⟩, ⟨o2, e2, _, d2⟩⟩ := st
    have e' : c = z ∨ c = TI ∨ c = TO ∨ c = i1 ∨ c = i2 := by simpa using hc
    rcases e' with q | q | q | q | q
    · rw [q]; exact ⟨_, hz, fun v q => nomatch q⟩
    · rw [q]; exact ⟨_, hTI, fun v q => nomatch q⟩
    · rw [q]; exact ⟨_, hTO, fun v q => nomatch q⟩
    · rw [q]; exact ⟨o1, e1, fun v q => by rw [d1] at q; cases q⟩
    · rw [q]; exact ⟨o2, e2, fun v q => by rw [d2] at q; cases q⟩
  keep := fun i h h' st k => by
    obtain ⟨hz, hTI, ⟨x, y, hTO⟩, h1, h2⟩ := st
    exact ⟨k z (by simp) _ hz, k TI (by simp) _ hTI, ⟨x, y, k TO (by simp) _ hTO⟩, h1.at fun o q => k i1 (by simp) o q, h2.at fun o q => k i2 (by simp) o q⟩
  item := by
    intro X hP hw hK hc i pins s σ H E I hf st hg
    subst hP hw hK
    obtain ⟨hz, hTI, ⟨x0, y0, hTO⟩, h1, h2⟩ := st
    obtain ⟨xs, ys, x, y, hqx, hqy, hx, hy⟩ := hg
    obtain ⟨its, rv, p, _⟩ := I.tuple hqx
    obtain ⟨its2, rv2, p2, _⟩ := I.tuple hqy
    obtain ⟨u, hu, ru⟩ := rv.get hx
    obtain ⟨u2, hu2, ru2⟩ := rv2.get hy
    have hzl : z < s.heap.objs.size := Heap.lt_size hz
    refine pyNextS_item D hz hTI hTO h1 h2 p p2 (x := u) (y := u2) (by simpa using hu) (by simpa using hu2) fun h' z' TO' h1' h2' hT hsz hk => ?_
    refine ⟨_, rfl, goS (s := { s with heap := h' }) z' fun h'' z'' sb => ?_⟩
    have hT2 : h''.get? s.heap.objs.size = some { cls := .type "tuple", data := .seq #[u, u2] } := (sb.2 _ (Nat.ne_of_gt hzl)).trans hT
    have new : ObjOk X.prog X.w (upd H s.heap.objs.size (.tup [x, y])) h'' s.heap.objs.size (.tup [x, y]) :=
      ⟨by show 2 ≤ sizeLine; decide, [u, u2], .cons ru (.cons ru2 .nil), ⟨_, hT2, rfl, _, rfl⟩⟩
    have I1 : Inv X pins σ (upd H s.heap.objs.size (.tup [x, y])) { s with heap := h'' } :=
      I.turnedNew (t' := s.toks) (ch := [z, TI, TO, i1, i2]) (fun c o hb q => (sb.2 c (fun q' => hb (by simp [q']))).trans (hk c o (fun q' => hb (by simp [q'])) (fun q' => hb (by simp [q'])) (fun q' => hb (by simp [q'])) (fun q' => hb (by simp [q'])) q)) hf (Nat.le_refl _) new
    refine ⟨.ref s.heap.objs.size, _, I1, rfl, ⟨_, x, y, rfl, I.hok.fresh (Nat.le_refl _), rfl, fun l hl => by rw [I.tuple_inj hl hqx]; exact hx, fun l hl => by rw [I.tuple_inj hl hqy]; exact hy⟩, ⟨z'', ?_, ⟨u, u2, ?_⟩, ?_, ?_⟩, fun c hcm => ?_⟩
    · exact (sb.2 _ D.TIz).trans (hk _ _ D.TIz D.TITO D.TIi1 D.TIi2 hTI)
    · exact (sb.2 _ D.TOz).trans TO'
    · exact h1'.at fun o q => (sb.2 _ D.i1z).trans q
    · exact h2'.at fun o q => (sb.2 _ D.i2z).trans q
    · have hlt : c < s.heap.objs.size := by
        have e' : c = z ∨ c = TI ∨ c = TO ∨ c = i1 ∨ c = i2 := by simpa using hcm
        rcases e' with q | q | q | q | q
        · rw [q]; exact hzl
        · rw [q]; exact Heap.lt_size hTI
        · rw [q]; exact Heap.lt_size hTO
        · rw [q]; obtain ⟨_, e1, _⟩ := h1; exact Heap.lt_size e1
        · rw [q]; obtain ⟨_, e2, _⟩ := h2; exact Heap.lt_size e2
      rw [upd_ne (Nat.ne_of_lt hlt)]
      exact (hf c hcm).1
  done := by
    intro X hP hw hK hc i pins s σ H E I hf st hg
    subst hP hw hK
    obtain ⟨hz, hTI, ⟨x0, y0, hTO⟩, h1, h2⟩ := st
    obtain ⟨xs, ys, hqx, hqy, hend⟩ := hg
    obtain ⟨its, rv, p, _⟩ := I.tuple hqx
    obtain ⟨its2, rv2, p2, _⟩ := I.tuple hqy
    have l1 := rv.length
    have l2 := rv2.length
    exact pyNextS_end (I.ok.hd hc) D hz hTI hTO h1 h2 p p2 (by simp; omega) (by simp; omega) fun h' hk => ⟨rfl, I.turnedL (t' := s.toks) (ch := [z, TI, TO, i1, i2]) (fun c o hb q =>
      hk c o (fun q' => hb (by simp [q'])) (fun q' => hb (by simp [q'])) (fun q' => hb (by simp [q'])) (fun q' => hb (by simp [q'])) q) hf⟩
  self := fun A i s Q E st h => iterS st.1 h
def iZipS (K : PySem.W.Frag) (ta : TA) : TI := fun σ H R => ta σ H fun vs H1 => ∃ a b xs ys, vs = [.ref a, .ref b] ∧ SqT K H1 a xs ∧ SqT K H1 b ys ∧ R (ItzS K a b) H1
theorem callWith_typeKw {M : Model} {A : Around} {E : Value → Shared → Prop} {s : Shared} {pos : Pos} {T : String} {env : Env} {e : Expr} {rest : List Expr} {kws : List Keyword} {Q : Value → Shared → Prop}
    (h : wpAny M A (spliced (backTo pos (starEach (e :: rest) env))) (fun vs s₁ => wpAny M A (evalAll ((backToKw pos (keywordEach kws env)).map (·.2)))
      (fun kvs s₂ => wpAny M A (call (.type T) vs (((backToKw pos (keywordEach kws env)).filterMap (·.1)).zip kvs)) Q E s₂) E s₁) E s)
    (he : backTo pos (starEach (e :: rest) env) = (false, eval e env) :: backTo pos (starEach rest env) := by rfl)
    (hplain : (backTo pos (starEach (e :: rest) env)).any (·.1) = false := by rfl)
    (hall : (backToKw pos (keywordEach kws env)).all (·.1.isSome) = true := by rfl)
    (hkw : (backToKw pos (keywordEach kws env)).any (·.1.isNone) = false := by rfl) :
    wpAny M A (callWith pos (.type T) [] (backTo pos (starEach (e :: rest) env)) (backToKw pos (keywordEach kws env))) Q E s := by
  unfold callWith
  refine wpAny_bind (wpAny_holding ?_)
  rw [he] at h ⊢
  refine wpAny_mono (evalArgs_kwB (f := .type T) (Q := fun a s₁ => wpAny M A (call (.type T) a.pos a.kw) Q E s₁) hall h) (fun a s₁ h₁ => wpAny_bind (wpAny_standAt ?_)) fun _ _ x => x
  rw [he] at hplain
  simp only [hplain, hkw, Bool.or_false]
  refine wpAny_bind (wpAny_pure ?_)
  exact wpAny_bind (wpAny_mono h₁ (fun r s₂ hr => wpAny_bind (wpAny_holding (wpAny_point (wpAny_pure hr)))) fun _ _ x => x)
theorem pi_zipS {X : Cx} {e e2 : Expr} {ta : TA} {p pos tpos kp cp : Pos} {elts : List Expr} {kk j : Nat} (hg : Gl X "zip") (hm : X.mg "zip" = none) (ha : PA X [e, e2] ta)
    (hs : starEach [e, e2] X.env = (false, eval e X.env) :: starEach [e2] X.env := by rfl) (hpl : (backTo pos (starEach [e2] X.env)).any (·.1) = false := by rfl) :
    PI X (.Tuple elts kk tpos) (.Call (.Name "zip" p) [e, e2] [⟨some "strict", .Constant (.bool true) j cp, kp⟩] pos) (iZipS X.K ta) := by
  refine ⟨fun pins s σ H R I h => ?_⟩
  have he : backTo pos (starEach [e, e2] X.env) = (false, eval e X.env) :: backTo pos (starEach [e2] X.env) := by rw [hs]; rfl
  refine wpAny_Call_Name_kw (ld_blt I hg hm PyProof.Rows.boot_zip (callWith_typeKw (thn (ha.run pos pins s σ H _ I h) fun us s1 ⟨vs, H1, I1, r1, q1⟩ => PyProof.Rows.kws_cons (wpAny_Constant_bool (PyProof.Rows.kws_nil ?_))) he (by rw [he]; show (false || (backTo pos (starEach [e2] X.env)).any (·.1)) = false; rw [hpl]; rfl)))
  obtain ⟨a, b, xs, ys, ex, hqx, hqy, q⟩ := q1
  subst ex
  cases r1 with
  | cons r rr =>
    cases rr with
    | cons r' rr =>
      cases rr
      cases r
      cases r'
      have fresh5 : ∀ c, c ∈ [s1.heap.objs.size + 4, s1.heap.objs.size + 2, s1.heap.objs.size + 3, s1.heap.objs.size, s1.heap.objs.size + 1] → FpOk X pins H1 c := fun c hcm => by
        have e' : c = s1.heap.objs.size + 4 ∨ c = s1.heap.objs.size + 2 ∨ c = s1.heap.objs.size + 3 ∨ c = s1.heap.objs.size ∨ c = s1.heap.objs.size + 1 := by simpa using hcm
        have hle : s1.heap.objs.size ≤ c := by
          rcases e' with z | z | z | z | z
          · rw [z]; exact Nat.le_add_right _ _
          · rw [z]; exact Nat.le_add_right _ _
          · rw [z]; exact Nat.le_add_right _ _
          · rw [z]; exact Nat.le_refl _
          · rw [z]; exact Nat.le_add_right _ _
        exact I1.fpOk hle (I1.hok.fresh hle)
      obtain ⟨its, rv, p1, _⟩ := I1.tuple hqx
      obtain ⟨its2, rv2, p2, _⟩ := I1.tuple hqy
      obtain ⟨o1, ho1, _⟩ := id p1
      obtain ⟨o2, ho2, _⟩ := id p2
      show wpAny _ _ (call (.type "zip") [.ref a, .ref b] [("strict", .bool true)]) _ _ _
      refine callS (show s1.heap.IsTuple a its.toArray from p1) (show s1.heap.IsTuple b its2.toArray from p2) fun h' hz hTI hTO h1 h2 hsz hk => iterS hz ?_
      have I2 : Inv X pins σ H1 { s1 with heap := h' } := I1.kept (t' := s1.toks) hk
      exact ⟨s1.heap.objs.size + 4, [s1.heap.objs.size + 4, s1.heap.objs.size + 2, s1.heap.objs.size + 3, s1.heap.objs.size, s1.heap.objs.size + 1], _, _, H1, rfl, I2, turnS (PySem.W.ktu_apart s1.heap.objs.size a b (Heap.lt_size ho1) (Heap.lt_size ho2)), ⟨hz, hTI, ⟨_, _, hTO⟩, h1, h2⟩, fresh5, q⟩
end ZS
namespace DL
open PySem PySem.Spec PyProof.Rows L2
open Evl (Ex ex_l ex_t)
def zipD (xs ys : List D) : List D := xs.zipWith (fun x y => .tup [x, y]) ys
theorem zipD_at {xs ys : List D} {i : Nat} {d : D} (h : (zipD xs ys)[i]? = some d) : ∃ x y, xs[i]? = some x ∧ ys[i]? = some y ∧ d = .tup [x, y] := by
  unfold zipD at h
  rw [List.getElem?_zipWith] at h
  cases q : xs[i]? with
  | none => rw [q] at h; simp at h
  | some x =>
    cases q2 : ys[i]? with
    | none => rw [q, q2] at h; simp at h
    | some y => rw [q, q2] at h; cases h; exact ⟨x, y, rfl, rfl, rfl⟩
theorem itd_zipS {K : PySem.W.Frag} {F : Hp} {a b : Addr} {us vs : List V} {ds es : List D} (h1 : SqT K F a us) (d1 : DenL K F ds us) (h2 : SqT K F b vs) (d2 : DenL K F es vs) (hl : ds.length = es.length) : ItD K F (zipD ds es) (ZS.ItzS K a b) where
  go := fun i F' w H hi e r => by
    have hi' : i < ds.length := by simp [zipD, hl] at hi; omega
    have l1 : i < us.length := by rw [← d1.len]; exact hi'
    have l2 : i < vs.length := by rw [← d2.len, ← hl]; exact hi'
    exact ⟨us, vs, us[i], vs[i], ex_t (e.trans r.ex) h1, ex_t (e.trans r.ex) h2, List.getElem?_eq_getElem l1, List.getElem?_eq_getElem l2⟩
  yld := fun i dd F' w H x H' hd e r y => by
    obtain ⟨T, x1, x2, rfl, hT, rfl, hx1, hx2⟩ := y
    obtain ⟨p, q, hp, hq, rfl⟩ := zipD_at hd
    obtain ⟨v1, hv1, dv1⟩ := d1.at hp
    obtain ⟨v2, hv2, dv2⟩ := d2.at hq
    have z1 := hx1 us (ex_t (e.trans r.ex) h1)
    rw [hv1] at z1
    have ez1 : v1 = x1 := Option.some.inj z1
    subst ez1
    have z2 := hx2 vs (ex_t (e.trans r.ex) h2)
    rw [hv2] at z2
    have ez2 : v2 = x2 := Option.some.inj z2
    subst ez2
    have e1 : Ex F' (upd F' T (.tup [v1, v2])) := Evl.Ex.new (r.fresh hT).1
    exact ⟨_, e1, r.newF hT _, den_tup (SqT.of upd_same) (DenL.cons (dv1.mono (e.trans e1)) (DenL.cons (dv2.mono (e.trans e1)) DenL.nil))⟩
  stop := fun F' w H e r => ⟨us, vs, ex_t (e.trans r.ex) h1, ex_t (e.trans r.ex) h2, by simp [zipD, ← d1.len, ← d2.len, hl]⟩
def iZipSD (r : TAD) : TID := fun E ρ w Q => r E ρ w fun xs w1 => ∃ ds es, xs = [.tup ds, .tup es] ∧ ds.length = es.length ∧ Q (zipD ds es) w1
section
variable {X : Cx} {W : WX} {a b : Expr} {r : TAD} {pos : Pos}
theorem di_zipS {p tpos kp cp : Pos} {elts : List Expr} {kk j : Nat} (hm : X.mg "zip" = none) (ha : DA X W [a, b] r) (hg : Gl X "zip" := by rfl)
    (hs : starEach [a, b] X.env = (false, eval a X.env) :: starEach [b] X.env := by rfl) (hpl : (backTo pos (starEach [b] X.env)).any (·.1) = false := by rfl) :
    DI X W (.Tuple elts kk tpos) (.Call (.Name "zip" p) [a, b] [⟨some "strict", .Constant (.bool true) j cp, kp⟩] pos) (iZipSD r) := by
  obtain ⟨u, p, r⟩ := ha.ex
  refine ⟨_, ZS.pi_zipS hg hm p hs hpl, fun F0 E hw F ρ w σ H Qd R at_ hh k => r F0 E hw F ρ w σ H _ _ at_ hh fun xs w1 F1 vs H1 e1 h1 d1 q1 => ?_⟩
  obtain ⟨ds, es, rfl, hl, q⟩ := q1
  obtain ⟨v, v', rfl, dv, dv'⟩ := d1.two
  obtain ⟨a1, us, rfl, g1, g2⟩ := dv.tup_
  obtain ⟨a2, ws, rfl, g3, g4⟩ := dv'.tup_
  exact ⟨a1, a2, us, ws, rfl, ex_t h1.ex g1, ex_t h1.ex g3, k _ w1 F1 _ H1 e1 h1 (itd_zipS g1 g2 g3 g4 hl) q⟩
end
end DL
set_option Elab.async false
set_option linter.all false
set_option maxRecDepth 100000
set_option maxHeartbeats 2000000
/-! DL15: def f(*known): return lambda word: word if word in known else None. -/
namespace LW
open PySem PySem.Spec PyProof.Rows L2 LamX
/-! ### the lambda made: tracked -/
def LamO (f : Addr) (q : Str) (params : Arguments) (body : Expr) (scope : Scope) (cl : List (Str × Addr)) (c' : Addr) : HO :=
  .ext fun h => ∃ (pm ctv : Value), h.get? f = some (PySem.W.kla_obj "<lambda>" q params body scope cl pm c' ctv)
def CelO (c : Addr) (v : Value) : HO := .ext fun h => h.IsCell c (some v)
theorem lamO_at {P : Program} {w : World} {H : Hp} {h : Heap} {f c' : Addr} {q : Str} {params : Arguments} {body : Expr} {scope : Scope} {cl : List (Str × Addr)} (hok : HOk P w H h) (e : H f = some (LamO f q params body scope cl c')) :
    ∃ (pm ctv : Value), h.get? f = some (PySem.W.kla_obj "<lambda>" q params body scope cl pm c' ctv) := by
  have x : ObjOk P w H h f (.ext fun h => ∃ (pm ctv : Value), h.get? f = some (PySem.W.kla_obj "<lambda>" q params body scope cl pm c' ctv)) := hok f _ e
  exact x.1
theorem celO_at {P : Program} {w : World} {H : Hp} {h : Heap} {c : Addr} {v : Value} (hok : HOk P w H h) (e : H c = some (CelO c v)) : h.IsCell c (some v) := by
  have x : ObjOk P w H h c (.ext fun h => h.IsCell c (some v)) := hok c _ e
  exact x.1
theorem codeO_rec {P : Program} {w : World} {H : Hp} {h : Heap} {c : Addr} {q : Str} (hok : HOk P w H h) (e : H c = some (CodeO c q)) : h.CodeRec (.ref c) q := by
  obtain ⟨⟨oc, vs, t, hoc, hd, hv⟩, _, _⟩ := hok c _ e
  exact ⟨c, oc, vs, t, rfl, hoc, hd, hv⟩
section
variable {X : Cx} {pins : List (Addr × Obj)} {σ : L2.St} {H : Hp} {s : Shared}
theorem inv_lam {q : Str} {params : Arguments} {body : Expr} {scope : Scope} {cl : List (Str × Addr)} {c' : Addr} {pm ctv : Value} {t' : Nat} (I : Inv X pins σ H s) :
    Inv X pins σ (upd H s.heap.objs.size (LamO s.heap.objs.size q params body scope cl c')) { s with heap := s.heap.push (PySem.W.kla_obj "<lambda>" q params body scope cl pm c' ctv), toks := t' } := by
  refine I.laid (a := s.heap.objs.size) (fun b u e => Heap.get?_push_of_some _ e) (Nat.le_refl _) ?_
  have e : (s.heap.push (PySem.W.kla_obj "<lambda>" q params body scope cl pm c' ctv)).get? s.heap.objs.size = some (PySem.W.kla_obj "<lambda>" q params body scope cl pm c' ctv) := Heap.get?_push_size _ rfl
  exact ⟨⟨pm, ctv, e⟩, ⟨_, e⟩, fun h1 h2 ⟨p, t, z⟩ st => ⟨p, t, st _ z⟩⟩
/-- a table of code objects of the name q, each of which G -/
def TabG (H : Hp) (P : Addr) (q : Str) (G : Addr → Prop) : Prop := ∃ ps : Array Value, H P = some (.tbl ps) ∧ TriplesOk ps.toList ∧ ∀ (pos : Pos) (cv : Value), codeAmong pos ps.toList = some cv → ∃ c, cv = .ref c ∧ H c = some (CodeO c q) ∧ G c
theorem TabG.ext {H H' : Hp} {P : Addr} {q : Str} {G G' : Addr → Prop} (t : TabG H P q G) (e : ∀ b o, H b = some o → H' b = some o) (g : ∀ c, G c → G' c) : TabG H' P q G' := by
  obtain ⟨ps, a1, a2, a3⟩ := t
  exact ⟨ps, e _ _ a1, a2, fun pos cv h => by
    obtain ⟨c, h1, h2, h3⟩ := a3 pos cv h
    exact ⟨c, h1, e _ _ h2, g c h3⟩⟩
/-- all but the table at P stays -/
def ExtP (P : Addr) (H H' : Hp) : Prop := ∀ b o, H b = some o → b ≠ P → H' b = some o
theorem ExtP.trans {P : Addr} {H H1 H2 : Hp} (a : ExtP P H H1) (b : ExtP P H1 H2) : ExtP P H H2 := fun c o e n => b c o (a c o e n) n
theorem lam_make3 {G : Addr → Prop} {c P : Addr} {params : Arguments} {body : Expr} {scope : Scope} {pos : Pos} {E : Value → Shared → Prop} {Q : Value → Shared → Prop} (I : Inv X pins σ H s) (TB : TabB X.base X.mg c P) (hcode : X.env.code = .ref c)
    (hT : TabG H P (X.env.qual ++ "<lambda>") G) (hdef : defaultsOf params X.env = ([], [])) (hfree : ∀ y ∈ scope.names, y.2 = .free → ∃ c, X.env.cells.lookup y.1 = some c)
    (h : ∀ (f c' : Addr) (H1 : Hp) (s' : Shared), Inv X pins σ H1 s' → ExtP P H H1 → (∀ b, H1 b = none → H b = none) → TabG H1 P (X.env.qual ++ "<lambda>") (fun c => G c ∨ H c = none) → H f = none → f ≠ P → (G c' ∨ H c' = none) →
      H1 f = some (LamO f (X.env.qual ++ "<lambda>") params body scope (cloFrom X.env.cells scope.names []) c') → H1 c' = some (CodeO c' (X.env.qual ++ "<lambda>")) → Q (.ref f) s') :
    wpAny (model X.prog X.w) X.A (eval (.Lambda params body scope pos) X.env) Q E s := by
  obtain ⟨ps, hP, ht, ha⟩ := hT
  refine PySem.W.kla_eval hdef ?_
  have bP : s.heap.BuiltinsAt X.mg P := TB.bm.keeps I.bk
  have hP' : s.heap.get? P = some { cls := .none, data := .fields ps } := I.hok P _ hP
  have up : ∀ {H : Hp} {a b : Addr} {o : HO}, upd H a o b = none → H b = none := fun {H a b o} e => by
    unfold upd at e
    split at e
    · cases e
    · exact e
  cases hc : codeAmong pos ps.toList with
  | none =>
    refine PySem.W.kla_makeFunction (mg := X.mg) (c := c) (P := P) (ps := ps) (closure_ok hfree) I.ok.glob (I.mod.glob.keeps I.bk) hcode (TB.code.keeps I.bk) hP' ht hc TB.gP bP fun c' ctv h' tk hx hge hlt hrec htb => ?_
    obtain ⟨c2, oc, vs, t, e2, hoc, hd, hv⟩ := hrec
    cases e2
    have hsz : s.heap.objs.size ≤ h'.objs.size := Nat.le_trans hge (Nat.le_of_lt hlt)
    have nC : H c' = none := I.hok.fresh hge
    have I1 := inv_table (t' := tk) (more := #[rawInt pos.line, rawInt pos.col, .ref c']) (h' := h') I hP hx htb hge ⟨oc, vs, t, hoc, hd, hv⟩
    have I2 := inv_lam (q := X.env.qual ++ "<lambda>") (params := params) (body := body) (scope := scope) (cl := cloFrom X.env.cells scope.names []) (c' := c') (pm := (X.mg "__name__").getD .none) (ctv := ctv) (t' := tk) I1
    have eL : (ps ++ #[rawInt pos.line, rawInt pos.col, .ref c']).toList = ps.toList ++ [rawInt pos.line, rawInt pos.col, .ref c'] := by simp
    have cne : P ≠ c' := ne_of_none hP nC
    have pne : P ≠ h'.objs.size := Nat.ne_of_lt (Nat.lt_of_lt_of_le (Heap.lt_size hP') hsz)
    have cn2 : c' ≠ h'.objs.size := Nat.ne_of_lt hlt
    have nF : H h'.objs.size = none := I.hok.fresh hsz
    refine h h'.objs.size c' _ _ I2 (fun b o e n => ?_) (fun b e => up (up (up e))) ⟨_, by rw [upd_ne pne, upd_ne cne, upd_same], by rw [eL]; exact PySem.TriplesOk_snoc _ _ _ _ ht, fun p' cv hcv => ?_⟩ nF (Ne.symm pne) (.inr nC) upd_same (by rw [upd_ne cn2, upd_same])
    · rw [upd_ne (ne_of_none e nF), upd_ne (ne_of_none e nC), upd_ne n]
      exact e
    · rw [eL] at hcv
      rcases among_app _ ht hcv with z | z
      · obtain ⟨c0, e1, e2, gg⟩ := ha p' cv z
        refine ⟨c0, e1, ?_, .inl gg⟩
        rw [upd_ne (ne_of_none e2 nF), upd_ne (ne_of_none e2 nC), upd_ne (fun z => codeO_ne ps (Option.some.inj (e2.symm.trans (by rw [z]; exact hP))))]
        exact e2
      · exact ⟨c', z, by rw [upd_ne cn2, upd_same], .inr nC⟩
  | some cv =>
    obtain ⟨c', e, hco, gco⟩ := ha pos cv hc
    subst e
    refine PySem.W.kla_makeFunctionHit (mg := X.mg) (c := c) (P := P) (ps := ps) (closure_ok hfree) I.ok.glob (I.mod.glob.keeps I.bk) hcode (TB.code.keeps I.bk) hP' ht hc bP fun ctv h' tk hx hsz => ?_
    have I1 : Inv X pins σ H { s with heap := h', toks := tk } := I.kept hx
    have I2 := inv_lam (q := X.env.qual ++ "<lambda>") (params := params) (body := body) (scope := scope) (cl := cloFrom X.env.cells scope.names []) (c' := c') (pm := (X.mg "__name__").getD .none) (ctv := ctv) (t' := tk) I1
    have pne : P ≠ h'.objs.size := Nat.ne_of_lt (Nat.lt_of_lt_of_le (Heap.lt_size hP') hsz)
    have nF : H h'.objs.size = none := I.hok.fresh hsz
    refine h h'.objs.size c' _ _ I2 (fun b o e n => ?_) (fun b e => up e) ⟨ps, by rw [upd_ne pne]; exact hP, ht, fun p' cv hcv => ?_⟩ nF (Ne.symm pne) (.inl gco) upd_same (by rw [upd_ne (ne_of_none hco nF)]; exact hco)
    · rw [upd_ne (ne_of_none e nF)]
      exact e
    · obtain ⟨c0, e1, e2, gg⟩ := ha p' cv hcv
      exact ⟨c0, e1, by rw [upd_ne (ne_of_none e2 nF)]; exact e2, .inl gg⟩
end
/-! ### something that stands is tracked from now on -/
theorem HOk.track {P : Program} {w : World} {H : Hp} {h : Heap} {c : Addr} {o : HO} (x : HOk P w H h) (hn : H c = none) (new : ObjOk P w (upd H c o) h c o) : HOk P w (upd H c o) h := fun b u e => by
  by_cases hb : b = c
  · subst hb
    rw [upd_same] at e
    cases e
    exact new
  · rw [upd_ne hb] at e
    exact (x b u e).stay (fun d v hd z => z) (fun d hd => by rw [upd_ne (ne_of_none hd hn)]; exact hd) (fun d xs hd => by rw [upd_ne (ne_of_none hd hn)]; exact hd)
theorem Un.track {fs ex : List Addr} {H H1 : Hp} {h h1 : Heap} {c : Addr} {o : HO} (u : Un fs ex H H1 h h1) (hc : h.get? c = none) (hn : H1 c = none) : Un fs ex H (upd H1 c o) h h1 where
  keep := u.keep
  slot := u.slot
  free := fun b ob q n hx => by
    rw [upd_ne (fun z => by rw [z, hc] at q; cases q)]
    exact u.free b ob q n hx
  there := u.there
  tups := fun b xs q => by rw [upd_ne (ne_of_none (u.tups b xs q) hn)]; exact u.tups b xs q
  frzs := fun b ob v q => by rw [upd_ne (ne_of_none (u.frzs b ob v q) hn)]; exact u.frzs b ob v q
  tbls := fun b ps q => by
    obtain ⟨m, e⟩ := u.tbls b ps q
    exact ⟨m, by rw [upd_ne (ne_of_none e hn)]; exact e⟩

/-! ### the def -/
structure LTxt (params : Arguments) (body : Expr) (scope : Scope) : Prop where
  bod : ∃ (p1 p2 p3 p4 p5 p6 : Pos) (j : Nat), body = .IfExp (.Compare (.Name "word" p1) [.In] [.Name "known" p2] p3) (.Name "word" p4) (.Constant .none j p5) p6
  kind : scope.kind = .function
  co : scope.isCoroutine = false
  gen : scope.isGenerator = false
  wl : scope.names.lookup ("word" : Str) = some .local
  kf : scope.names.lookup ("known" : Str) = some .free
  cel : ∀ y ∈ scope.names, y.2 ≠ .cell
  fre : ∀ y ∈ scope.names, y.2 = .free → y.1 = ("known" : Str)
  clo : ∀ c : Addr, cloFrom [(("known" : Str), c)] scope.names [] = [(("known" : Str), c)]
  bnd : ∀ (q : Str) (cl : List (Str × Addr)) (pm cv ctv u : Value), bindArgs (PySem.W.kla_fn "<lambda>" q params body scope cl pm cv ctv) ⟨[u], []⟩ = pure [(("word" : Str), u)]
  dfl : ∀ env : Env, defaultsOf params env = ([], [])
/-- what a call of the def leaves: the lambda at f, its cell, the tuple of the texts -/
structure LamAt (N : Addr → Prop) (G : Addr → Prop) (H : Hp) (q : Str) (params : Arguments) (body : Expr) (scope : Scope) (f : Addr) (vs : List V) : Prop where
  ex : ∃ p c0 c', N p ∧ N c0 ∧ (G c' ∨ N c') ∧ H p = some (.tup vs) ∧ H c0 = some (CelO c0 (.ref p)) ∧ H c' = some (CodeO c' q) ∧ H f = some (LamO f q params body scope [(("known" : Str), c0)] c')
section
variable {P : Program} {w : World} {K : PySem.W.Frag} {mg : Str → Option Value} {base : Heap} {k : Nat} {f : Addr} {name qual : Str} {params : Arguments} {scope : Scope} {dV kV doc pm cdv ct oc : Value} {an od : Option Addr} {osl : Array (Option Value)}
  {lp : Arguments} {lb : Expr} {ls : Scope} {lpos rpos : Pos} {c Pt : Addr}
def spWo (q : Str) (lp : Arguments) (lb : Expr) (ls : Scope) (Pt : Addr) : Sp := fun vs H Q _ => vs.length ≤ sizeLine ∧ ∃ G, TabG H Pt q G ∧
  ∀ (g : Addr) (H2 : Hp), ExtP Pt H H2 → TabG H2 Pt q (fun c => G c ∨ H c = none) → H g = none → g ≠ Pt → LamAt (fun c => H c = none) G H2 q lp lb ls g vs → Q (.ref g) H2
theorem wordof_fn (lk : K.lookup f = some ⟨oc, od, .func (PySem.W.fnOf name qual params [.Return (some (.Lambda lp lb ls lpos)) rpos] scope dV kV doc pm an cdv ct), osl⟩) (hcd : PySem.W.codeIn K cdv qual = true) (S : FnScope ["known"] ["known"] scope) (hnm : scope.names = [(("known" : Str), NameKind.cell)])
    (hb : ∀ rest : List Value, bindArgs (PySem.W.fnOf name qual params [.Return (some (.Lambda lp lb ls lpos)) rpos] scope dV kV doc pm an cdv ct) ⟨rest, []⟩ = (newTuple rest >>= fun t => pure [(("known" : Str), t)])) (L : LTxt lp lb ls) (TB : TabB base mg c Pt) (hcode : cdv = .ref c) :
    FnR P w K mg base (L2.CX P w) (k + 1) f (spWo (qual ++ ".<locals>." ++ "<lambda>") lp lb ls Pt) := by
  intro A outer s H us vs Q E hr e0 r ⟨hz, G, hT, hq⟩
  subst hcode
  have KX : K.In s.heap := e0.mod.kin.keeps fun b o e => (e0.bs b o e).1
  have hn : H s.heap.objs.size = none := e0.hok.fresh (Nat.le_refl _)
  have hzu : us.length ≤ sizeLine := by rw [← r.length]; exact hz
  refine codeAny_call_function hr.depth (KX _ _ lk) rfl S.co S.gen rfl (PySem.W.codeRec_of KX hcd) ?_
  rw [hb us]
  refine wpAny_bind (wpAny_newTuple (wpAny_pure ?_) hzu)
  have new : ObjOk P w (upd H s.heap.objs.size (.tup vs)) (s.heap.push ({ cls := .type "tuple", data := .seq us.toArray } : Obj)) s.heap.objs.size (.tup vs) := ⟨hz, us, r, ⟨_, Heap.get?_push_size _ rfl, rfl, _, rfl⟩⟩
  have un := StX.un_laid (fs := frs outer) (s := s) (o := ({ cls := .type "tuple", data := .seq us.toArray } : Obj)) (u := .tup vs) hn
  have e2 := StX.env0_laid e0 new
  generalize hs2 : ({ s with heap := s.heap.push ({ cls := .type "tuple", data := .seq us.toArray } : Obj) } : Shared) = s2 at e2
  generalize hT2 : s.heap.objs.size = T at *
  have un2 : Un (frs outer) [] H (upd H T (.tup vs)) s.heap s2.heap := by rw [← hs2]; exact un
  have ho2 : s2.os = s.os := by rw [← hs2]
  have hsz2 : s2.heap.objs.size = T + 1 := by rw [← hs2, ← hT2]; exact Heap.size_push ..
  have lim : s2.heap.NoLimit := e0.mod.nolimit.keeps fun b o e => (e2.bs b o e).1
  have r2 : Vals [V.ref T] [Value.ref T] := .cons rfl .nil
  have hkind : ∀ y ∈ [(("known" : Str), Value.ref T)], scope.names.lookup y.1 = some .local ∨ (scope.names.lookup y.1 = some .cell ∧ ((cellsFrom (s2.heap.objs.size + 1) scope.names []).lookup y.1).isSome = true) := fun y hy => by
    rcases S.par y.1 (by simp at hy ⊢; rw [hy]) with q | q
    · exact .inl q
    · exact .inr ⟨q, PySem.W.cellsFrom_some _ _ _ (.inl q)⟩
  refine wpAny_newFunctionEnv_cells (s := s2) S.kind hkind fun env he s1 x => ?_
  subst he
  refine ⟨lim.keeps x.toInCall.keep, codeAny_func ?_⟩
  have I : Inv (cxOf (L2.CX P w) P w K mg base ["known"] qual scope f (.ref c) A outer s2 (upd H T (.tup vs)) E) [] (start ["known"] [V.ref T]) (upd H T (.tup vs)) s1 := inv_start S hr.hd e2 rfl r2 x
  have hcl : (cxOf (L2.CX P w) P w K mg base ["known"] qual scope f (.ref c) A outer s2 (upd H T (.tup vs)) E).env.cells = [(("known" : Str), s2.heap.objs.size + 1)] := by
    show cellsFrom (s2.heap.objs.size + 1) scope.names [] = _
    rw [hnm]
    rfl
  have hTn : T ≠ Pt := fun z => by
    obtain ⟨ps, a1, _⟩ := hT
    rw [z] at hn
    rw [a1] at hn
    cases hn
  have hT' : TabG (upd H T (.tup vs)) Pt (qual ++ ".<locals>." ++ "<lambda>") G := hT.ext (fun b o e => by rw [upd_ne (ne_of_none e hn)]; exact e) fun _ z => z
  have upN : ∀ {b : Addr}, upd H T (.tup vs) b = none → H b = none := fun {b} e => by
    unfold upd at e
    split at e
    · cases e
    · exact e
  show wpAny _ _ (execs _ _) _ _ _
  refine wpAny_execs_cons (wpAny_Return_some (lam_make3 I TB rfl hT' (L.dfl _) (fun y hy e => ⟨_, by rw [hcl, L.fre y hy e]; rfl⟩) fun g c' H1 s' J hx hfr t1 hg hgP gc' hl hc' => ?_))
  rw [hcl, L.clo] at hl
  have hH : (cxOf (L2.CX P w) P w K mg base ["known"] qual scope f (.ref c) A outer s2 (upd H T (.tup vs)) E).env.cells.lookup ("known" : Str) = some (s2.heap.objs.size + 1) := by rw [hcl]; rfl
  -- the cell
  have hcn : H1 (s2.heap.objs.size + 1) = none := J.freeC "known" _ hH
  have hcv : s'.heap.IsCell (s2.heap.objs.size + 1) (some (.ref T)) := by
    obtain ⟨m, hm, hlk⟩ := J.loc
    obtain ⟨u, ru, lo⟩ := hlk 0 "known" (V.ref T) rfl rfl (by
      show Vis scope "known"
      refine .inr (.inl ?_)
      rw [hnm]; rfl)
    obtain rfl : u = Value.ref T := ru
    rcases lo with ⟨z, _⟩ | ⟨_, c0, hc0, hv⟩
    · have z' : scope.names.lookup ("known" : Str) = some .local := z
      rw [hnm] at z'
      cases z'
    · rw [hH] at hc0
      cases hc0
      exact hv
  have hgc : g ≠ s2.heap.objs.size + 1 := fun z => by rw [z, hcn] at hl; cases hl
  have hTc : T ≠ s2.heap.objs.size + 1 := by rw [hsz2]; omega
  have h1T : H1 T = some (.tup vs) := hx T _ upd_same hTn
  have hcell : s.heap.get? (s2.heap.objs.size + 1) = none := Heap.get?_none_of_le (by rw [hsz2, hT2]; omega)
  have hcH : H (s2.heap.objs.size + 1) = none := by
    have := hfr _ hcn
    rw [upd_ne (Ne.symm hTc)] at this
    exact this
  refine ⟨.ref g, upd H1 (s2.heap.objs.size + 1) (CelO (s2.heap.objs.size + 1) (.ref T)), J.os.trans ho2, J.bare, Un.track (un2.trans J.base) hcell hcn, HOk.track J.hok hcn ?_, rfl, ?_⟩
  · obtain ⟨o, e1, e2'⟩ := hcv
    exact ⟨⟨o, e1, e2'⟩, ⟨o, e1⟩, fun h1 h2 ⟨o', a, b⟩ st => ⟨o', st _ a, b⟩⟩
  · have xt : ExtP Pt H (upd H1 (s2.heap.objs.size + 1) (CelO (s2.heap.objs.size + 1) (.ref T))) := fun b o e n => by
      rw [upd_ne (ne_of_none e hcH)]
      exact hx b o (by rw [upd_ne (ne_of_none e hn)]; exact e) n
    have hgH : H g = none := by
      have : T ≠ g := fun z => by rw [z, upd_same] at hg; cases hg
      rw [upd_ne (Ne.symm this)] at hg
      exact hg
    refine hq g _ xt (t1.ext (fun b o e => by rw [upd_ne (ne_of_none e hcn)]; exact e) fun c z => z.imp id upN) hgH hgP ⟨T, s2.heap.objs.size + 1, c', hn, hcH, gc'.imp id upN, ?_, upd_same, ?_, ?_⟩
    · rw [upd_ne hTc]; exact h1T
    · rw [upd_ne (ne_of_none hc' hcn)]; exact hc'
    · rw [upd_ne hgc]; exact hl
end
end LW
set_option Elab.async false
set_option linter.all false
set_option maxRecDepth 100000
set_option maxHeartbeats 2000000
/-! DL16: word_of's lambda called; the D-level rules. -/
namespace LW
open PySem PySem.Spec PyProof.Rows L2 LamX
theorem strsAre_of : ∀ {tx : List Str} {us : List Value}, Vals (tx.map V.str) us → StrsAre us tx
  | [], [], .nil => .nil
  | x :: r, u :: us, .cons h t => by
    obtain ⟨tk, rfl⟩ := h
    exact .cons x tk (strsAre_of t)
section
variable {P : Program} {w : World} {K : PySem.W.Frag} {mg : Str → Option Value} {base : Heap} {CX : CXT} {lp : Arguments} {lb : Expr} {ls : Scope} {g : Addr} {q : Str}
theorem lam_fn (L : LTxt lp lb ls) {A : Around} {outer : List Env} {s : Shared} {H : Hp} {u : Value} {x : Str} {tx : List Str} {Q : VK} {E : XK} (hr : Room 1 A) (e0 : Env0 P w K mg base A outer s H)
    (ex : ∃ p c0 c', H p = some (.tup (tx.map V.str)) ∧ H c0 = some (CelO c0 (.ref p)) ∧ H c' = some (CodeO c' q) ∧ H g = some (LamO g q lp lb ls [(("known" : Str), c0)] c')) (ru : RelV (V.str x) u)
    (hq : Q (if tx.any (· == x) = true then .str x else .non) H) : codeAny (model P w) A (.call (.ref g) ⟨[u], []⟩) (CR CX outer P w H s Q E) s := by
  obtain ⟨p, c0, c', hp, hc, hco, hg⟩ := ex
  obtain ⟨tk, rfl⟩ := ru
  obtain ⟨pm, ctv, of⟩ := lamO_at e0.hok hg
  have hcell := celO_at e0.hok hc
  have hrec := codeO_rec e0.hok hco
  obtain ⟨hz, its, rv, ob, hob, hcl, n, hd⟩ := e0.hok p _ hp
  have hT : IsTup s.heap p its.toArray := ⟨ob, hob, hcl, n, hd⟩
  obtain ⟨p1, p2, p3, p4, p5, p6, j, rfl⟩ := L.bod
  have lim : s.heap.NoLimit := e0.mod.nolimit.keeps fun b o e => (e0.bs b o e).1
  refine PySem.W.kla_callFunE hr.depth of rfl L.co L.gen rfl hrec ?_
  rw [L.bnd]
  refine wpAny_pure (wpAny_newFunctionEnv L.cel (fun y hy => by simp at hy; rw [hy]; exact L.wl) (fun h₁ hns hsb => ⟨lim.fresh _ hsb, ?_⟩) L.kind)
  have kp : ∀ b o, s.heap.get? b = some o → h₁.get? b = some o := fun b o e => hsb.extBut b o (Nat.ne_of_lt (Heap.lt_size e)) (Heap.get?_push_of_some _ e)
  refine PySem.W.kla_codeExpr ?_
  have hm : (fun y => List.lookup y [(("word" : Str), Value.str x tk)].reverse) ("word" : Str) = some (Value.str x tk) := by rfl
  refine wpAny_IfExp (wpAny_isTrue_Compare1 ?_ rfl)
  refine wpAny_Name (wpAny_loadName_local L.kind L.wl hns hm ?_) (by decide)
  refine wpAny_Name (wpAny_loadName_free (c := c0) (v := .ref p) L.kind L.kf rfl (hcell.keeps kp) ?_) (by decide)
  refine in_tuple_strs (items := its.toArray) (ys := tx) (hT.keeps kp) (by simpa using strsAre_of rv) ?_
  refine wpAny_truthy_bool ?_
  cases hb : tx.any (· == x) with
  | true =>
    rw [if_pos rfl]
    refine wpAny_Name (wpAny_loadName_local L.kind L.wl hns hm ?_) (by decide)
    rw [hb, if_pos rfl] at hq
    exact ⟨.str x, H, rfl, e0.bare, Un.kept kp, e0.hok.kept kp, ⟨tk, rfl⟩, hq⟩
  | false =>
    rw [if_neg (by decide)]
    refine wpAny_Constant_none ?_
    rw [hb, if_neg (by decide)] at hq
    exact ⟨.non, H, rfl, e0.bare, Un.kept kp, e0.hok.kept kp, rfl, hq⟩
end
end LW
namespace DL
open PySem PySem.Spec PyProof.Rows L2 LamX LW
open Evl (Ex ex_l ex_t)
/-- the table of the lambda's code objects, in the world -/
def TbW (w : Wd) (P : Addr) (q : Str) : Prop := ∃ ps : Array Value, w P = some (.raw (.tbl ps)) ∧ TriplesOk ps.toList ∧ ∀ (pos : Pos) (cv : Value), codeAmong pos ps.toList = some cv → ∃ c, cv = .ref c ∧ w c = some (.raw (CodeO c q))
/-- the lambda at g of the texts tx, in the world -/
def LamW (w : Wd) (q : Str) (lp : Arguments) (lb : Expr) (ls : Scope) (g : Addr) (tx : List Str) : Prop :=
  ∃ p c0 c', w p = some (.raw (.tup (tx.map V.str))) ∧ w c0 = some (.raw (CelO c0 (.ref p))) ∧ w c' = some (.raw (CodeO c' q)) ∧ w g = some (.raw (LamO g q lp lb ls [(("known" : Str), c0)] c'))
def ExtW (P : Addr) (w w' : Wd) : Prop := ∀ a o, w a = some o → a ≠ P → w' a = some o
theorem ExtW.of {P : Addr} {w w' : Wd} (h : WLe w w') : ExtW P w w' := fun a o e _ => h a o e
theorem ExtW.trans {P : Addr} {w w1 w2 : Wd} (a : ExtW P w w1) (b : ExtW P w1 w2) : ExtW P w w2 := fun c o e n => b c o (a c o e n) n
theorem LamW.ext {P : Addr} {w w' : Wd} {q : Str} {lp : Arguments} {lb : Expr} {ls : Scope} {g : Addr} {tx : List Str} (h : LamW w q lp lb ls g tx) (e : ∀ a o, w a = some (.raw o) → (∀ ps, o ≠ .tbl ps) → w' a = some (.raw o)) : LamW w' q lp lb ls g tx := by
  obtain ⟨p, c0, c', h1, h2, h3, h4⟩ := h
  exact ⟨p, c0, c', e _ _ h1 (fun ps z => by cases z), e _ _ h2 (fun ps z => by cases z), e _ _ h3 (fun ps z => by cases z), e _ _ h4 (fun ps z => by cases z)⟩
section
variable {X : Cx} {W : WX} {k : Nat} {f : Addr} {e : Expr} {es : List Expr} {r : TAD} {x : Str} {p pos : Pos} {q : Str} {lp : Arguments} {lb : Expr} {ls : Scope} {Pt : Addr}
def dWo (q : Str) (lp : Arguments) (lb : Expr) (ls : Scope) (Pt : Addr) (r : TAD) : TED := fun E ρ w Q => r E ρ w fun ds w1 => ∃ tx : List Str, ds = tx.map .str ∧ tx.length ≤ sizeLine ∧ TbW w1 Pt q ∧
  ∀ g w2, ExtW Pt w1 w2 → TbW w2 Pt q → LamW w2 q lp lb ls g tx → w1 g = none → Q (.ref g) w2
theorem denL_txs {K : PySem.W.Frag} {F : Hp} : ∀ {tx : List Str} {vs : List V}, DenL K F (tx.map .str) vs → vs = tx.map V.str
  | [], _, h => denL_nil h
  | x :: r, _, h => by
    obtain ⟨v, vs, rfl, h1, h2⟩ := denL_cons h
    rw [h1.str_, denL_txs h2]
    rfl
theorem de_wo (Fw : FnR X.prog X.w X.K X.mg X.base (L2.CX X.prog X.w) k f (spWo q lp lb ls Pt)) (hr : RoomG k X.A) (tk : TkC X W) (hm : X.mg x = some (.ref f)) (hk : PySem.W.keepIn X.K (.ref f) = true) (ha : DA X W (e :: es) r) (hg : Gl X x := by rfl) (hdb : (x == ("__debug__" : Str)) = false := by decide)
    (he : starEach (e :: es) X.env = (false, eval e X.env) :: starEach es X.env := by rfl) (hpl : (backTo pos (starEach es X.env)).any (·.1) = false := by rfl) : DE X W (.Call (.Name x p) (e :: es) [] pos) (dWo q lp lb ls Pt r) := by
  obtain ⟨ur, pr, rr⟩ := ha.ex
  refine ⟨fun σ H Q => ur σ H fun vs H1 => spWo q lp lb ls Pt vs H1 Q (WE W σ), ⟨fun pins s σ H Q I h => ?_⟩, fun F0 E hw F ρ w σ H Qd Q at_ hh k' => ?_⟩
  · refine wpAny_Call_Name_kw (ld_glob I hg hm ?_ hdb)
    refine PySem.W.callWith_K (h₀ := X.base) I.ok.mod.kin hk (thn (pr.run pos pins s σ H _ I h) fun us s1 ⟨vs, H1, I1, rv, q1⟩ => ⟨I1.kIn, ?_⟩) he hpl
    refine wpAny_call (codeAny_mono (Fw X.A X.stack s1 H1 us vs Q (WE W σ) hr.r I1.env0 rv q1) fun r s' hq => ?_)
    cases r with
    | error e => exact tk σ pins H1 s1 e s' I1 hq
    | ok fl =>
      cases fl with
      | ret u => exact I1.after hq
      | next => exact False.elim hq
      | brk => exact False.elim hq
      | cont => exact False.elim hq
  · refine rr F0 E hw F ρ w σ H _ _ at_ hh fun ds w1 F1 vs H1 e1 h1 d1 q1 => ?_
    obtain ⟨tx, rfl, hl, ⟨ps, a1, a2, a3⟩, hq⟩ := q1
    have hv := denL_txs d1
    subst hv
    have raw : ∀ {a o}, w1 a = some (.raw o) → F1 a = none ∧ H1 a = some o := fun {a o} h => h1.obj a _ h
    refine ⟨by simpa using hl, fun c => w1 c = some (.raw (CodeO c q)), ⟨ps, (raw a1).2, a2, fun pos cv hc => ?_⟩, fun g H2 hx t2 hg hgP la => ?_⟩
    · obtain ⟨c, z1, z2⟩ := a3 pos cv hc
      exact ⟨c, z1, (raw z2).2, z2⟩
    · -- the new world
      let w2 : Wd := fun a => if a = Pt then (H2 a).map .raw else match w1 a with
        | some o => some o
        | none => if H1 a = none then (H2 a).map .raw else none
      have wP : w2 Pt = (H2 Pt).map .raw := if_pos rfl
      have wold : ∀ {a o}, w1 a = some o → a ≠ Pt → w2 a = some o := fun {a o} h n => by
        show (if a = Pt then _ else _) = _
        rw [if_neg n, h]
      have wnew : ∀ {a o}, H1 a = none → H2 a = some o → a ≠ Pt → w2 a = some (.raw o) := fun {a o} h h' n => by
        show (if a = Pt then _ else _) = _
        rw [if_neg n, (h1.fresh h).2]
        show (if H1 a = none then _ else _) = _
        rw [if_pos h, h']
        rfl
      have nP : ∀ {a}, H1 a = none → a ≠ Pt := fun {a} h z => by rw [z, (raw a1).2] at h; cases h
      have rh : RelH X.K F1 w2 H2 := by
        refine ⟨fun a o h => ?_, fun a o h => ?_⟩
        · exact hx a o (h1.ex a o h) fun z => by rw [z, (raw a1).1] at h; cases h
        · have h' : (if a = Pt then (H2 a).map DO.raw else match w1 a with
            | some o => some o
            | none => if H1 a = none then (H2 a).map .raw else none) = some o := h
          by_cases ha : a = Pt
          · rw [if_pos ha] at h'
            subst ha
            obtain ⟨u, hu, rfl⟩ := Option.map_eq_some_iff.mp h'
            exact ⟨(raw a1).1, hu⟩
          · rw [if_neg ha] at h'
            cases hw1 : w1 a with
            | some o' =>
              rw [hw1] at h'
              cases h'
              obtain ⟨z1, z2⟩ := h1.obj a o hw1
              obtain ⟨u, hu⟩ := z2.there
              exact ⟨z1, z2.at ((hx a u hu ha).trans hu.symm)⟩
            | none =>
              rw [hw1] at h'
              dsimp only at h'
              by_cases hn : H1 a = none
              · rw [if_pos hn] at h'
                obtain ⟨u, hu, rfl⟩ := Option.map_eq_some_iff.mp h'
                exact ⟨(h1.fresh hn).1, hu⟩
              · rw [if_neg hn] at h'
                cases h'
      have codes : ∀ {c}, (w1 c = some (.raw (CodeO c q)) ∨ H1 c = none) → H2 c = some (CodeO c q) → w2 c = some (.raw (CodeO c q)) := fun {c} h h' => by
        rcases h with h | h
        · exact wold h fun z => by
            have := (raw h).2
            rw [z, (raw a1).2] at this
            cases this
        · exact wnew h h' (nP h)
      obtain ⟨p', c0, c', n1, n2, n3, l1, l2, l3, l4⟩ := la.ex
      obtain ⟨ps2, b1, b2, b3⟩ := t2
      refine k' (.ref g) w2 F1 (.ref g) H2 e1 rh den_ref (hq g w2 (fun a o h n => wold h n) ⟨ps2, by rw [wP, b1]; rfl, b2, fun pos cv hc => ?_⟩ ⟨p', c0, c', wnew n1 l1 (nP n1), wnew n2 l2 (nP n2), codes n3 l3, wnew hg l4 hgP⟩ (h1.fresh hg).2)
      obtain ⟨c, z1, z2, z3⟩ := b3 pos cv hc
      exact ⟨c, z1, codes z3 z2⟩
/-- a local name that holds a def, or word_of's lambda -/
def dCallVL (P : Program) (w0 : World) (K : PySem.W.Frag) (mg : Str → Option Value) (base : Heap) (k i : Nat) (q : Str) (lp : Arguments) (lb : Expr) (ls : Scope) (r : TAD) : TED := fun E ρ w Q => dCallV P w0 K mg base k 1 i r E ρ w Q ∨
  ∃ g tx, ρ[i]? = some (some (.ref g)) ∧ LamW w q lp lb ls g tx ∧ r E ρ w fun ds w1 => ∃ y, ds = [.str y] ∧ LamW w1 q lp lb ls g tx ∧ Q (if tx.any (· == y) = true then .str y else .non) w1
theorem LamW.here {K : PySem.W.Frag} {F H : Hp} {w : Wd} {g : Addr} {tx : List Str} (h : LamW w q lp lb ls g tx) (r : RelH K F w H) : ∃ p c0 c', H p = some (.tup (tx.map V.str)) ∧ H c0 = some (CelO c0 (.ref p)) ∧ H c' = some (CodeO c' q) ∧ H g = some (LamO g q lp lb ls [(("known" : Str), c0)] c') := by
  obtain ⟨p, c0, c', h1, h2, h3, h4⟩ := h
  exact ⟨p, c0, c', (r.obj _ _ h1).2, (r.obj _ _ h2).2, (r.obj _ _ h3).2, (r.obj _ _ h4).2⟩
theorem de_callVL {i : Nat} (L : LTxt lp lb ls) (hr : RoomG k X.A) (h1k : 1 ≤ k) (tk : TkC X W) (ha : DA X W [e] r) (hN : X.N[i]? = some x := by rfl) (hv : Vis X.env.scope x := by first | exact Or.inl rfl | exact Or.inr (Or.inl rfl) | exact Or.inr (Or.inr rfl)) (hdb : (x == ("__debug__" : Str)) = false := by decide) (hcd : (x == ("__classdict__" : Str)) = false := by decide)
    (he : starEach [e] X.env = (false, eval e X.env) :: starEach [] X.env := by rfl) (hpl : (backTo pos (starEach [] X.env)).any (·.1) = false := by rfl) : DE X W (.Call (.Name x p) [e] [] pos) (dCallVL X.prog X.w X.K X.mg X.base k i q lp lb ls r) := by
  obtain ⟨u1, p1, r1⟩ := (de_callV (k := k) (n := 1) (p := p) (pos := pos) hr tk ha hN hv hdb hcd he hpl).ex
  obtain ⟨ur, pr, rr⟩ := ha.ex
  let lam : Hp → Addr → List Str → Prop := fun H g tx => ∃ p c0 c', H p = some (.tup (tx.map V.str)) ∧ H c0 = some (CelO c0 (.ref p)) ∧ H c' = some (CodeO c' q) ∧ H g = some (LamO g q lp lb ls [(("known" : Str), c0)] c')
  refine ⟨fun σ H Q => u1 σ H Q ∨ ∃ g tx, σ[i]? = some (some (.ref g)) ∧ lam H g tx ∧ ur σ H fun vs H1 => ∃ y, vs = [.str y] ∧ lam H1 g tx ∧ Q (if tx.any (· == y) = true then .str y else .non) H1, ⟨fun pins s σ H Q I h => ?_⟩, fun F0 E hw F ρ w σ H Qd Q at_ hh k' => ?_⟩
  · rcases h with h | ⟨g, tx, hs, hl, ht⟩
    · exact p1.run pins s σ H Q I h
    · refine wpAny_Call_Name_kw (thn ((pe_var (pos := p) hN hv hdb hcd).run pins s σ H (fun v H1 => v = .ref g ∧ H1 = H) I ⟨.ref g, hs, rfl, rfl⟩) fun u s1 ⟨v, H1, I1, rv1, q1⟩ => ?_)
      obtain ⟨rfl, rfl⟩ := q1
      cases rv1
      have fnAt : ∀ {H : Hp} {s : Shared}, lam H g tx → HOk X.prog X.w H s.heap → PySem.W.FnAt g s.heap := fun {H s} ⟨_, _, _, _, _, _, l4⟩ hok => by
        obtain ⟨pm, ctv, of⟩ := lamO_at hok l4
        exact ⟨_, _, _, _, of⟩
      refine PySem.W.callWith_F (fnAt hl I1.hok) (thn (pr.run pos pins s1 σ _ _ I1 ht) fun us s2 ⟨vs, H2, I2, rv, y, ev, l2, q2⟩ => ⟨fnAt l2 I2.hok, ?_⟩) he hpl
      subst ev
      cases rv with
      | cons ry rn =>
        cases rn
        refine wpAny_call (codeAny_mono (lam_fn (CX := L2.CX X.prog X.w) (E := WE W σ) L (hr.r.mono h1k) I2.env0 l2 ry q2) fun r s' hq => ?_)
        cases r with
        | error e => exact tk σ pins H2 s2 e s' I2 hq
        | ok fl =>
          cases fl with
          | ret u => exact I2.after hq
          | next => exact False.elim hq
          | brk => exact False.elim hq
          | cont => exact False.elim hq
  · rcases hh with hh | ⟨g, tx, hg, hl, hh⟩
    · exact .inl (r1 F0 E hw F ρ w σ H Qd Q at_ hh k')
    · refine .inr ?_
      obtain ⟨v, hv', dv⟩ := at_.r.at_ i _ hg
      cases dv.ref_
      refine ⟨g, tx, hv', hl.here at_.h, rr F0 E hw F ρ w σ H _ _ at_ hh fun ds w1 F1 vs H1 e1 h1 d1 q1 => ?_⟩
      obtain ⟨y, rfl, l2, q2⟩ := q1
      obtain ⟨v, rfl, dv⟩ := d1.one
      refine ⟨y, by rw [dv.str_], l2.here h1, ?_⟩
      by_cases hb : tx.any (· == y) = true
      · rw [if_pos hb] at q2 ⊢
        exact k' _ w1 F1 _ H1 e1 h1 den_str q2
      · rw [if_neg hb] at q2 ⊢
        exact k' _ w1 F1 _ H1 e1 h1 den_non q2
end
end DL
set_option Elab.async false
set_option linter.all false
set_option maxRecDepth 100000
set_option maxHeartbeats 1000000
/-! DL17: comparisons as tests; defs, methods, classes as hypotheses. -/
namespace DL
open PySem PySem.Spec PyProof.Rows L2
open Evl (Ex ex_l ex_t)
section
variable {X : Cx} {W : WX} {a b c e : Expr} {es : List Expr} {ta tb tc : TED} {r : TAD} {pos p apos : Pos} {n : Nat}
theorem dt_eq {m : Nat} (hr : RoomG m X.A) (ha : DE X W a ta) (hb : DE X W b tb) : DT X W (.Compare a [.Eq] [b] pos) (dTest (dBin eqRD ta tb)) := dt_cmp (OpR.or op_eq (op_eqD hr.hu)) lift_eq ha hb (nomark _)
theorem dt_ne {m : Nat} (hr : RoomG m X.A) (ha : DE X W a ta) (hb : DE X W b tb) : DT X W (.Compare a [.NotEq] [b] pos) (dTest (dBin neRD ta tb)) := dt_cmp (OpR.or op_ne (op_neD hr.hu)) lift_ne ha hb (nomark _)
theorem dt_lt (ha : DE X W a ta) (hb : DE X W b tb) : DT X W (.Compare a [.Lt] [b] pos) (dTest (dBin ltD ta tb)) := dt_cmp op_lt lift_cmp ha hb (nomark _)
theorem dt_le (ha : DE X W a ta) (hb : DE X W b tb) : DT X W (.Compare a [.LtE] [b] pos) (dTest (dBin leD ta tb)) := dt_cmp op_le lift_cmp ha hb (nomark _)
theorem dt_gt (ha : DE X W a ta) (hb : DE X W b tb) : DT X W (.Compare a [.Gt] [b] pos) (dTest (dBin gtD ta tb)) := dt_cmp op_gt lift_cmp ha hb (nomark _)
theorem dt_ge (ha : DE X W a ta) (hb : DE X W b tb) : DT X W (.Compare a [.GtE] [b] pos) (dTest (dBin geD ta tb)) := dt_cmp op_ge lift_cmp ha hb (nomark _)
theorem dt_in (ha : DE X W a ta) (hb : DE X W b tb) (hm : behindInMarks .In b = false := by rfl) : DT X W (.Compare a [.In] [b] pos) (dTest (dBin (inD false) ta tb)) := dt_cmp (OpR.or op_in_seq op_inS) lift_in ha hb hm
theorem dt_notin (ha : DE X W a ta) (hb : DE X W b tb) (hm : behindInMarks .NotIn b = false := by rfl) : DT X W (.Compare a [.NotIn] [b] pos) (dTest (dBin (inD true) ta tb)) := dt_cmp (OpR.or op_notIn_seq op_notInS) lift_in ha hb hm
theorem dt_inK {d : Addr} {tab : List (Str × D)} (T : KTab X.K X.w d tab) (ha : DE X W a ta) (hb : DE X W b tb) (hm : behindInMarks .In b = false := by rfl) : DT X W (.Compare a [.In] [b] pos) (dTest (dBin (fInK d tab) ta tb)) := by
  obtain ⟨es, n, kd⟩ := T.kd
  refine dt_cmp (op_in_kd kd) (fun F w H x y d' e' Qd Q r dx dy h k => ?_) ha hb hm
  obtain ⟨z, rfl, rfl, q⟩ := h
  obtain ⟨r', h1, h2⟩ := T.some_ z
  exact ⟨z, r', dx.str_, dy.ref_, h1, k _ w F _ H (Evl.Ex.refl _) r den_bl (by rw [h2]; exact q)⟩
theorem dt_notinK {d : Addr} {tab : List (Str × D)} (T : KTab X.K X.w d tab) (ha : DE X W a ta) (hb : DE X W b tb) (hm : behindInMarks .NotIn b = false := by rfl) : DT X W (.Compare a [.NotIn] [b] pos) (dTest (dBin (fNinK d tab) ta tb)) := by
  obtain ⟨es, n, kd⟩ := T.kd
  refine dt_cmp (op_notIn_kd kd) (fun F w H x y d' e' Qd Q r dx dy h k => ?_) ha hb hm
  obtain ⟨z, rfl, rfl, q⟩ := h
  obtain ⟨r', h1, h2⟩ := T.some_ z
  exact ⟨z, r', dx.str_, dy.ref_, h1, k _ w F _ H (Evl.Ex.refl _) r den_bl (by rw [h2]; exact q)⟩
def isNT (t : TED) : TTD := fun E ρ w Q => t E ρ w fun x w1 => Q (isNon x) w1
def notNT (t : TED) : TTD := fun E ρ w Q => t E ρ w fun x w1 => Q (!isNon x) w1
theorem dt_isN {j pos'} (ha : DE X W a ta) : DT X W (.Compare a [.Is] [.Constant .none j pos'] pos) (isNT ta) := by
  obtain ⟨ua, pa, ra⟩ := ha.ex
  refine ⟨_, pt_cmp (pc_isN pa), fun F0 E hw F ρ w σ H Qd Q at_ hh k => ra F0 E hw F ρ w σ H _ _ at_ hh fun x w1 F1 v H1 e1 h1 d1 q1 => ?_⟩
  rw [den_isN d1]
  exact ⟨_, rfl, k _ w1 F1 H1 e1 h1 q1⟩
theorem dt_notN {j pos'} (ha : DE X W a ta) : DT X W (.Compare a [.IsNot] [.Constant .none j pos'] pos) (notNT ta) := by
  obtain ⟨ua, pa, ra⟩ := ha.ex
  refine ⟨_, pt_cmp (pc_notN pa), fun F0 E hw F ρ w σ H Qd Q at_ hh k => ra F0 E hw F ρ w σ H _ _ at_ hh fun x w1 F1 v H1 e1 h1 d1 q1 => ?_⟩
  rw [den_isN d1]
  exact ⟨_, rfl, k _ w1 F1 H1 e1 h1 q1⟩

theorem dt_chain {op op' : CmpOp} {f g : R2D} {r r' : R2} (ho : OpR X (compareOp op) r) (hf : Lift2 X.K f r) (ho' : OpR X (compareOp op') r') (hg : Lift2 X.K g r') (ha : DE X W a ta) (hb : DE X W b tb) (hc : DE X W c tc)
    (hm : lastMarks [op, op'] [b, c] = false := by with_unfolding_all rfl) : DT X W (.Compare a [op, op'] [b, c] pos) (dTest (dChain f g ta tb tc)) := by
  obtain ⟨ua, pa, ra⟩ := ha.ex
  obtain ⟨ub, pb, rb⟩ := hb.ex
  obtain ⟨uc, pc, rc⟩ := hc.ex
  refine ⟨_, pt_chain ho ho' pa pb pc hm, test_ref fun F0 E hw F ρ w σ H Qd Q at_ hh k => ra F0 E hw F ρ w σ H _ _ at_ hh fun x w1 F1 v H1 e1 h1 d1 q1 => ?_⟩
  have a1 := at_.step e1 h1
  refine rb F0 E hw F1 ρ w1 σ H1 _ _ a1 q1 fun y w2 F2 u H2 e2 h2 d2 q2 => ?_
  have a2 := a1.step e2 h2
  refine hf F2 w2 H2 x y v u _ _ h2 (d1.mono e2) d2 q2 fun z w3 F3 v3 H3 e3 h3 d3 q3 => ?_
  have a3 := a2.step e3 h3
  obtain ⟨b, rfl, q⟩ := q3
  refine ⟨b, d3.bl_, ?_⟩
  by_cases hb : b = true
  · rw [if_pos hb] at q ⊢
    exact rc F0 E hw F3 ρ w3 σ H3 _ _ a3 q fun u4 w4 F4 v4 H4 e4 h4 d4 q4 => hg F4 w4 H4 y u4 u v4 Qd Q h4 (d2.mono (e3.trans e4)) d4 q4 (k.mono (((e1.trans e2).trans e3).trans e4))
  · rw [if_neg hb] at q ⊢
    exact k _ w3 F3 _ H3 ((e1.trans e2).trans e3) h3 den_bl q
/-- two lists put together: a new list of the world -/
def addWD : R2D := fun x y w Q => ∃ i j, lstT w x = some i ∧ lstT w y = some j ∧ i.length + j.length ≤ sizeLine ∧ ∀ a, w a = none → Q (.ref a) (wupd w a (.lst (i ++ j)))
def dAddW (ta tb : TED) : TED := dBin addWD ta tb
theorem lift_addW {K : PySem.W.Frag} : Lift2 K addWD rCat := by
  intro F w H x y d e Qd Q r dx dy h k
  obtain ⟨i, j, h1, h2, hl, q⟩ := h
  obtain ⟨a, xs, rfl, g1, g2⟩ := lstT_ok r dx h1
  obtain ⟨b, ys, rfl, g3, g4⟩ := lstT_ok r dy h2
  refine ⟨a, b, xs, ys, rfl, rfl, g1, g3, by rw [← g2.len, ← g4.len]; exact hl, fun p hp => ?_⟩
  exact k _ _ F _ _ (Evl.Ex.refl _) (r.newW (u := .lst (i ++ j)) hp ⟨_, upd_same, g2.append g4⟩) den_ref (q p (r.fresh hp).2)
theorem de_addW (ha : DE X W a ta) (hb : DE X W b tb) : DE X W (.BinOp a .Add b pos) (dAddW ta tb) := de_bin op_cat lift_addW ha hb
end
section
variable {P : Program} {w : World} {K : PySem.W.Frag} {mg : Str → Option Value} {base : Heap} {j k n : Nat} {x m : Str} {sp : SpD} {dd : List D} {C : Addr}
structure FnD (P : Program) (w : World) (K : PySem.W.Frag) (mg : Str → Option Value) (base : Heap) (k : Nat) (x : Str) (n : Nat) (sp : SpD) (dd : List D := []) : Prop where
  ex : ∃ f fd ps dv dvs, FnG P w K mg base k f fd ps (toSp K n sp) ∧ mg x = some (.ref f) ∧ PySem.W.keepIn K (.ref f) = true ∧ Binds K fd ps dv ∧ Vals dvs dv ∧ DflD K dd dvs
structure MtD (P : Program) (w : World) (K : PySem.W.Frag) (mg : Str → Option Value) (base : Heap) (k : Nat) (C : Addr) (m : Str) (n : Nat) (sp : SpD) (dd : List D := []) : Prop where
  ex : ∃ f fd ps dv dvs, FnG P w K mg base k f fd ps (toSp K n sp) ∧ Cls K C ∧ Meth K C m f ∧ Binds K fd ps dv ∧ Vals dvs dv ∧ DflD K dd dvs
structure MkD (P : Program) (w : World) (K : PySem.W.Frag) (mg : Str → Option Value) (base : Heap) (k : Nat) (C : Addr) (x : Str) (n : Nat) (sp : SpD) (dd : List D := []) : Prop where
  ex : ∃ f fd ps dv dvs, FnG P w K mg base k f fd ps (toSp K n sp) ∧ Mk K C f ∧ mg x = some (.ref C) ∧ Binds K fd ps dv ∧ Vals dvs dv ∧ DflD K dd dvs
theorem FnD.fnv (F : FnD P w K mg base k x n sp []) : ∃ f, mg x = some (.ref f) ∧ Fnv P w K mg base k n f sp := by
  obtain ⟨f, fd, ps, dv, dvs, F, hm, hk, hb, hv, hd⟩ := F.ex
  have e : dvs = [] := by
    have := (hd (fun _ => none)).len
    cases dvs with
    | nil => rfl
    | cons _ _ => cases this
  subst e
  cases hv
  exact ⟨f, hm, fd, ps, F, hk, hb⟩
end
section
variable {X : Cx} {W : WX} {o e : Expr} {es : List Expr} {t : TED} {r : TAD} {pos p apos : Pos} {n k : Nat} {x m : Str} {sp : SpD} {dd : List D} {C : Addr} {pl : Sem Bool}
theorem de_callD (F : FnD X.prog X.w X.K X.mg X.base k x n sp dd) (hr : RoomG k X.A) (tk : TkC X W) (ha : DA X W (e :: es) r) (hg : Gl X x := by rfl) (hdb : (x == ("__debug__" : Str)) = false := by decide) (he : starEach (e :: es) X.env = (false, eval e X.env) :: starEach es X.env := by rfl) (hpl : (backTo pos (starEach es X.env)).any (·.1) = false := by rfl) :
    DE X W (.Call (.Name x p) (e :: es) [] pos) (dCall n sp dd r) := by
  obtain ⟨f, fd, ps, dv, dvs, F, hm, hk, hb, hv, hd⟩ := F.ex
  exact de_call F hr tk hm hk hb hv hd ha hg hdb he hpl
theorem de_call0D (F : FnD X.prog X.w X.K X.mg X.base k x n sp dd) (hr : RoomG k X.A) (tk : TkC X W) (hg : Gl X x := by rfl) (hdb : (x == ("__debug__" : Str)) = false := by decide) :
    DE X W (.Call (.Name x p) [] [] pos) (dCall n sp dd dNil) := by
  obtain ⟨f, fd, ps, dv, dvs, F, hm, hk, hb, hv, hd⟩ := F.ex
  exact de_call0 F hr tk hm hk hb hv hd hg hdb
theorem de_methD (ho : DE X W o t) (F : MtD X.prog X.w X.K X.mg X.base k C m n sp dd) (hr : RoomG k X.A) (tk : TkC X W) (ha : DA X W (e :: es) r)
    (hst : starEach (e :: es) X.env = (false, eval e X.env) :: starEach es X.env := by rfl) (hpl : (backTo pos (starEach es X.env)).any (·.1) = false := by rfl)
    (ht : eval (.Call (.Attribute o m apos) (e :: es) [] pos) X.env = (do
      let ov ← eval o X.env
      standAt apos.atName
      let (f, first) ← holding [ov] (getMethod ov m pl)
      callWith pos f first (backTo pos (starEach (e :: es) X.env)) (backToKw pos (keywordEach [] X.env))) := by rfl) :
    DE X W (.Call (.Attribute o m apos) (e :: es) [] pos) (dMeth C m n sp dd t r) := by
  obtain ⟨f, fd, ps, dv, dvs, F, hc, hm, hb, hv, hd⟩ := F.ex
  exact de_meth ho hc hm F hr tk hb hv hd ha hst hpl ht
theorem de_meth0D (ho : DE X W o t) (F : MtD X.prog X.w X.K X.mg X.base k C m n sp dd) (hr : RoomG k X.A) (tk : TkC X W)
    (ht : eval (.Call (.Attribute o m apos) [] [] pos) X.env = (do
      let ov ← eval o X.env
      standAt apos.atName
      let (f, first) ← holding [ov] (getMethod ov m pl)
      callWith pos f first (backTo pos (starEach [] X.env)) (backToKw pos (keywordEach [] X.env))) := by rfl) :
    DE X W (.Call (.Attribute o m apos) [] [] pos) (dMeth C m n sp dd t dNil) := by
  obtain ⟨f, fd, ps, dv, dvs, F, hc, hm, hb, hv, hd⟩ := F.ex
  exact de_meth0 ho hc hm F hr tk hb hv hd ht
theorem de_makeD (F : MkD X.prog X.w X.K X.mg X.base k C x n sp dd) (hr : RoomG (k + 1) X.A) (tk : TkC X W) (ha : DA X W (e :: es) r) (hg : Gl X x := by rfl) (hdb : (x == ("__debug__" : Str)) = false := by decide) (he : starEach (e :: es) X.env = (false, eval e X.env) :: starEach es X.env := by rfl) (hpl : (backTo pos (starEach es X.env)).any (·.1) = false := by rfl) :
    DE X W (.Call (.Name x p) (e :: es) [] pos) (dMake C n sp dd r) := by
  obtain ⟨f, fd, ps, dv, dvs, F, M, hm, hb, hv, hd⟩ := F.ex
  exact de_make M F hr tk hm hb hv hd ha hg hdb he hpl
end
/-- in a block that lets nothing out, nothing is asked of what a call lets out -/
theorem tkc0 {X : Cx} : TkC X W0 := fun σ pins H s e s' I ⟨_, _, _, _, _, _, _, _, _, _, _, _, z⟩ => z.elim
end DL
set_option Elab.async false
set_option linter.all false
set_option maxRecDepth 100000
set_option maxHeartbeats 2000000
/-! DL18: zip(a, b, strict=True) of two tuples, each pair bound to a name. -/
namespace ZN
open PySem RZ ZS
open PySem.Sem (wp)
abbrev IsZipF (h : Heap) (z TI TO : Addr) (f0 : Value) (b : Bool) : Prop :=
  h.get? z = some { cls := .type "zip", dict := none, data := .fields #[f0, .bool b, .bool true, .ref TI, .ref TO], slots := #[] }
section
variable {prog : Program} {w : World} {A : Around} {E : Value → Shared → Prop} {s : Shared}
theorem alive_any {T : Addr} {Q : Option Obj → Shared → Prop} (h : Q (s.heap.get? T) s) : wpAny (model prog w) A (loadIfAlive T) Q E s := fun _ _ _ => h
theorem free_none {z TI TO : Addr} {b : Bool} {Q : Bool → Shared → Prop} (hz : IsZipF s.heap z TI TO .none b) (h : Q true s) : wpAny (model prog w) A (Builtin.SmallTypes.ownedTupleIsFree (.ref z)) Q E s := by
  unfold Builtin.SmallTypes.ownedTupleIsFree
  exact wpAny_bind (wpAny_field hz rfl (x := .none) rfl (wpAny_pure h))
theorem free_int {z TI TO T : Addr} {b : Bool} {Q : Bool → Shared → Prop} (hz : IsZipF s.heap z TI TO (rawInt T) b) (h1 : s.heap.get? T = none → Q true s) (h2 : (∃ o, s.heap.get? T = some o) → ∀ h', IsZipF h' z TI TO (rawInt T) true → Heap.SameBut z s.heap h' → Q false { s with heap := h' }) :
    wpAny (model prog w) A (Builtin.SmallTypes.ownedTupleIsFree (.ref z)) Q E s := by
  unfold Builtin.SmallTypes.ownedTupleIsFree
  refine wpAny_bind (wpAny_field hz rfl (x := rawInt T) rfl ?_)
  show wpAny _ _ (loadIfAlive ((T : Int).toNat) >>= _) _ _ _
  rw [Int.toNat_natCast]
  refine wpAny_bind (alive_any ?_)
  cases e : s.heap.get? T with
  | none => exact wpAny_pure (h1 e)
  | some o =>
    simp only [Option.isNone_some, Bool.false_eq_true, if_false]
    refine wpAny_bind (wpAny_field hz rfl (x := .bool b) rfl ?_)
    cases b with
    | true =>
      rw [if_neg (show ¬ ((Value.bool true != Value.bool true) = true) from Bool.false_ne_true)]
      exact wpAny_pure (h2 ⟨o, e⟩ s.heap hz (Heap.SameBut.refl _ _))
    | false =>
      rw [if_pos (show (Value.bool false != Value.bool true) = true from rfl)]
      exact wpAny_bind (wpAny_setField_rec hz (by simp) fun h₁ hz₁ hs₁ => wpAny_pure (h2 ⟨o, e⟩ h₁ hz₁ hs₁))
/-- what stands in the zip's first field -/
def Fst (f0 : Value) : Prop := f0 = .none ∨ ∃ T : Addr, f0 = rawInt T
theorem nextF_item {z TI TO i1 i2 l1 l2 : Addr} {k1 k2 : Nat} {xs ys : Array Value} {x y a b f0 : Value} {fl : Bool} {Q : Value → Shared → Prop} (D : ZipApart z TI TO i1 i2 l1 l2) (hf : Fst f0)
    (hz : IsZipF s.heap z TI TO f0 fl) (hTI : IsPair s.heap TI (.ref i1) (.ref i2)) (hTO : IsPair s.heap TO a b)
    (h1 : s.heap.IsTupleIter i1 l1 k1) (h2 : s.heap.IsTupleIter i2 l2 k2) (hl1 : s.heap.IsTuple l1 xs) (hl2 : s.heap.IsTuple l2 ys) (hx : xs[k1]? = some x) (hy : ys[k2]? = some y)
    (hQ : ∀ h' f0' fl' a' b', Fst f0' → IsZipF h' z TI TO f0' fl' → IsPair h' TO a' b' → h'.IsTupleIter i1 l1 (k1 + 1) → h'.IsTupleIter i2 l2 (k2 + 1) → IsPair h' s.heap.objs.size x y → h'.objs.size = s.heap.objs.size + 1 →
      (∀ c o, c ≠ z → c ≠ TO → c ≠ i1 → c ≠ i2 → s.heap.get? c = some o → h'.get? c = some o) → Q (.ref s.heap.objs.size) { s with heap := h' }) :
    wpAny (model prog w) A (Builtin.«zip.__next__» ⟨[.ref z], []⟩) (fun fin s' => ∃ v, fin = .done (.ret v) ∧ Q v s') E s := by
  show wpAny _ _ (field (.ref z) 2 >>= _) _ _ _
  refine wpAny_bind (wpAny_field hz rfl (x := .bool true) rfl ?_)
  show wpAny _ _ (field (.ref z) 3 >>= _) _ _ _
  refine wpAny_bind (wpAny_field hz rfl (x := .ref TI) rfl ?_)
  refine wpAny_bind (wpAny_seqItems hTI rfl ?_)
  show wpAny _ _ (Builtin.SmallTypes.ownedTupleIsFree (.ref z) >>= _) _ _ _
  refine wpAny_bind ?_
  refine wpAny_mono (Q := fun r s' => (r = true ∧ s' = s) ∨ (r = false ∧ ∃ h', s' = { s with heap := h' } ∧ (∃ T : Addr, IsZipF h' z TI TO (rawInt T) true) ∧ Heap.SameBut z s.heap h')) (E := fun _ _ => False) ?_ (fun r s' hr => ?_) fun _ _ z => z.elim
  · rcases hf with rfl | ⟨T, rfl⟩
    · exact free_none hz (.inl ⟨rfl, rfl⟩)
    · exact free_int hz (fun _ => .inl ⟨rfl, rfl⟩) fun _ h' hz' hs' => .inr ⟨rfl, h', rfl, ⟨T, hz'⟩, hs'⟩
  · rcases hr with ⟨rfl, rfl⟩ | ⟨rfl, h0, rfl, ⟨T, hz₀⟩, hs₀⟩
    · -- the owned tuple is free
      simp only [if_true]
      refine wpAny_bind (wpAny_rule ?_)
      refine wpAny_bind (wpAny_field hz rfl (x := .ref TO) rfl ?_)
      refine wpAny_bind (wpAny_setField_rec hz (by simp) fun h₁ hz₁ hs₁ => ?_)
      replace hz₁ : IsZipF h₁ z TI TO .ellipsis fl := hz₁
      refine wpAny_bind ?_
      simp only [List.zipIdx_cons, List.zipIdx_nil, List.forIn_cons, List.forIn_nil]
      refine wpAny_bind (wpAny_bind (wpAny_onRaise ?_))
      show wpAny _ _ (Builtin.SmallTypes.nextOrEnd (.ref i1)) _ _ _
      refine end_item (h1.extBut hs₁.extBut D.i1z) (hl1.extBut hs₁.extBut D.l1z) hx fun h₂ h1₂ hs₂ => ?_
      have hTO₂ : IsPair h₂ TO a b := hs₂.extBut _ _ D.TOi1 (hs₁.extBut _ _ D.TOz hTO)
      refine wpAny_bind (wpAny_seqItems hTO₂ rfl ?_)
      refine wpAny_bind (wpAny_updateSeq_pair hTO₂ fun h₃ hTO₃ hs₃ => ?_)
      replace hTO₃ : IsPair h₃ TO x b := hTO₃
      refine wpAny_bind (wpAny_letGo (wpAny_pure ?_))
      refine wpAny_bind (wpAny_bind (wpAny_onRaise ?_))
      show wpAny _ _ (Builtin.SmallTypes.nextOrEnd (.ref i2)) _ _ _
      refine end_item (((h2.extBut hs₁.extBut D.i2z).extBut hs₂.extBut D.i12.symm).extBut hs₃.extBut D.TOi2.symm)
        (((hl2.extBut hs₁.extBut D.l2z).extBut hs₂.extBut D.l2i1).extBut hs₃.extBut D.l2TO) hy fun h₄ h2₄ hs₄ => ?_
      have hTO₄ : IsPair h₄ TO x b := hs₄.extBut _ _ D.TOi2 hTO₃
      refine wpAny_bind (wpAny_seqItems hTO₄ rfl ?_)
      refine wpAny_bind (wpAny_updateSeq_pair hTO₄ fun h₅ hTO₅ hs₅ => ?_)
      replace hTO₅ : IsPair h₅ TO x y := hTO₅
      refine wpAny_bind (wpAny_letGo (wpAny_pure (wpAny_pure ?_)))
      refine wpAny_bind (wpAny_seqItems hTO₅ rfl ?_)
      refine wpAny_bind (wpAny_newTuple ?_)
      have hsz : h₅.objs.size = s'.heap.objs.size := by rw [hs₅.1, hs₄.1, hs₃.1, hs₂.1, hs₁.1]
      have hz₅ : IsZipF h₅ z TI TO .ellipsis fl := hs₅.extBut _ _ D.TOz.symm (hs₄.extBut _ _ D.i2z.symm (hs₃.extBut _ _ D.TOz.symm (hs₂.extBut _ _ D.i1z.symm hz₁)))
      have hk₅ : ∀ c o, c ≠ z → c ≠ TO → c ≠ i1 → c ≠ i2 → s'.heap.get? c = some o → h₅.get? c = some o := fun c o c1 c2 c3 c4 e =>
        hs₅.extBut _ _ c2 (hs₄.extBut _ _ c4 (hs₃.extBut _ _ c2 (hs₂.extBut _ _ c3 (hs₁.extBut _ _ c1 e))))
      have h1₅ : h₅.IsTupleIter i1 l1 (k1 + 1) := ((h1₂.extBut hs₃.extBut D.TOi1.symm).extBut hs₄.extBut D.i12).extBut hs₅.extBut D.TOi1.symm
      have h2₅ : h₅.IsTupleIter i2 l2 (k2 + 1) := h2₄.extBut hs₅.extBut D.TOi2.symm
      have hzlt : z < h₅.objs.size := Heap.lt_size hz₅
      show wpAny _ _ (Builtin.SmallTypes.ownedTupleHandOut (.ref z) (.ref h₅.objs.size) >>= _) _ _ _
      refine wpAny_bind ?_
      unfold Builtin.SmallTypes.ownedTupleHandOut
      have hz₆ : IsZipF (h₅.push { cls := .type "tuple", data := .seq #[x, y] }) z TI TO .ellipsis fl := Heap.get?_push_of_some _ hz₅
      refine wpAny_bind (wpAny_setField_rec hz₆ (by simp) fun h₇ hz₇ hs₇ => ?_)
      replace hz₇ : IsZipF h₇ z TI TO (rawInt h₅.objs.size) fl := hz₇
      refine wpAny_setField_rec hz₇ (by simp) fun h₈ hz₈ hs₈ => ?_
      replace hz₈ : IsZipF h₈ z TI TO (rawInt h₅.objs.size) false := hz₈
      have up : ∀ c o, c ≠ z → h₅.get? c = some o → h₈.get? c = some o := fun c o c1 e => hs₈.extBut _ _ c1 (hs₇.extBut _ _ c1 (Heap.get?_push_of_some _ e))
      have hT₈ : IsPair h₈ h₅.objs.size x y := hs₈.extBut _ _ (Nat.ne_of_gt hzlt) (hs₇.extBut _ _ (Nat.ne_of_gt hzlt) (Heap.get?_push_size _ rfl))
      have hz8 : h₈.objs.size = h₅.objs.size + 1 := by rw [hs₈.1, hs₇.1, Heap.size_push]
      rw [hsz] at hz₈ hT₈ hz8
      refine wpAny_pure ⟨_, rfl, ?_⟩
      show Q (.ref h₅.objs.size) _
      rw [hsz]
      exact hQ h₈ _ _ _ _ (.inr ⟨_, rfl⟩) hz₈ (up _ _ D.TOz hTO₅) (h1₅.at fun o e => up _ o D.i1z e) (h2₅.at fun o e => up _ o D.i2z e) hT₈ hz8 fun c o c1 c2 c3 c4 e => up c o c1 (hk₅ c o c1 c2 c3 c4 e)
    · -- it is out
      simp only [Bool.false_eq_true, if_false]
      refine wpAny_bind ?_
      rw [← Array.forIn_toList]
      simp only [List.forIn_cons, List.forIn_nil]
      refine wpAny_bind (wpAny_bind (wpAny_holding ?_))
      show wpAny _ _ (Builtin.SmallTypes.nextOrEnd (.ref i1)) _ _ _
      refine end_item (s := { s with heap := h0 }) (h1.extBut hs₀.extBut D.i1z) (hl1.extBut hs₀.extBut D.l1z) hx fun h₂ h1₂ hs₂ => ?_
      refine wpAny_pure ?_
      refine wpAny_bind (wpAny_bind (wpAny_holding ?_))
      show wpAny _ _ (Builtin.SmallTypes.nextOrEnd (.ref i2)) _ _ _
      refine end_item (s := { s with heap := h₂ }) ((h2.extBut hs₀.extBut D.i2z).extBut hs₂.extBut D.i12.symm) ((hl2.extBut hs₀.extBut D.l2z).extBut hs₂.extBut D.l2i1) hy fun h₃ h2₃ hs₃ => ?_
      refine wpAny_pure (wpAny_pure ?_)
      show wpAny _ _ (newTuple [x, y] >>= _) _ _ _
      refine wpAny_bind (wpAny_newTuple ?_)
      have hsz : h₃.objs.size = s.heap.objs.size := by rw [hs₃.1, hs₂.1, hs₀.1]
      have hz₃ : IsZipF h₃ z TI TO (rawInt T) true := hs₃.extBut _ _ D.i2z.symm (hs₂.extBut _ _ D.i1z.symm hz₀)
      have hk : ∀ c o, c ≠ z → c ≠ i1 → c ≠ i2 → s.heap.get? c = some o → h₃.get? c = some o := fun c o c1 c2 c3 e => hs₃.extBut _ _ c3 (hs₂.extBut _ _ c2 (hs₀.extBut _ _ c1 e))
      have h1₃ : h₃.IsTupleIter i1 l1 (k1 + 1) := h1₂.extBut hs₃.extBut D.i12
      refine wpAny_pure ⟨_, rfl, ?_⟩
      show Q (.ref h₃.objs.size) _
      have up : ∀ c o, h₃.get? c = some o → (h₃.push { cls := .type "tuple", data := .seq #[x, y] }).get? c = some o := fun c o e => Heap.get?_push_of_some _ e
      have hP : IsPair (h₃.push { cls := .type "tuple", data := .seq #[x, y] }) s.heap.objs.size x y := by rw [← hsz]; exact Heap.get?_push_size _ rfl
      have hS : (h₃.push { cls := .type "tuple", data := .seq #[x, y] }).objs.size = s.heap.objs.size + 1 := by rw [Heap.size_push, hsz]
      rw [hsz]
      exact hQ _ _ _ _ _ (.inr ⟨T, rfl⟩) (up _ _ hz₃) (up _ _ (hk _ _ D.TOz D.TOi1 D.TOi2 hTO)) (h1₃.at fun o e => up _ o e) (h2₃.at fun o e => up _ o e) hP hS fun c o c1 c2 c3 c4 e => up _ _ (hk c o c1 c3 c4 e)

theorem stopF {E' : Value → Shared → Prop} {Q : Fin → Shared → Prop} (hh : A.handled = none) (h : ∀ h' e, (∀ c o, s.heap.get? c = some o → h'.get? c = some o) → (∃ o, h'.get? e = some o ∧ o.cls = .type "StopIteration") → E' (.ref e) { s with heap := h' }) :
    wpAny (model prog w) A (Builtin.SmallTypes.stopIteration : Sem Fin) Q E' s := by
  unfold Builtin.SmallTypes.stopIteration
  refine wpAny_bind ?_
  simp only [newExc, newTuple]
  refine wpAny_bind (wpAny_newObj_type ?_ (by size_fits))
  refine wpAny_bind (m := firstArgMember _ _) (wpAny_of_eq (a := Value.none) (by first | rfl | (simp only [firstArgMember]; rfl)) ?_)
  refine wpAny_newObj_type ?_ (by size_fits)
  simp only [raiseNew]
  refine wpAny_bind (wpAny_handled ?_)
  first | rw [show A.in1.handled = none from hh] | rw [hh]
  refine wpAny_bind (wpAny_pure (wpAny_throw ?_))
  exact h _ _ (fun c o x => Heap.get?_push_of_some _ (Heap.get?_push_of_some _ x)) ⟨_, Heap.get?_push_size _ rfl, rfl⟩
theorem nextF_end {z TI TO i1 i2 l1 l2 : Addr} {k1 k2 : Nat} {xs ys : Array Value} {a b f0 : Value} {fl : Bool} {Q : Fin → Shared → Prop} (hh : A.handled = none) (D : ZipApart z TI TO i1 i2 l1 l2) (hf : Fst f0)
    (hz : IsZipF s.heap z TI TO f0 fl) (hTI : IsPair s.heap TI (.ref i1) (.ref i2)) (hTO : IsPair s.heap TO a b)
    (h1 : s.heap.IsTupleIter i1 l1 k1) (h2 : s.heap.IsTupleIter i2 l2 k2) (hl1 : s.heap.IsTuple l1 xs) (hl2 : s.heap.IsTuple l2 ys) (hx : xs[k1]? = none) (hy : ys[k2]? = none)
    (hE : ∀ h' e, (∀ c o, c ≠ z → c ≠ TO → c ≠ i1 → c ≠ i2 → s.heap.get? c = some o → h'.get? c = some o) → (∃ o, h'.get? e = some o ∧ o.cls = .type "StopIteration") → E (.ref e) { s with heap := h' }) :
    wpAny (model prog w) A (Builtin.«zip.__next__» ⟨[.ref z], []⟩) Q E s := by
  show wpAny _ _ (field (.ref z) 2 >>= _) _ _ _
  refine wpAny_bind (wpAny_field hz rfl (x := .bool true) rfl ?_)
  show wpAny _ _ (field (.ref z) 3 >>= _) _ _ _
  refine wpAny_bind (wpAny_field hz rfl (x := .ref TI) rfl ?_)
  refine wpAny_bind (wpAny_seqItems hTI rfl ?_)
  show wpAny _ _ (Builtin.SmallTypes.ownedTupleIsFree (.ref z) >>= _) _ _ _
  refine wpAny_bind ?_
  refine wpAny_mono (Q := fun r s' => (r = true ∧ s' = s) ∨ (r = false ∧ ∃ h', s' = { s with heap := h' } ∧ (∃ T : Addr, IsZipF h' z TI TO (rawInt T) true) ∧ Heap.SameBut z s.heap h')) (E := fun _ _ => False) ?_ (fun r s' hr => ?_) fun _ _ z => z.elim
  · rcases hf with rfl | ⟨T, rfl⟩
    · exact free_none hz (.inl ⟨rfl, rfl⟩)
    · exact free_int hz (fun _ => .inl ⟨rfl, rfl⟩) fun _ h' hz' hs' => .inr ⟨rfl, h', rfl, ⟨T, hz'⟩, hs'⟩
  · rcases hr with ⟨rfl, rfl⟩ | ⟨rfl, h0, rfl, ⟨T, hz₀⟩, hs₀⟩
    · simp only [if_true]
      refine wpAny_bind (wpAny_rule ?_)
      refine wpAny_bind (wpAny_field hz rfl (x := .ref TO) rfl ?_)
      refine wpAny_bind (wpAny_setField_rec hz (by simp) fun h₁ hz₁ hs₁ => ?_)
      replace hz₁ : IsZipF h₁ z TI TO .ellipsis fl := hz₁
      refine wpAny_bind ?_
      simp only [List.zipIdx_cons, List.zipIdx_nil, List.forIn_cons, List.forIn_nil]
      refine wpAny_bind (wpAny_bind (wpAny_onRaise ?_))
      show wpAny _ _ (Builtin.SmallTypes.nextOrEnd (.ref i1)) _ _ _
      refine end_end hh (h1.extBut hs₁.extBut D.i1z) (hl1.extBut hs₁.extBut D.l1z) hx fun h₂ hs₂ => ?_
      have hz₂ : IsZipF h₂ z TI TO .ellipsis fl := hs₂ _ _ D.i1z.symm hz₁
      refine wpAny_bind (wpAny_setField_rec hz₂ (by simp) fun h₃ _ hs₃ => ?_)
      have h2₃ : h₃.IsTupleIter i2 l2 k2 := ((h2.extBut hs₁.extBut D.i2z).extBut hs₂ D.i12.symm).extBut hs₃.extBut D.i2z
      have hl2₃ : h₃.IsTuple l2 ys := ((hl2.extBut hs₁.extBut D.l2z).extBut hs₂ D.l2i1).extBut hs₃.extBut D.l2z
      refine wpAny_bind ?_
      refine wpAny_bind ?_
      rw [show (List.drop 1 [Value.ref i1, Value.ref i2]).zipIdx 1 = [(Value.ref i2, 1)] from rfl, List.forIn_cons]
      refine wpAny_bind (wpAny_bind (end_end hh h2₃ hl2₃ hy fun h₄ hs₄ => ?_))
      rw [if_neg (show ¬ ((none : Option Value).isSome = true) by simp)]
      refine wpAny_pure ?_
      dsimp only
      rw [List.forIn_nil]
      refine wpAny_pure (wpAny_bind (wpAny_rule ?_))
      refine stopF hh fun h' e k he => hE h' e (fun c o c1 c2 c3 c4 x => k _ _ (hs₄ _ _ c4 (hs₃.extBut _ _ c1 (hs₂ _ _ c3 (hs₁.extBut _ _ c1 x))))) he
    · simp only [Bool.false_eq_true, if_false]
      refine wpAny_bind ?_
      rw [← Array.forIn_toList]
      simp only [List.forIn_cons, List.forIn_nil]
      refine wpAny_bind (wpAny_bind (wpAny_holding ?_))
      show wpAny _ _ (Builtin.SmallTypes.nextOrEnd (.ref i1)) _ _ _
      refine end_end (s := { s with heap := h0 }) hh (h1.extBut hs₀.extBut D.i1z) (hl1.extBut hs₀.extBut D.l1z) hx fun h₂ hs₂ => ?_
      have h2₃ : h₂.IsTupleIter i2 l2 k2 := (h2.extBut hs₀.extBut D.i2z).extBut hs₂ D.i12.symm
      have hl2₃ : h₂.IsTuple l2 ys := (hl2.extBut hs₀.extBut D.l2z).extBut hs₂ D.l2i1
      refine wpAny_bind ?_
      refine wpAny_bind ?_
      rw [show (List.drop 1 [Value.ref i1, Value.ref i2]).zipIdx 1 = [(Value.ref i2, 1)] from rfl, List.forIn_cons]
      refine wpAny_bind (wpAny_bind (end_end (s := { s with heap := h₂ }) hh h2₃ hl2₃ hy fun h₄ hs₄ => ?_))
      rw [if_neg (show ¬ ((none : Option Value).isSome = true) by simp)]
      refine wpAny_pure ?_
      dsimp only
      rw [List.forIn_nil]
      refine wpAny_pure (wpAny_bind (wpAny_rule ?_))
      refine stopF (s := { s with heap := h₄ }) hh fun h' e k he => hE h' e (fun c o c1 c2 c3 c4 x => k _ _ (hs₄ _ _ c4 (hs₂ _ _ c3 (hs₀.extBut _ _ c1 x)))) he
theorem pyNextF_item {z TI TO i1 i2 l1 l2 : Addr} {k1 k2 : Nat} {xs ys : Array Value} {x y a b f0 : Value} {fl : Bool} {Q : Option Value → Shared → Prop} (D : ZipApart z TI TO i1 i2 l1 l2) (hf : Fst f0)
    (hz : IsZipF s.heap z TI TO f0 fl) (hTI : IsPair s.heap TI (.ref i1) (.ref i2)) (hTO : IsPair s.heap TO a b)
    (h1 : s.heap.IsTupleIter i1 l1 k1) (h2 : s.heap.IsTupleIter i2 l2 k2) (hl1 : s.heap.IsTuple l1 xs) (hl2 : s.heap.IsTuple l2 ys) (hx : xs[k1]? = some x) (hy : ys[k2]? = some y)
    (hQ : ∀ h' f0' fl' a' b', Fst f0' → IsZipF h' z TI TO f0' fl' → IsPair h' TO a' b' → h'.IsTupleIter i1 l1 (k1 + 1) → h'.IsTupleIter i2 l2 (k2 + 1) → IsPair h' s.heap.objs.size x y → h'.objs.size = s.heap.objs.size + 1 →
      (∀ c o, c ≠ z → c ≠ TO → c ≠ i1 → c ≠ i2 → s.heap.get? c = some o → h'.get? c = some o) → Q (some (.ref s.heap.objs.size)) { s with heap := h' }) :
    wpAny (model prog w) A (pyNext (.ref z)) Q E s := by
  have hT : s.TypeIs (.ref z) "zip" := ⟨_, hz, rfl⟩
  unfold pyNext
  exact wpAny_bind (wpAny_attempt (wpAny_callSpecial?_slot (name := Str.ofString "__next__") hT F.slot_zip_next
    (wpAny_call_entry F.slot_zip_next hT F.entry_zip_next
      (nextF_item D hf hz hTI hTO h1 h2 hl1 hl2 hx hy fun h' c1 c2 c3 c4 c5 a1 a2 a3 a4 a5 a6 a7 => wpAny_pure (hQ h' c1 c2 c3 c4 c5 a1 a2 a3 a4 a5 a6 a7)) (F.args_zip_next_1 _))))
theorem pyNextF_end {z TI TO i1 i2 l1 l2 : Addr} {k1 k2 : Nat} {xs ys : Array Value} {a b f0 : Value} {fl : Bool} {Q : Option Value → Shared → Prop} (hh : A.handled = none) (D : ZipApart z TI TO i1 i2 l1 l2) (hf : Fst f0)
    (hz : IsZipF s.heap z TI TO f0 fl) (hTI : IsPair s.heap TI (.ref i1) (.ref i2)) (hTO : IsPair s.heap TO a b)
    (h1 : s.heap.IsTupleIter i1 l1 k1) (h2 : s.heap.IsTupleIter i2 l2 k2) (hl1 : s.heap.IsTuple l1 xs) (hl2 : s.heap.IsTuple l2 ys) (hx : xs[k1]? = none) (hy : ys[k2]? = none)
    (hQ : ∀ h', (∀ c o, c ≠ z → c ≠ TO → c ≠ i1 → c ≠ i2 → s.heap.get? c = some o → h'.get? c = some o) → Q none { s with heap := h' }) : wpAny (model prog w) A (pyNext (.ref z)) Q E s := by
  have hT : s.TypeIs (.ref z) "zip" := ⟨_, hz, rfl⟩
  unfold pyNext
  refine wpAny_bind (wpAny_attempt (wpAny_callSpecial?_slot (name := Str.ofString "__next__") hT F.slot_zip_next
    (wpAny_call_entry F.slot_zip_next hT F.entry_zip_next (nextF_end hh D hf hz hTI hTO h1 h2 hl1 hl2 hx hy fun h' e hk he => ?_) (F.args_zip_next_1 _))))
  obtain ⟨o, ho, hc⟩ := he
  refine wpAny_bind (wpAny_isInstance (T := "StopIteration") (b := true) ⟨o, ho, hc⟩ isSubtype_stop ?_)
  exact wpAny_pure (hQ _ hk)
theorem iterF {z TI TO : Addr} {f0 : Value} {fl : Bool} {Q : Value → Shared → Prop} (hz : IsZipF s.heap z TI TO f0 fl) (h : Q (.ref z) s) : wpAny (model prog w) A (pyIter (.ref z)) Q E s := by
  have hT : s.TypeIs (.ref z) "zip" := ⟨_, hz, rfl⟩
  refine wpAny_pyIter_slot hT F.slot_zip_iter (wpAny_call_entry F.slot_zip_iter hT F.entry_zip_iter ?_ (F.args_zip_iter_1 _))
  show wpAny _ _ (ret (.ref z)) _ _ s
  exact wpAny_pure ⟨_, rfl, "zip", _, hT, F.slot_zip_next.lookup, h⟩
end
open PySem.Spec PyProof.Rows L2
theorem turnF {P : Program} {w : World} {K : PySem.W.Frag} {y : Str} {tpos : Pos} {a b z TI TO i1 i2 : Addr} (D : ZipApart z TI TO i1 i2 a b) :
    Turn P w K (.Name y tpos) (ItzS K a b) [z, TI, TO, i1, i2] z (fun i h => (∃ f0 fl, Fst f0 ∧ IsZipF h z TI TO f0 fl) ∧ IsPair h TI (.ref i1) (.ref i2) ∧ (∃ x y, IsPair h TO x y) ∧ h.IsTupleIter i1 a i ∧ h.IsTupleIter i2 b i) where
  mem := by simp
  obj := fun i h st c hc => by
    obtain ⟨⟨f0, fl, _, hz⟩, hTI, ⟨x, y, hTO⟩, ⟨o1, e1, _, d1⟩, ⟨o2, e2, _, d2⟩⟩ := st
    have e' : c = z ∨ c = TI ∨ c = TO ∨ c = i1 ∨ c = i2 := by simpa using hc
    rcases e' with q | q | q | q | q
    · rw [q]; exact ⟨_, hz, fun v q => nomatch q⟩
    · rw [q]; exact ⟨_, hTI, fun v q => nomatch q⟩
    · rw [q]; exact ⟨_, hTO, fun v q => nomatch q⟩
    · rw [q]; exact ⟨o1, e1, fun v q => by rw [d1] at q; cases q⟩
    · rw [q]; exact ⟨o2, e2, fun v q => by rw [d2] at q; cases q⟩
  keep := fun i h h' st k => by
    obtain ⟨⟨f0, fl, hf, hz⟩, hTI, ⟨x, y, hTO⟩, h1, h2⟩ := st
    exact ⟨⟨f0, fl, hf, k z (by simp) _ hz⟩, k TI (by simp) _ hTI, ⟨x, y, k TO (by simp) _ hTO⟩, h1.at fun o q => k i1 (by simp) o q, h2.at fun o q => k i2 (by simp) o q⟩
  item := by
    intro X hP hw hK hc i pins s σ H E I hfp st hg
    subst hP hw hK
    obtain ⟨⟨f0, fl, hf, hz⟩, hTI, ⟨x0, y0, hTO⟩, h1, h2⟩ := st
    obtain ⟨xs, ys, x, y, hqx, hqy, hx, hy⟩ := hg
    obtain ⟨its, rv, p, _⟩ := I.tuple hqx
    obtain ⟨its2, rv2, p2, _⟩ := I.tuple hqy
    obtain ⟨u, hu, ru⟩ := rv.get hx
    obtain ⟨u2, hu2, ru2⟩ := rv2.get hy
    refine pyNextF_item D hf hz hTI hTO h1 h2 p p2 (x := u) (y := u2) (by simpa using hu) (by simpa using hu2) fun h' f0' fl' a' b' hf' z' TO' h1' h2' hT hsz hk => ?_
    refine ⟨_, rfl, wpAny_pure ?_⟩
    have new : ObjOk X.prog X.w (upd H s.heap.objs.size (.tup [x, y])) h' s.heap.objs.size (.tup [x, y]) :=
      ⟨by show 2 ≤ sizeLine; decide, [u, u2], .cons ru (.cons ru2 .nil), ⟨_, hT, rfl, _, rfl⟩⟩
    have I1 : Inv X pins σ (upd H s.heap.objs.size (.tup [x, y])) { s with heap := h' } :=
      I.turnedNew (t' := s.toks) (ch := [z, TI, TO, i1, i2]) (fun c o hb q => hk c o (fun q' => hb (by simp [q'])) (fun q' => hb (by simp [q'])) (fun q' => hb (by simp [q'])) (fun q' => hb (by simp [q'])) q) hfp (Nat.le_refl _) new
    refine ⟨.ref s.heap.objs.size, _, I1, rfl, ⟨_, x, y, rfl, I.hok.fresh (Nat.le_refl _), rfl, fun l hl => by rw [I.tuple_inj hl hqx]; exact hx, fun l hl => by rw [I.tuple_inj hl hqy]; exact hy⟩, ⟨⟨f0', fl', hf', z'⟩, ?_, ⟨a', b', TO'⟩, h1', h2'⟩, fun c hcm => ?_⟩
    · exact hk _ _ D.TIz D.TITO D.TIi1 D.TIi2 hTI
    · have hlt : c < s.heap.objs.size := by
        have e' : c = z ∨ c = TI ∨ c = TO ∨ c = i1 ∨ c = i2 := by simpa using hcm
        rcases e' with q | q | q | q | q
        · rw [q]; exact Heap.lt_size hz
        · rw [q]; exact Heap.lt_size hTI
        · rw [q]; exact Heap.lt_size hTO
        · rw [q]; obtain ⟨_, e1, _⟩ := h1; exact Heap.lt_size e1
        · rw [q]; obtain ⟨_, e2, _⟩ := h2; exact Heap.lt_size e2
      rw [upd_ne (Nat.ne_of_lt hlt)]
      exact (hfp c hcm).1
  done := by
    intro X hP hw hK hc i pins s σ H E I hfp st hg
    subst hP hw hK
    obtain ⟨⟨f0, fl, hf, hz⟩, hTI, ⟨x0, y0, hTO⟩, h1, h2⟩ := st
    obtain ⟨xs, ys, hqx, hqy, hend⟩ := hg
    obtain ⟨its, rv, p, _⟩ := I.tuple hqx
    obtain ⟨its2, rv2, p2, _⟩ := I.tuple hqy
    have l1 := rv.length
    have l2 := rv2.length
    exact pyNextF_end (I.ok.hd hc) D hf hz hTI hTO h1 h2 p p2 (by simp; omega) (by simp; omega) fun h' hk => ⟨rfl, I.turnedL (t' := s.toks) (ch := [z, TI, TO, i1, i2]) (fun c o hb q =>
      hk c o (fun q' => hb (by simp [q'])) (fun q' => hb (by simp [q'])) (fun q' => hb (by simp [q'])) (fun q' => hb (by simp [q'])) q) hfp⟩
  self := fun A i s Q E st h => by
    obtain ⟨⟨f0, fl, hf, hz⟩, _⟩ := st
    exact iterF hz h
theorem pi_zipF {X : Cx} {e e2 : Expr} {ta : TA} {p pos tpos kp cp : Pos} {y : Str} {j : Nat} (hg : Gl X "zip") (hm : X.mg "zip" = none) (ha : PA X [e, e2] ta)
    (hs : starEach [e, e2] X.env = (false, eval e X.env) :: starEach [e2] X.env := by rfl) (hpl : (backTo pos (starEach [e2] X.env)).any (·.1) = false := by rfl) :
    PI X (.Name y tpos) (.Call (.Name "zip" p) [e, e2] [⟨some "strict", .Constant (.bool true) j cp, kp⟩] pos) (iZipS X.K ta) := by
  refine ⟨fun pins s σ H R I h => ?_⟩
  have he : backTo pos (starEach [e, e2] X.env) = (false, eval e X.env) :: backTo pos (starEach [e2] X.env) := by rw [hs]; rfl
  refine wpAny_Call_Name_kw (ld_blt I hg hm PyProof.Rows.boot_zip (callWith_typeKw (thn (ha.run pos pins s σ H _ I h) fun us s1 ⟨vs, H1, I1, r1, q1⟩ => PyProof.Rows.kws_cons (wpAny_Constant_bool (PyProof.Rows.kws_nil ?_))) he (by rw [he]; show (false || (backTo pos (starEach [e2] X.env)).any (·.1)) = false; rw [hpl]; rfl)))
  obtain ⟨a, b, xs, ys, ex, hqx, hqy, q⟩ := q1
  subst ex
  cases r1 with
  | cons r rr =>
    cases rr with
    | cons r' rr =>
      cases rr
      cases r
      cases r'
      have fresh5 : ∀ c, c ∈ [s1.heap.objs.size + 4, s1.heap.objs.size + 2, s1.heap.objs.size + 3, s1.heap.objs.size, s1.heap.objs.size + 1] → FpOk X pins H1 c := fun c hcm => by
        have e' : c = s1.heap.objs.size + 4 ∨ c = s1.heap.objs.size + 2 ∨ c = s1.heap.objs.size + 3 ∨ c = s1.heap.objs.size ∨ c = s1.heap.objs.size + 1 := by simpa using hcm
        have hle : s1.heap.objs.size ≤ c := by
          rcases e' with z | z | z | z | z
          · rw [z]; exact Nat.le_add_right _ _
          · rw [z]; exact Nat.le_add_right _ _
          · rw [z]; exact Nat.le_add_right _ _
          · rw [z]; exact Nat.le_refl _
          · rw [z]; exact Nat.le_add_right _ _
        exact I1.fpOk hle (I1.hok.fresh hle)
      obtain ⟨its, rv, p1, _⟩ := I1.tuple hqx
      obtain ⟨its2, rv2, p2, _⟩ := I1.tuple hqy
      obtain ⟨o1, ho1, _⟩ := id p1
      obtain ⟨o2, ho2, _⟩ := id p2
      show wpAny _ _ (call (.type "zip") [.ref a, .ref b] [("strict", .bool true)]) _ _ _
      refine callS (show s1.heap.IsTuple a its.toArray from p1) (show s1.heap.IsTuple b its2.toArray from p2) fun h' hz hTI hTO h1 h2 hsz hk => iterS hz ?_
      have I2 : Inv X pins σ H1 { s1 with heap := h' } := I1.kept (t' := s1.toks) hk
      exact ⟨s1.heap.objs.size + 4, [s1.heap.objs.size + 4, s1.heap.objs.size + 2, s1.heap.objs.size + 3, s1.heap.objs.size, s1.heap.objs.size + 1], _, _, H1, rfl, I2, turnF (PySem.W.ktu_apart s1.heap.objs.size a b (Heap.lt_size ho1) (Heap.lt_size ho2)), ⟨⟨.none, false, .inl rfl, hz⟩, hTI, ⟨_, _, hTO⟩, h1, h2⟩, fresh5, q⟩
end ZN
namespace DL
open PySem PySem.Spec PyProof.Rows L2
section
variable {X : Cx} {W : WX} {a b : Expr} {r : TAD} {pos : Pos}
theorem di_zipN {p tpos kp cp : Pos} {y : Str} {j : Nat} (hm : X.mg "zip" = none) (ha : DA X W [a, b] r) (hg : Gl X "zip" := by rfl)
    (hs : starEach [a, b] X.env = (false, eval a X.env) :: starEach [b] X.env := by rfl) (hpl : (backTo pos (starEach [b] X.env)).any (·.1) = false := by rfl) :
    DI X W (.Name y tpos) (.Call (.Name "zip" p) [a, b] [⟨some "strict", .Constant (.bool true) j cp, kp⟩] pos) (iZipSD r) := by
  obtain ⟨u, p, r⟩ := ha.ex
  refine ⟨_, ZN.pi_zipF hg hm p hs hpl, fun F0 E hw F ρ w σ H Qd R at_ hh k => r F0 E hw F ρ w σ H _ _ at_ hh fun xs w1 F1 vs H1 e1 h1 d1 q1 => ?_⟩
  obtain ⟨ds, es, rfl, hl, q⟩ := q1
  obtain ⟨v, v', rfl, dv, dv'⟩ := d1.two
  obtain ⟨a1, us, rfl, g1, g2⟩ := dv.tup_
  obtain ⟨a2, ws, rfl, g3, g4⟩ := dv'.tup_
  exact ⟨a1, a2, us, ws, rfl, Evl.ex_t h1.ex g1, Evl.ex_t h1.ex g3, k _ w1 F1 _ H1 e1 h1 (itd_zipS g1 g2 g3 g4 hl) q⟩
end
end DL
set_option Elab.async false
set_option linter.all false
set_option maxRecDepth 100000
set_option maxHeartbeats 1000000
/-! DL19: the readings as equations for simp. -/
namespace DL
open PySem PySem.Spec PyProof.Rows L2
section
variable {E : XD} {ρ ρ' : Rho} {w : Wd} {Q : VKD} {R : List D → Wd → Prop} {B : Bool → Wd → Prop} {De : EndsD} {i j n : Nat} {d : D} {t ta tb tc : TED} {r : TAD} {tA tB : TTD} {s u : TSD} {f g : R2D} {c : RcD}
@[simp] theorem dVar_eq : dVar i E ρ w Q = ∃ d, ρ[i]? = some (some d) ∧ Q d w := rfl
@[simp] theorem dC_eq : dC d E ρ w Q = Q d w := rfl
@[simp] theorem dNil_eq : dNil E ρ w R = R [] w := rfl
@[simp] theorem dCons_eq : dCons t r E ρ w R = t E ρ w fun x w1 => r E ρ w1 fun xs w2 => R (x :: xs) w2 := rfl
@[simp] theorem dStar_eq : dStar t r E ρ w R = t E ρ w fun x w1 => ∃ ds, seqD w1 x = some ds ∧ r E ρ w1 fun xs w2 => R (ds ++ xs) w2 := rfl
@[simp] theorem dTup_eq : dTup r E ρ w Q = r E ρ w fun xs w1 => xs.length ≤ sizeLine ∧ Q (.tup xs) w1 := rfl
@[simp] theorem dLst_eq : dLst r E ρ w Q = r E ρ w fun xs w1 => xs.length ≤ sizeLine ∧ Q (.lst xs) w1 := rfl
@[simp] theorem dLstW_eq : dLstW r E ρ w Q = r E ρ w fun xs w1 => xs.length ≤ sizeLine ∧ ∀ a, w1 a = none → Q (.ref a) (wupd w1 a (.lst xs)) := rfl
@[simp] theorem dBin_eq : dBin f ta tb E ρ w Q = ta E ρ w fun x w1 => tb E ρ w1 fun y w2 => f x y w2 Q := rfl
@[simp] theorem dTest_eq : dTest t E ρ w B = t E ρ w fun x w1 => ∃ k, x = .bl k ∧ B k w1 := rfl
@[simp] theorem dTru_eq : dTru t E ρ w B = t E ρ w fun x w1 => truD x w1 fun k => B k w1 := rfl
@[simp] theorem dNeg_eq : dNeg t E ρ w Q = t E ρ w fun x w1 => ∃ i, x = .int i ∧ Q (.int (-i)) w1 := rfl
@[simp] theorem dAnd_eq : dAnd tA tB E ρ w B = tA E ρ w fun c w1 => if c = true then tB E ρ w1 B else B false w1 := rfl
@[simp] theorem dOr_eq : dOr tA tB E ρ w B = tA E ρ w fun c w1 => if c = true then B true w1 else tB E ρ w1 B := rfl
@[simp] theorem dNot_eq : dNot tA E ρ w B = tA E ρ w fun c w1 => B (!c) w1 := rfl
@[simp] theorem dAndV_eq : dAndV ta tb E ρ w Q = ta E ρ w fun x w1 => ∃ c, x = .bl c ∧ if c = true then tb E ρ w1 Q else Q (.bl false) w1 := rfl
@[simp] theorem dOrV_eq : dOrV ta tb E ρ w Q = ta E ρ w fun x w1 => ∃ c, x = .bl c ∧ if c = true then Q (.bl true) w1 else tb E ρ w1 Q := rfl
@[simp] theorem dNotV_eq : dNotV ta E ρ w Q = ta E ρ w fun x w1 => ∃ c, x = .bl c ∧ Q (.bl (!c)) w1 := rfl
@[simp] theorem dIf_eq : dIf tA ta tb E ρ w Q = tA E ρ w fun c w1 => if c = true then ta E ρ w1 Q else tb E ρ w1 Q := rfl
@[simp] theorem dIfS_eq : dIfS tA s u E De ρ w = tA E ρ w fun b w1 => if b = true then s E De ρ w1 else u E De ρ w1 := rfl
@[simp] theorem dSeq_eq : dSeq s u E De ρ w = s E { De with nx := u E De } ρ w := rfl
@[simp] theorem dNext_eq : dNext E De ρ w = De.nx ρ w := rfl
@[simp] theorem dRet_eq : dRet t E De ρ w = t E ρ w fun x w1 => ∃ x' w2, Frz x w1 x' w2 ∧ De.rt x' w2 := rfl
@[simp] theorem dRetN_eq : dRetN E De ρ w = ∃ w2, WLe w2 w ∧ De.rt .non w2 := rfl
@[simp] theorem dSet_eq : dSet i t E De ρ w = t E ρ w fun x w1 => De.nx (ρ.set i (some x)) w1 := rfl
@[simp] theorem dAsg_eq {gg : TGD} : dAsg t gg E De ρ w = t E ρ w fun x w1 => gg x ρ w1 De.nx := rfl
@[simp] theorem dPar_eq : dPar i j r E De ρ w = r E ρ w fun xs w1 => ∃ x y, xs = [x, y] ∧ De.nx ((ρ.set i (some x)).set j (some y)) w1 := rfl
@[simp] theorem dAug_eq : dAug i t f E De ρ w = ∃ x, ρ[i]? = some (some x) ∧ t E ρ w fun y w1 => f x y w1 fun z w2 => De.nx (ρ.set i (some z)) w2 := rfl
@[simp] theorem dDrop_eq : dDrop t E De ρ w = t E ρ w fun _ w1 => De.nx ρ w1 := rfl
@[simp] theorem dCB_eq : dCB c r E ρ w Q = r E ρ w fun ds w1 => c ds w1 Q := rfl
@[simp] theorem dM1_eq {m : RmD} : dM1 m ta tb E ρ w Q = ta E ρ w fun x w1 => ∃ z, x = .str z ∧ tb E ρ w1 fun y w2 => m x [y] w2 Q := rfl
@[simp] theorem dYes_eq : dYes E ρ w B = B true w := rfl
@[simp] theorem gdName_eq {G : Rho → Wd → Prop} : gdName i d ρ w G = G (ρ.set i (some d)) w := rfl
@[simp] theorem isND_eq : isND t E ρ w Q = t E ρ w fun x w1 => Q (.bl (isNon x)) w1 := rfl
@[simp] theorem notND_eq : notND t E ρ w Q = t E ρ w fun x w1 => Q (.bl (!isNon x)) w1 := rfl
@[simp] theorem isNT_eq : isNT t E ρ w B = t E ρ w fun x w1 => B (isNon x) w1 := rfl
@[simp] theorem notNT_eq : notNT t E ρ w B = t E ρ w fun x w1 => B (!isNon x) w1 := rfl
@[simp] theorem dSl_eq {l h : TOD} : dSl t l h E ρ w Q = t E ρ w fun x w1 => l E ρ w1 fun lo w2 => h E ρ w2 fun hi w3 => slD x lo hi w3 Q := rfl
@[simp] theorem dNoPart_eq {O : Option Int → Wd → Prop} : dNoPart E ρ w O = O none w := rfl
@[simp] theorem dPart_eq {O : Option Int → Wd → Prop} : dPart t E ρ w O = t E ρ w fun x w1 => ∃ i, x = .int i ∧ O (some i) w1 := rfl
@[simp] theorem dCall_eq {sp : SpD} {dd : List D} : dCall n sp dd r E ρ w Q = r E ρ w fun ds w1 => (ds ++ dd).length = n ∧ sp (ds ++ dd) w1 (fun x w' => E x ρ w') Q := rfl
@[simp] theorem dChain_eq : dChain f g ta tb tc E ρ w Q = ta E ρ w fun x w1 => tb E ρ w1 fun y w2 => f x y w2 fun z w3 => ∃ k, z = .bl k ∧ if k = true then tc E ρ w3 fun u w4 => g y u w4 Q else Q (.bl false) w3 := rfl
@[simp] theorem iSeqS_eq : iSeqS t E ρ w R = t E ρ w fun x w1 => ∃ z, x = .str z ∧ R (strD z) w1 := rfl
@[simp] theorem iSeqL_eq : iSeqL t E ρ w R = t E ρ w fun x w1 => ∃ ds, (x = .lst ds ∨ x = .rls ds) ∧ R ds w1 := rfl
@[simp] theorem iSeqT_eq : iSeqT t E ρ w R = t E ρ w fun x w1 => ∃ ds, x = .tup ds ∧ R ds w1 := rfl
@[simp] theorem leD_eq {x y : D} : leD x y w Q = ∃ i j, x = .int i ∧ y = .int j ∧ Q (.bl (decide (i ≤ j))) w := rfl
@[simp] theorem gtD_eq {x y : D} : gtD x y w Q = ∃ i j, x = .int i ∧ y = .int j ∧ Q (.bl (decide (i > j))) w := rfl
@[simp] theorem wipeD_one {v : Nat} : wipeD ρ [v] = ρ.set v none := rfl
@[simp] theorem startD_eq {N : List Str} {ds : List D} : startD N ds = ds.map some ++ List.replicate (N.length - ds.length) none := rfl
@[simp] theorem isNon_non : isNon .non = true := rfl
@[simp] theorem isNon_int {k : Int} : isNon (.int k) = false := rfl
@[simp] theorem isNon_str {k : Str} : isNon (.str k) = false := rfl
@[simp] theorem isNon_tup {k : List D} : isNon (.tup k) = false := rfl
end
end DL
set_option Elab.async false
set_option linter.all false
set_option maxRecDepth 100000
set_option maxHeartbeats 1000000
/-! DL20: base readings on values of a known shape; comprehensions that map. -/
namespace DL
open PySem PySem.Spec PyProof.Rows L2 TL
section
variable {E : XD} {ρ ρ' : Rho} {w : Wd} {Q : VKD} {x y : Str} {i j : Int} {a b : Bool} {lo hi : Option Int} {xs ys : List D}
@[simp] theorem lenD_str : lenD [.str x] w Q ↔ x.length ≤ sizeLine ∧ Q (.int x.length) w := by
  unfold lenD; constructor
  · rintro ⟨_, h, k⟩; cases h; exact k
  · intro k; exact ⟨_, rfl, k⟩
@[simp] theorem lenD_lst : lenD [.lst xs] w Q ↔ Q (.int xs.length) w := by
  unfold lenD; constructor
  · rintro ⟨_, h, k⟩; cases h; obtain ⟨_, h, k⟩ := k; cases h; exact k
  · intro k; exact ⟨_, rfl, _, rfl, k⟩
@[simp] theorem lenD_tup : lenD [.tup xs] w Q ↔ Q (.int xs.length) w := by
  unfold lenD; constructor
  · rintro ⟨_, h, k⟩; cases h; obtain ⟨_, h, k⟩ := k; cases h; exact k
  · intro k; exact ⟨_, rfl, _, rfl, k⟩
@[simp] theorem eqRD_str : eqRD (.str x) (.str y) w Q ↔ Q (.bl (decide (x = y))) w := Iff.rfl
@[simp] theorem neRD_str : neRD (.str x) (.str y) w Q ↔ Q (.bl (!decide (x = y))) w := Iff.rfl
@[simp] theorem eqRD_int : eqRD (.int i) (.int j) w Q ↔ Q (.bl (decide (i = j))) w := Iff.rfl
@[simp] theorem neRD_int : neRD (.int i) (.int j) w Q ↔ Q (.bl (!decide (i = j))) w := Iff.rfl
@[simp] theorem slD_str : slD (.str x) lo hi w Q ↔ x.length ≤ sizeLine ∧ Q (.str (cutS x lo hi)) w := Iff.rfl
@[simp] theorem slD_tup : slD (.tup xs) lo hi w Q ↔ Q (.tup (cutD xs lo hi)) w := Iff.rfl
@[simp] theorem slD_lst : slD (.lst xs) lo hi w Q ↔ Q (.lst (cutD xs lo hi)) w := by
  show (∃ ds, lstD w (.lst xs) = some ds ∧ _) ↔ _
  constructor
  · rintro ⟨_, h, k⟩; cases h; exact k
  · intro k; exact ⟨_, rfl, k⟩
@[simp] theorem ixD_str : ixD (.str x) (.int i) w Q ↔ x.length ≤ sizeLine ∧ ∃ c, atI x.cps.toList i = some c ∧ Q (.str ⟨#[c]⟩) w := by
  unfold ixD; constructor
  · rintro ⟨_, h, k⟩; cases h; exact k
  · intro k; exact ⟨_, rfl, k⟩
@[simp] theorem ixD_tup : ixD (.tup xs) (.int i) w Q ↔ ∃ d, atI xs i = some d ∧ Q d w := by
  unfold ixD; constructor
  · rintro ⟨_, h, k⟩; cases h; obtain ⟨_, d, h, k⟩ := k; cases h; exact ⟨d, k⟩
  · rintro ⟨d, k⟩; exact ⟨_, rfl, _, d, rfl, k⟩
@[simp] theorem ixD_lst : ixD (.lst xs) (.int i) w Q ↔ ∃ d, atI xs i = some d ∧ Q d w := by
  unfold ixD; constructor
  · rintro ⟨_, h, k⟩; cases h; obtain ⟨_, d, h, k⟩ := k; cases h; exact ⟨d, k⟩
  · rintro ⟨d, k⟩; exact ⟨_, rfl, _, d, rfl, k⟩
@[simp] theorem intCD_str : intCD [.str x] w Q ↔ ∃ n : Int, PySem.intText? x = some n ∧ x.length ≤ 640 ∧ Q (.int n) w := by
  unfold intCD; constructor
  · rintro ⟨_, h, k⟩; cases h; exact k
  · intro k; exact ⟨_, rfl, k⟩
@[simp] theorem intCD_bl : intCD [.bl a] w Q ↔ Q (.int (if a then 1 else 0)) w := by
  unfold intCD; constructor
  · rintro ⟨_, h, k⟩; cases h; exact k
  · intro k; exact ⟨_, rfl, k⟩
@[simp] theorem strCD_int : strCD [.int i] w Q ↔ i.natAbs.log2 < 1920 ∧ Q (.str (toString i)) w := by
  unfold strCD; constructor
  · rintro ⟨_, h, k⟩; cases h; exact k
  · intro k; exact ⟨_, rfl, k⟩
@[simp] theorem tupCD_lst : tupCD [.lst xs] w Q ↔ Q (.tup xs) w := by
  unfold tupCD; constructor
  · rintro ⟨_, _, h, k, q⟩; cases h; cases k; exact q
  · intro k; exact ⟨_, _, rfl, rfl, k⟩
@[simp] theorem tupCD_tup : tupCD [.tup xs] w Q ↔ Q (.tup xs) w := by
  unfold tupCD; constructor
  · rintro ⟨_, _, h, k, q⟩; cases h; cases k; exact q
  · intro k; exact ⟨_, _, rfl, rfl, k⟩
@[simp] theorem inD_str {n : Bool} {c : Nat} : inD n (.str ⟨#[c]⟩) (.str y) w Q ↔ Q (.bl (if n then !decide (c ∈ y.cps.toList) else decide (c ∈ y.cps.toList))) w := by
  show (∃ c' : Nat, D.str ⟨#[c]⟩ = .str ⟨#[c']⟩ ∧ _) ↔ _
  constructor
  · rintro ⟨_, h, k⟩; cases h; exact k
  · intro k; exact ⟨_, rfl, k⟩
@[simp] theorem gdTup_tup {n : Nat} {gs : TGsD} {G : Rho → Wd → Prop} : gdTup n gs (.tup xs) ρ w G ↔ xs.length = n ∧ gs xs ρ w G := by
  unfold gdTup; constructor
  · rintro ⟨_, h, k⟩; cases h; exact k
  · intro k; exact ⟨_, rfl, k⟩
@[simp] theorem gdCons_cons {g : TGD} {gs : TGsD} {G : Rho → Wd → Prop} {d : D} : gdCons g gs (d :: xs) ρ w G ↔ g d ρ w fun ρ' w' => gs xs ρ' w' G := by
  unfold gdCons; constructor
  · rintro ⟨_, _, h, k⟩; cases h; exact k
  · intro k; exact ⟨_, _, rfl, k⟩
@[simp] theorem gdNil_nil {G : Rho → Wd → Prop} : gdNil [] ρ w G ↔ G ρ w := by
  unfold gdNil; simp
@[simp] theorem seqD_tup : seqD w (.tup xs) = some xs := rfl
@[simp] theorem seqD_lst : seqD w (.lst xs) = some xs := rfl
@[simp] theorem seqD_rls : seqD w (.rls xs) = some xs := rfl
@[simp] theorem fNinK_eq {d : Addr} {tab : List (Str × D)} : fNinK d tab (.str x) (.ref d) w Q ↔ Q (.bl (!(tab.lookup x).isSome)) w := by
  unfold fNinK; constructor
  · rintro ⟨_, h, _, k⟩; cases h; exact k
  · intro k; exact ⟨_, rfl, rfl, k⟩
@[simp] theorem dGetK_eq {d : Addr} {tab : List (Str × D)} {ta tb : TED} : dGetK d tab ta tb E ρ w Q ↔ ta E ρ w fun p w1 => tb E ρ w1 fun q w2 => ∃ z v, p = .ref d ∧ q = .str z ∧ tab.lookup z = some v ∧ Q v w2 := Iff.rfl
@[simp] theorem truD_bl {B : Bool → Prop} : truD (.bl a) w B ↔ B a := Iff.rfl
theorem allD_lst {bs : List Bool} (h : Q (.bl (bs.all id)) w) : allD [.lst (bs.map D.bl)] w Q := ⟨_, bs, rfl, rfl, h⟩
@[simp] theorem addD_str : addD (.str x) (.str y) w Q ↔ x.length + y.length ≤ sizeLine ∧ Q (.str (x ++ y)) w := Iff.rfl
@[simp] theorem addD_int : addD (.int i) (.int j) w Q ↔ Q (.int (i + j)) w := Iff.rfl
@[simp] theorem iaddD_str : iaddD (.str x) (.str y) w Q ↔ x.length + y.length ≤ sizeLine ∧ Q (.str (x ++ y)) w := Iff.rfl
end
/-- [f x for x in xs] where each f x is told without the world -/
theorem lc_map1 {ti : TID} {g : TGD} {te : TED} {vs : List Nat} {E : XD} {ρ : Rho} {w w1 : Wd} {Q : VKD} (ds : List D) (f : D → D) (hti : ∀ R : List D → Wd → Prop, R ds w1 → ti E ρ w R) (hl : ds.length ≤ sizeLine)
    (hte : ∀ (i : Nat) d w' Q', ds[i]? = some d → Q' (f d) w' → g d (wipeD ρ vs) w' fun ρ2 w2 => te E0D ρ2 w2 Q') (hq : Q (.lst (ds.map f)) w1) : dLc ti g dYes te vs E ρ w Q := by
  refine hti _ fun D hD => ?_
  refine ⟨fun i w' => w' = wupd w1 D (.lst ((ds.take i).map f)), ?_, fun i d w' hd e => ?_, fun w' e => ?_⟩
  · simp
  · subst e
    refine hte i d _ _ hd ?_
    have hi : i < ds.length := (List.getElem?_eq_some_iff.mp hd).1
    refine ⟨_, wupd_same, by simp; omega, ?_⟩
    show wupd (wupd _ _ _) _ _ = _
    rw [wupd_upd, List.take_succ, hd]
    simp
  · subst e
    refine ⟨_, _, Frz.lst wupd_same, ?_⟩
    rw [wdel_upd hD, List.take_length]
    exact hq
/-! ### texts as lists of signs -/
def mkS (l : List Nat) : Str := ⟨l.toArray⟩
@[simp] theorem tl_mkS (l : List Nat) : tl (mkS l) = l := rfl
theorem len_mkS (l : List Nat) : (mkS l).length = l.length := by simp [mkS, Str.length]
theorem mkS_tl (x : Str) : mkS (tl x) = x := mk_tl x
theorem str_eq_iff {x y : Str} : x = y ↔ tl x = tl y := ⟨fun h => by rw [h], ext_tl⟩
theorem cut_head (x : Str) : cutS x none (some 1) = mkS ((tl x).take 1) := by
  unfold cutS mkS
  rw [HT.sIx_none, show (some (1 : Int)) = some ((1 : Nat) : Int) from rfl, HT.sIx_nat, len_tl x, show x.cps.toList = tl x from rfl]
  generalize tl x = l
  cases l <;> simp
theorem cut_tail (x : Str) : cutS x (some 1) none = mkS (tl x).tail := by
  unfold cutS mkS
  rw [HT.sIx_none, show (some (1 : Int)) = some ((1 : Nat) : Int) from rfl, HT.sIx_nat, len_tl x, show x.cps.toList = tl x from rfl]
  generalize tl x = l
  cases l <;> simp
theorem atI_zero {α : Type} (a : α) (l : List α) : atI (a :: l) 0 = some a := by
  unfold atI ixN
  simp
end DL
set_option Elab.async false
set_option linter.all false
set_option maxRecDepth 100000
set_option maxHeartbeats 1000000
/-! DL21: how operators' readings are met. -/
namespace DL
open PySem PySem.Spec PyProof.Rows L2 TL
section
variable {w : Wd} {Q : VKD} {i j : Int}
theorem mod_i (h : 0 < j) (q : Q (.int (i % j)) w) : modD (.int i) (.int j) w Q := ⟨_, _, rfl, rfl, h, q⟩
theorem fdiv_i (h : 0 < j) (h2 : j < 1073741824) (q : Q (.int (i / j)) w) : fdivD (.int i) (.int j) w Q := ⟨_, _, rfl, rfl, ⟨h, h2⟩, q⟩
theorem sub_i (q : Q (.int (i - j)) w) : subD (.int i) (.int j) w Q := ⟨_, _, rfl, rfl, q⟩
theorem mulL_i (h1 : -(2 ^ 64) < i) (h2 : i < 2 ^ 64) (q : Q (.int (i * j)) w) : mulD (.int i) (.int j) w Q := ⟨_, _, rfl, rfl, .inl ⟨h1, h2⟩, q⟩
theorem mulR_i (h1 : -(2 ^ 64) < j) (h2 : j < 2 ^ 64) (q : Q (.int (i * j)) w) : mulD (.int i) (.int j) w Q := ⟨_, _, rfl, rfl, .inr ⟨h1, h2⟩, q⟩
theorem pow_i {n : Nat} (hn : n ≤ 1000000) (h : i.natAbs < 2 ^ 64) (q : Q (.int (i ^ n)) w) : powD (.int i) (.int (n : Int)) w Q := ⟨_, _, rfl, rfl, ⟨by omega, by omega, h⟩, by show Q (.int (i ^ ((n : Int)).toNat)) w; rw [Int.toNat_natCast]; exact q⟩
theorem lt_i (q : Q (.bl (decide (i < j))) w) : ltD (.int i) (.int j) w Q := ⟨_, _, rfl, rfl, q⟩
theorem le_i (q : Q (.bl (decide (i ≤ j))) w) : leD (.int i) (.int j) w Q := ⟨_, _, rfl, rfl, q⟩
theorem gt_i (q : Q (.bl (decide (j < i))) w) : gtD (.int i) (.int j) w Q := ⟨_, _, rfl, rfl, q⟩
theorem ge_i (q : Q (.bl (decide (j ≤ i))) w) : geD (.int i) (.int j) w Q := ⟨_, _, rfl, rfl, q⟩
theorem add_i (q : Q (.int (i + j)) w) : addD (.int i) (.int j) w Q := q
theorem abs_i (q : Q (.int (if i < 0 then -i else i)) w) : absD [.int i] w Q := ⟨_, rfl, q⟩
/-- a list of the world, frozen where the loop begins -/
def iSeqW (t : TED) : TID := fun E ρ w Q => t E ρ w fun x w1 => ∃ a ds, x = .ref a ∧ w1 a = some (.lst ds) ∧ Q ds (wdel w1 a)
theorem di_listW {X : Cx} {W : WX} {tg e : Expr} {t : TED} (h : DE X W e t) : DI X W tg e (iSeqW t) := by
  obtain ⟨u, p, r⟩ := h.ex
  refine ⟨_, pi_list p, fun F0 E hw F ρ w σ H Qd R at_ hh k => r F0 E hw F ρ w σ H _ _ at_ hh fun x w1 F1 v H1 e1 h1 d1 q1 => ?_⟩
  obtain ⟨a, ds, rfl, ha, q⟩ := q1
  obtain ⟨F', e2, r2, d2⟩ := h1.freeze ha
  cases d1.ref_
  obtain ⟨a', us, ea, g1, g2⟩ := d2.lst_
  cases ea
  exact ⟨a, rfl, ⟨us, SqL.of (r2.ex _ _ g1)⟩, k ds _ F' _ H1 (e1.trans e2) r2 (itd_list (SqL.of g1) g2) q⟩
end
end DL
set_option Elab.async false
set_option linter.all false
set_option maxRecDepth 100000
set_option maxHeartbeats 2000000
/-! DL22: the end of a law over promises that know the guards. -/
namespace DL
open PySem PySem.Spec PyProof.Rows L2 LamX
/-- the abstract heap at the law's call: the tables ts, the script at a where no fact tells it -/
def headH (K : PySem.W.Frag) (a : Addr) (sc : Obj) (xs : List V) (ts : List Addr) : Hp := fun b =>
  if b ∈ ts then some (.tbl #[]) else if b = a ∧ K.lookup a = none then some (.frz sc (.lst xs)) else none
section
variable {K : PySem.W.Frag} {a b : Addr} {sc : Obj} {xs : List V} {ts : List Addr}
theorem headH_tbl (h : b ∈ ts) : headH K a sc xs ts b = some (.tbl #[]) := if_pos h
theorem headH_cases {u : HO} (h : headH K a sc xs ts b = some u) : (b ∈ ts ∧ u = .tbl #[]) ∨ (b ∉ ts ∧ b = a ∧ K.lookup a = none ∧ u = .frz sc (.lst xs)) := by
  unfold headH at h
  split at h
  · rename_i hb
    exact .inl ⟨hb, by cases h; rfl⟩
  · rename_i hb
    split at h
    · rename_i q
      exact .inr ⟨hb, q.1, q.2, by cases h; rfl⟩
    · cases h
end
theorem law_callG {P : Program} {w : World} {K : PySem.W.Frag} {mg mb : Str → Option Value} {k : Nat} {fa a : Addr} {cs : List (Addr × Addr)} {fd : FuncData} {x : Str} {sp : Sp} {s : Shared} {vs : List Value} {ns : List Int}
    (kin : K.In s.heap) (nsm : s.heap.Ns mainGlobals mg) (nsb : s.heap.Ns builtinsNs mb) (blt : ∀ y : Str, y ≠ "__name__" → mb y = bootBuiltins y) (nol : s.heap.NoLimit) (ng : s.gens = #[])
    (tE : ∀ p ∈ cs, s.heap.get? p.2 = some { cls := .none, data := .fields #[] }) (tK : ∀ p ∈ cs, K.lookup p.2 = none) (tC : ∀ p ∈ cs, PySem.W.CodeHd s.heap p.1 p.2)
    (bmn : ∃ (bm : Addr) (ob : Obj), mg "__builtins__" = some (.ref bm) ∧ bm ≠ builtinsNs ∧ s.heap.get? bm = some ob ∧ ob.cls = .type "module" ∧ ob.dict = some builtinsNs ∧ ob.data = .plain)
    (scr : s.heap.get? a = some { cls := .type "list", data := .seq vs.toArray }) (hin : IntsAre vs ns) (small : ns.length ≤ sizeLine) (room : RoomG k callerA)
    (F : ∀ base : Heap, K.In base → base.Ns mainGlobals mg → (∀ p ∈ cs, TabB base mg p.1 p.2) → FnG P w K mg base k fa fd [x] sp) (bind : ∀ (s : Shared) (u : Value), BindsTo s fd ⟨[u], []⟩ [(x, u)])
    (prom : ∀ H : Hp, (∀ p ∈ cs, H p.2 = some (.tbl #[])) → SqL K H a (ns.map V.int) → sp [.ref a] H (fun v _ => v = .bl true) fun _ _ _ => False) :
    codeAny (model P w) callerA (.call (.ref fa) ⟨[.ref a], []⟩) (fun r s' => r = .ok (.ret (.bool true)) ∧ OldK s.heap s'.heap ∧ s'.os = s.os ∧ AllBare s'.gens) s := by
  let ts := cs.map (·.2)
  let sc : Obj := { cls := .type "list", data := .seq vs.toArray }
  have vals := vals_ints hin
  have sameLen := hin.length
  have tsE : ∀ b ∈ ts, s.heap.get? b = some { cls := .none, data := .fields #[] } := fun b hb => by
    obtain ⟨p, hp, rfl⟩ := List.mem_map.1 hb
    exact tE p hp
  have aOut : a ∉ ts := fun z => by
    have := scr.symm.trans (tsE a z)
    injection this with this
    injection this with _ _ h
    cases h
  -- the abstract heap
  have tbl : ∀ p ∈ cs, headH K a sc (ns.map V.int) ts p.2 = some (.tbl #[]) := fun p hp => headH_tbl (List.mem_map_of_mem hp)
  have hok : HOk P w (headH K a sc (ns.map V.int) ts) s.heap := fun b u hu => by
    rcases headH_cases hu with ⟨hb, rfl⟩ | ⟨_, rfl, _, rfl⟩
    · exact tsE b hb
    · exact ⟨scr, by rw [List.length_map]; exact small, vs, _, vals, scr⟩
  have sq : SqL K (headH K a sc (ns.map V.int) ts) a (ns.map V.int) := by
    cases hk : K.lookup a with
    | some o =>
      have eo := kin a o hk
      rw [scr] at eo
      cases eo
      exact .inr ⟨_, vs.toArray, _, hk, rfl, rfl, rfl, by rw [List.size_toArray, sameLen]; exact small, by simpa using vals⟩
    | none => exact .inl (.inr ⟨sc, by unfold headH; rw [if_neg aOut, if_pos ⟨rfl, hk⟩]⟩)
  -- what is plainly there stays in the base
  have notIn : ∀ {b : Addr} {o : Obj}, s.heap.get? b = some o → b ∉ ts → (b = a → K.lookup a ≠ none) → headH K a sc (ns.map V.int) ts b = none := fun {b o} _ h1 h2 => by
    cases q : headH K a sc (ns.map V.int) ts b with
    | none => rfl
    | some u =>
      rcases headH_cases q with ⟨h, _⟩ | ⟨_, e, h, _⟩
      · exact (h1 h).elim
      · exact (h2 e h).elim
  have clean : ∀ {b : Addr} {o : Obj}, s.heap.get? b = some o → (∀ its n, o.data ≠ .seq its n) → o.data ≠ .fields #[] → headH K a sc (ns.map V.int) ts b = none := fun {b o} e h1 h2 =>
    notIn e (fun hb => by rw [tsE b hb] at e; cases e; exact h2 rfl) fun q => by subst q; rw [scr] at e; cases e; exact (h1 _ _ rfl).elim
  have toBase : ∀ {b : Addr} {o : Obj}, s.heap.get? b = some o → headH K a sc (ns.map V.int) ts b = none → (hidT s.heap (headH K a sc (ns.map V.int) ts)).get? b = some o := fun e n => hidT_get e n
  have nsBase : ∀ {b : Addr} {m : Str → Option Value}, s.heap.Ns b m → (hidT s.heap (headH K a sc (ns.map V.int) ts)).Ns b m := fun {b m} ⟨o, es, ep, e, d, r⟩ =>
    ⟨o, es, ep, toBase e (clean e (fun its n z => by rw [d] at z; cases z) fun z => by rw [d] at z; cases z), d, r⟩
  have kBase : K.In (hidT s.heap (headH K a sc (ns.map V.int) ts)) := fun b o e => toBase (kin b o e) (notIn (kin b o e)
    (fun hb => by
      obtain ⟨p, hp, rfl⟩ := List.mem_map.1 hb
      rw [tK p hp] at e; cases e)
    fun q => by subst q; rw [e]; simp)
  have modB : Mod K mg (hidT s.heap (headH K a sc (ns.map V.int) ts)) := ⟨kBase, nsBase nsm, ⟨mb, nsBase nsb, blt⟩, by
    obtain ⟨mc, h1, h2⟩ := nol
    exact ⟨mc, nsBase h1, h2⟩⟩
  have tabs : ∀ p ∈ cs, TabB (hidT s.heap (headH K a sc (ns.map V.int) ts)) mg p.1 p.2 := fun p hp => by
    obtain ⟨oM, esM, epM, eM, dM, _⟩ := nsm
    refine ⟨?_, ?_, fun z => ?_⟩
    · obtain ⟨o, us, file, tf, flags, tg, inF, text, tt, e1, q1, q2, q3, rest⟩ := tC p hp
      refine ⟨o, us, file, tf, flags, tg, inF, text, tt, toBase e1 (clean e1 (fun its n z => by rw [q2] at z; cases z) fun z => ?_), q1, q2, q3, rest⟩
      rw [q2] at z
      cases z
      simp at q3
    · obtain ⟨bm, ob, b1, b2, b3, b4, b5, b6⟩ := bmn
      refine ⟨bm, ob, b1, b2, fun q => ?_, fun q => ?_, toBase b3 (clean b3 (fun its n z => by rw [b6] at z; cases z) fun z => by rw [b6] at z; cases z), b4, b5, b6⟩
      · rw [q, eM] at b3
        cases b3
        rw [dM] at b6
        cases b6
      · rw [q, tE p hp] at b3
        cases b3
        cases b6
    · rw [z, tE p hp] at eM
      cases eM
      cases dM
  have e0 : Env0 P w K mg (hidT s.heap (headH K a sc (ns.map V.int) ts)) callerA [] s (headH K a sc (ns.map V.int) ts) :=
    ⟨rfl, modB, fun _ _ e => of_hidT e, Nat.le_of_eq (hidT_size _ _), trivial, (fun _ hb => nomatch hb), hok, .of_eq ng⟩
  refine codeAny_mono ((F _ kBase (nsBase nsm) tabs).run callerA [] s _ ⟨[.ref a], []⟩ [.ref a] [.ref a] _ _ room e0 (bind s (.ref a)) (.cons rfl .nil) (prom _ tbl sq)) fun r s' hr => ?_
  match r, hr with
  | .error e, h =>
    obtain ⟨_, _, _, _, _, _, _, _, _, _, _, _, hf⟩ := h
    exact False.elim hf
  | .ok .next, h => exact False.elim h
  | .ok .brk, h => exact False.elim h
  | .ok .cont, h => exact False.elim h
  | .ok (.ret u), ⟨v, H2, hos, hbare, un, hok2, rel, qv⟩ =>
    cases (show v = .bl true from qv)
    cases (show u = Value.bool true from rel)
    have stay : ∀ b o, b ∉ ts → s.heap.get? b = some o → s'.heap.get? b = some o := fun b o hb e => by
      cases q : headH K a sc (ns.map V.int) ts b with
      | none => exact un.keep b o e q (fun z => nomatch z) (fun z => nomatch z)
      | some u =>
        rcases headH_cases q with ⟨h, _⟩ | ⟨_, rfl, _, rfl⟩
        · exact (hb h).elim
        · rw [scr] at e
          cases e
          exact (hok2 _ _ (un.frzs _ _ _ q)).1
    have grow : ∀ p ∈ cs, ∃ more : Array Value, s'.heap.get? p.2 = some { cls := .none, data := .fields more } := fun p hp => by
      obtain ⟨more, z⟩ := un.tbls p.2 #[] (tbl p hp)
      exact ⟨_, hok2 _ _ z⟩
    refine ⟨rfl, ⟨fun b o e => ?_, fun b o e => ?_⟩, hos, hbare⟩
    · by_cases hb : b ∈ ts
      · obtain ⟨p, hp, rfl⟩ := List.mem_map.1 hb
        obtain ⟨more, hm⟩ := grow p hp
        rw [tE p hp] at e
        cases e
        exact .inr (.inl ⟨((tC p hp).tab (tE p hp)).isCodeTable, rfl, #[], more, rfl, by rw [Array.empty_append]; exact hm⟩)
      · exact .inl (stay b o hb e)
    · by_cases hb : b ∈ ts
      · obtain ⟨p, hp, rfl⟩ := List.mem_map.1 hb
        obtain ⟨more, hm⟩ := grow p hp
        exact ⟨_, hm⟩
      · exact ⟨o, stay b o hb e⟩
end DL
set_option Elab.async false
set_option linter.all false
set_option maxRecDepth 100000
set_option maxHeartbeats 2000000
/-! DL23: what the head tells: defs, own errors, tables, the empty tables of code objects. -/
namespace DLH
open PySem PySem.Spec PyProof.Rows L2 LamX DL He
/-- an own error class with an __init__ of the known form -/
structure ErrD where
  cls : Str
  qual : Str
  params : Arguments
  body : List Stmt
  scope : Scope
  flds : List Str
  B : String
  newId : String
  initId : String
  bm : List Value
abbrev ErrV := Option (Str × Str × Arguments × FuncBody × Scope × Addr × Addr × List Str)
def errAt (K : PySem.W.Frag) (d : ErrD) : Addr := ma K (ga K d.cls) "__init__"
def errObs (K : PySem.W.Frag) (d : ErrD) : ErrV := match K.lookup (errAt K d) with
  | some ⟨_, _, .func fd, _⟩ => some (fd.name, fd.qualname, fd.params, fd.body, fd.scope, fd.globals, fd.builtins, fd.closure.map (·.1))
  | _ => none
def ErrD.val (d : ErrD) : ErrV := some ("__init__", d.qual, d.params, .stmts d.body, d.scope, mainGlobals, builtinsNs, ["__class__"])
def errFn (mf : Str) (K : PySem.W.Frag) (d : ErrD) : Bool := match K.lookup (errAt K d) with
  | some ⟨_, _, .func fd, _⟩ => (match fd.defaults, fd.kwdefaults, fd.code, fd.closure with
    | .none, .none, .ref cda, [(_, cc)] => PySem.W.codeIn K (.ref cda) d.qual && ((match K.lookup cda with
      | some ⟨_, _, .fields vs, _⟩ => (match (vs[2]? : Option Value) with
        | some (.str file _) => mf == file
        | _ => false)
      | _ => false) && (match K.lookup cc with
      | some ⟨_, _, .cell (some v), _⟩ => v == .ref (ga K d.cls)
      | _ => false))
    | _, _, _, _ => false)
  | _ => false
def errB (mf : Str) (K : PySem.W.Frag) (d : ErrD) : Bool :=
  PySem.W.excInitIn K (ga K d.cls) d.bm d.newId && (PySem.W.excOver K (ga K d.cls) d.bm && (PySem.W.hasDictIn K (ga K d.cls) &&
  (eqO (PySem.W.findIn K (.ref (ga K d.cls)) "__setattr__") (some (some (.builtin "object.__setattr__"))) && (d.flds.all (fun x => eqO (PySem.W.findIn K (.ref (ga K d.cls)) x) (some none)) &&
  (eqO (PySem.W.findIn K (.ref (ga K d.cls)) "__init__") (some (some (.ref (errAt K d)))) && (decide (PySem.W.typeIn K (.ref (errAt K d)) = some (.type "function")) && (PySem.W.keepIn K (.ref (ga K d.cls)) &&
  (decide (PySem.W.subIn K (.ref (ga K d.cls)) (.type "BaseException") = some true) && (decide (PySem.W.typeIn K (.ref (ga K d.cls)) = some (.type "type")) && (eqO (PySem.W.ks_superIn K (ga K d.cls) (ga K d.cls) "__init__") (some (some (.builtin d.initId))) &&
  (eqO (PySem.W.nsIn K cStatics "thirdparty.any") (some none) && (decide (PySem.W.subIn K (.ref (ga K d.cls)) (.type d.B) = some true) && (decide (PySem.W.mroIn K (ga K d.cls) (.ref (ga K d.cls)) = some true) && errFn mf K d)))))))))))))
/-- the error class's facts -/
theorem err_txt {P : Program} {K : PySem.W.Frag} {mg : Str → Option Value} {d : ErrD} (e : errObs K d = d.val) (c : errB P.main.file K d = true) (FB : ExcBaseFacts d.B d.newId d.initId d.bm) (SF : StoreFacts d.B d.bm "object.__setattr__" "object") (KF : PySem.W.KxsFacts d.B d.initId)
    (IT : DLX.InitTxt d.flds d.params d.body d.scope) (gS : mg "super" = none) (top : (P.main.scope.names.lookup ("super" : Str)).isSome = false) :
    DLX.ErrTxt P K mg (ga K d.cls) (errAt K d) d.B d.newId d.initId d.bm d.flds := by
  unfold errB at c
  simp only [Bool.and_eq_true] at c
  obtain ⟨c1, c2, c3, c4, c5, c6, c7, c8, c9, c10, c11, c12, c13, c14, c15⟩ := c
  refine ⟨FB, SF, KF, c1, c2, c3, eqO_ok c4, fun x hx => eqO_ok (List.all_eq_true.1 c5 x hx), eqO_ok c6, of_decide_eq_true c7, c8, of_decide_eq_true c9, of_decide_eq_true c10, eqO_ok c11, eqO_ok c12, of_decide_eq_true c13, of_decide_eq_true c14, gS, top, ?_⟩
  unfold errFn at c15
  unfold errObs at e
  cases q : K.lookup (errAt K d) with
  | none => rw [q] at e; cases e
  | some o =>
    obtain ⟨oc, od, dt, osl⟩ := o
    rw [q] at e c15
    cases dt with
    | func fd =>
      obtain ⟨n1, n2, n3, n4, n5, n6, n7, n8, n9, n10, n11, n12, n13, n14, n15⟩ := fd
      have e2 : (some (n1, n2, n3, n4, n5, n6, n15, n7.map (·.1)) : ErrV) = d.val := e
      unfold ErrD.val at e2
      simp only [Option.some.injEq, Prod.mk.injEq] at e2
      obtain ⟨h1, h2, h3, h4, h5, h6, h7, h8⟩ := e2
      subst h1 h2 h3 h4 h5 h6 h7
      dsimp only at c15
      split at c15
      · rename_i cda nm cc
        simp only [Bool.and_eq_true] at c15
        obtain ⟨k1, k2, k3⟩ := c15
        have hn : nm = "__class__" := by simpa using h8
        subst hn
        split at k2
        · rename_i o2 d2 vs sl2 q2
          split at k2
          · rename_i file tf q3
            split at k3
            · rename_i o3 d3 v sl3 q4
              have hv : v = .ref (ga K d.cls) := eq_of_beq k3
              subst hv
              exact ⟨oc, od, _, _, _, cda, cc, _, osl, _, _, _, _, _, vs, file, tf, _, _, _, _, _, _, rfl, k1, IT, q2, q3, k2, q4⟩
            · cases k3
          · cases k2
        · cases k2
      · cases c15
    | _ => cases c15
/-! ### the Hook -/
structure SaysH (fa : List Fa) (fn : List DefD) (ts : List Tab) (tf : List Defn) (es : List ErrD) (mf : Str) (ex : PySem.W.Frag → Bool) (w : World) (h : Heap) (K : PySem.W.Frag) : Prop where
  t : SaysT fa fn ts w K
  more : ex K = true
  errs : ∀ d ∈ es, errB mf K d = true ∧ errObs K d = d.val
  hd : ∀ p ∈ tf, PySem.W.codeHdIn K (cT K p).1 (cT K p).2 = true
  out : ∀ p ∈ tf, K.lookup (cT K p).2 = none
  empty : ∀ p ∈ tf, h.get? (cT K p).2 = some { cls := .none, data := .fields #[] }
abbrev AlH : Type := AlT × Bool × List ErrV
/-- the part of the heap that is looked at -/
def seeH (n : Nat) (g : Addr → Option Obj) : PySem.W.Frag := frT g (cStatics :: asD g n)
def obsH (n : Nat) (fa : List Fa) (fn : List DefD) (ts : List Tab) (tf : List Defn) (es : List ErrD) (mf : Str) (ex : PySem.W.Frag → Bool) (g : Addr → Option Obj) : AlH :=
  (obsT fa fn ts (seeH n g), ex (seeH n g) && (es.all (errB mf (seeH n g)) && tabsB g tf (seeH n g)), es.map (errObs (seeH n g)))
def valH (fn : List DefD) (ts : List Tab) (es : List ErrD) (w : World) : AlH := (valT fn ts w, true, es.map ErrD.val)
theorem saysH_of {n : Nat} {fa : List Fa} {fn : List DefD} {ts : List Tab} {tf : List Defn} {es : List ErrD} {mf : Str} {ex : PySem.W.Frag → Bool} {w : World} {h : Heap} (e : obsH n fa fn ts tf es mf ex h.get? = valH fn ts es w) : SaysH fa fn ts tf es mf ex w h (seeH n h.get?) := by
  have e1 : obsT fa fn ts (seeH n h.get?) = valT fn ts w := congrArg (fun z : AlH => z.1) e
  have e2 : (ex (seeH n h.get?) && (es.all (errB mf (seeH n h.get?)) && tabsB h.get? tf (seeH n h.get?))) = true := congrArg (fun z : AlH => z.2.1) e
  have e3 : es.map (errObs (seeH n h.get?)) = es.map ErrD.val := congrArg (fun z : AlH => z.2.2) e
  obtain ⟨h1, h2⟩ := ba e2
  obtain ⟨h3, h4⟩ := ba h2
  have tab : ∀ p ∈ tf, PySem.W.codeHdIn (seeH n h.get?) (cT (seeH n h.get?) p).1 (cT (seeH n h.get?) p).2 = true ∧ ∃ o, h.get? (cT (seeH n h.get?) p).2 = some o ∧ emptyTab o = true := fun p hp => by
    obtain ⟨g1, g2⟩ := ba (List.all_eq_true.mp h4 p hp)
    refine ⟨g1, ?_⟩
    split at g2
    · rename_i o q
      exact ⟨o, q, g2⟩
    · cases g2
  refine ⟨e1, h1, fun d hd => ⟨List.all_eq_true.mp h3 d hd, List.map_inj_left.1 e3 d hd⟩, fun p hp => (tab p hp).1, fun p hp => ?_, fun p hp => ?_⟩
  · obtain ⟨_, o, q, z⟩ := tab p hp
    exact frT_none q z
  · obtain ⟨_, o, q, z⟩ := tab p hp
    rw [q, emptyTab_eq z]
def hookH (n : Nat) (fa : List Fa) (fn : List DefD) (ts : List Tab) (tf : List Defn) (es : List ErrD) (mf : Str) (ex : PySem.W.Frag → Bool) : PySem.W.Hook where
  α := AlH
  obs := fun s => obsH n fa fn ts tf es mf ex s.heap.get?
  val := fun w => valH fn ts es w
  says := fun w h => ∃ K : PySem.W.Frag, K.In h ∧ SaysH fa fn ts tf es mf ex w h K
  of := fun _ _ e => ⟨_, frT_in, saysH_of e⟩
  keeps := fun _ _ _ ⟨K, hK, c⟩ k => ⟨K, PySem.W.Frag.In.keeps hK k, ⟨c.t, c.more, c.errs, c.hd, c.out, fun p hp => k _ _ (c.empty p hp)⟩⟩
theorem obsH_eq {n : Nat} {fa : List Fa} {fn : List DefD} {ts : List Tab} {tf : List Defn} {es : List ErrD} {mf : Str} {ex : PySem.W.Frag → Bool} {g : Addr → Option Obj} {s : Shared} (h : ∀ a, g a = s.heap.get? a) : obsH n fa fn ts tf es mf ex g = (hookH n fa fn ts tf es mf ex).obs s := by
  have e : g = s.heap.get? := funext h
  rw [e] <;> rfl
/-! ### the law's end -/
def LawG (l : PySem.W.OpenLaw) (w : World) (K : PySem.W.Frag) (k n : Nat) (x : Str) (mg : Str → Option Value) (fa : Addr) (h : Heap) : Prop :=
  ∃ (fd : FuncData) (cs : List (Addr × Addr)) (sp : Sp), (∀ p ∈ cs, h.get? p.2 = some { cls := .none, data := .fields #[] }) ∧ (∀ p ∈ cs, K.lookup p.2 = none) ∧ (∀ p ∈ cs, PySem.W.CodeHd h p.1 p.2) ∧ (∀ (s : Shared) (u : Value), BindsTo s fd ⟨[u], []⟩ [(x, u)]) ∧
    (∀ (H : Hp) (a : Addr) (ns : List Int), ns.length ≤ n → (∀ z ∈ ns, Builtin.Int.intBits z ≤ 1048576) → (∀ p ∈ cs, H p.2 = some (.tbl #[])) → SqL K H a (ns.map V.int) → sp [.ref a] H (fun v _ => v = .bl true) fun _ _ _ => False) ∧
    ∀ base : Heap, K.In base → base.Ns mainGlobals mg → (∀ p ∈ cs, TabB base mg p.1 p.2) → FnG l.prog w K mg base k fa fd [x] sp
theorem walk_G {l : PySem.W.OpenLaw} {n k : Nat} {q : Program} {loose : List Str} {XP : (Str → Option Value) → Heap → Prop} {YP : World → Heap → Prop} {d : DefRec} {x : Str}
    (hn : l.most = some n) (hn2 : n ≤ sizeLine) (hdf : d.params.defaults = []) (hr : RoomG k callerA)
    (F : ∀ (w : World) (mg : Str → Option Value) (fa : Addr) (h : Heap), YP w h → h.Ns mainGlobals mg → mg d.name = some (.ref fa) → ∃ K : PySem.W.Frag, K.In h ∧ LawG l w K k n x mg fa h) :
    PySem.W.WalkO q loose XP YP l.row.toRowW d [] (fun f vs => PySem.call f vs) := by
  refine Att.attach_callB hn hdf fun w s0 s1 mg mb fa o pm cd doc a vs ns G Y _ _ _ named obj hin few bits none => ?_
  obtain ⟨K, kin, fd, cs, sp, tE, tK, tC, bd, pr, fG⟩ := F w mg fa _ Y G.T.g named
  exact law_callG kin G.T.g G.T.b G.T.builtins G.T.nolimit none tE tK tC G.T.bmain obj hin (Nat.le_trans few hn2) hr fG bd fun H hH hS => pr H a ns few bits hH hS
end DLH
namespace DLH
open PySem PySem.Spec PyProof.Rows L2 LamX DL He
/-! ### a table of texts -/
theorem key_str {P : Params} {es : List DictEntry} {ks : List Str} (h : es.map He.keyOf = keysIn P ks) : es.map (fun e => match e.key with | .str x _ => some x | _ => none) = ks.map some := by
  have e : (fun e : DictEntry => (match e.key with | .str x _ => some x | _ => none : Option Str)) = fun e => (He.keyOf e).map (·.1) := by
    funext e
    unfold He.keyOf
    split <;> simp_all
  rw [e]
  have h2 := congrArg (fun l => l.map (fun o : Option (Str × Int) => o.map (·.1))) h
  simp only [List.map_map] at h2
  rw [show (es.map fun e => (He.keyOf e).map (·.1)) = es.map ((fun o : Option (Str × Int) => o.map (·.1)) ∘ He.keyOf) from rfl, h2]
  unfold keysIn
  rw [List.map_map]
  rfl
theorem find_none {z : Str} : ∀ {es : List DictEntry} {ks : List Str}, es.map (fun e => match e.key with | .str x _ => some x | _ => none) = ks.map some → z ∉ ks → es.find? (·.key.isStr z) = none ∧ es.any (·.refKey) = false
  | [], _, _, _ => ⟨rfl, rfl⟩
  | e :: r, [], h, _ => by cases h
  | e :: r, k :: ks, h, hz => by
    rw [List.map_cons, List.map_cons] at h
    injection h with h1 h2
    have hk : k ≠ z := fun q => hz (by simp [q])
    obtain ⟨g1, g2⟩ := find_none (z := z) h2 (fun q => hz (by simp [q]))
    cases q : e.key with
    | str x t =>
      rw [q] at h1
      have hx : x = k := by simpa using h1
      subst hx
      have i1 : e.key.isStr z = false := by
        rw [q]
        show (x == z) = false
        simpa using hk
      have i2 : e.refKey = false := by
        unfold DictEntry.refKey
        rw [q]
      refine ⟨?_, ?_⟩
      · rw [List.find?_cons, i1]; exact g1
      · rw [List.any_cons, i2]; exact g2
    | _ => rw [q] at h1; cases h1
theorem ktab_of {K : PySem.W.Frag} {w : World} {a : Addr} {kvs : List (Str × Str)} (h1 : dicW K a = some (keysIn w.params (kvs.map (·.1)))) (h2 : valsB K a (kvs.map fun q => (q.1, Dv.str q.2)) = true) : KTab K w a (kvs.map fun q => (q.1, D.str q.2)) := by
  refine ⟨dicW_ok h1, fun z => ?_⟩
  cases hl : (kvs.map fun q => (q.1, D.str q.2)).lookup z with
  | some x =>
    have mem : ∀ {l : List (Str × Str)} {x : D}, (l.map fun q => (q.1, D.str q.2)).lookup z = some x → ∃ q ∈ l, q.1 = z ∧ x = .str q.2 := fun {l x} => by
      induction l with
      | nil => intro h; cases h
      | cons q r ih =>
        intro h
        rw [List.map_cons, List.lookup_cons] at h
        by_cases c : (z == q.1) = true
        · rw [c] at h
          have h' : some (D.str q.2) = some x := h
          injection h' with h'
          exact ⟨q, by simp, (eq_of_beq c).symm, h'.symm⟩
        · have c' : (z == q.1) = false := by simpa using c
          rw [c'] at h
          obtain ⟨q', m1, m2, m3⟩ := ih h
          exact ⟨q', by simp [m1], m2, m3⟩
    obtain ⟨q, hq, rfl, rfl⟩ := mem hl
    obtain ⟨u, g1, g2⟩ := valsB_ok h2 (q := (q.1, Dv.str q.2)) (List.mem_map.2 ⟨q, hq, rfl⟩)
    exact ⟨some u, g1, u, .str q.2, rfl, g2, fun F => den_str⟩
  | none =>
    refine ⟨none, ?_, rfl⟩
    have hz : z ∉ kvs.map (·.1) := fun hm => by
      have : ∀ {l : List (Str × Str)}, z ∈ l.map (·.1) → ((l.map fun q => (q.1, D.str q.2)).lookup z).isSome = true := fun {l} => by
        induction l with
        | nil => intro h; cases h
        | cons q r ih =>
          intro h
          rw [List.map_cons, List.lookup_cons]
          by_cases c : (z == q.1) = true
          · rw [c]; rfl
          · have c' : (z == q.1) = false := by simpa using c
            rw [c']
            refine ih ?_
            rcases List.mem_cons.1 h with e | e
            · rw [e] at c; simp at c
            · exact e
      have := this hm
      rw [hl] at this
      cases this
    unfold dicW at h1
    split at h1
    · rename_i c es n sl q
      split at h1
      · obtain ⟨f1, f2⟩ := find_none (key_str (Option.some.inj h1)) hz
        unfold PySem.W.nsIn
        rw [q]
        show (match es.toList.find? (·.key.isStr z) with | some e => some (some e.val) | none => if es.toList.any (·.refKey) then none else some none) = some none
        rw [f1]
        show (if es.toList.any (·.refKey) = true then none else some none) = some none
        rw [f2]; rfl
      · cases h1
    · cases h1
section
variable {P : Program} {w : World} {K : PySem.W.Frag} {mg : Str → Option Value} {base : Heap} {k n : Nat} {x m : Str} {f C : Addr} {fd : FuncData} {ps : List Str} {sp : SpD}
theorem fnd0 (F : FnG P w K mg base k f fd ps (toSp K n sp)) (hm : mg x = some (.ref f)) (kp : PySem.W.keepIn K (.ref f) = true) (hb : Binds K fd ps []) : FnD P w K mg base k x n sp [] := ⟨f, fd, ps, [], [], F, hm, kp, hb, .nil, fun _ => DenL.nil⟩
theorem mtd0 (F : FnG P w K mg base k f fd ps (toSp K n sp)) (hc : Cls K C) (hm : Meth K C m f) (hb : Binds K fd ps []) : MtD P w K mg base k C m n sp [] := ⟨f, fd, ps, [], [], F, hc, hm, hb, .nil, fun _ => DenL.nil⟩
theorem mkd0 (F : FnG P w K mg base k f fd ps (toSp K n sp)) (hk : Mk K C f) (hm : mg x = some (.ref C)) (hb : Binds K fd ps []) : MkD P w K mg base k C x n sp [] := ⟨f, fd, ps, [], [], F, hk, hm, hb, .nil, fun _ => DenL.nil⟩
theorem fnd1 {dd : List D} {dvs : List V} (F : FnG P w K mg base k f fd ps (toSp K n sp)) (hm : mg x = some (.ref f)) (kp : PySem.W.keepIn K (.ref f) = true) (hb : ∃ ds, Vals dvs ds ∧ Binds K fd ps ds) (hd : DflD K dd dvs) : FnD P w K mg base k x n sp dd := by
  obtain ⟨ds, h1, h2⟩ := hb
  exact ⟨f, fd, ps, ds, dvs, F, hm, kp, h2, h1, hd⟩
theorem mtd1 {dd : List D} {dvs : List V} (F : FnG P w K mg base k f fd ps (toSp K n sp)) (hc : Cls K C) (hm : Meth K C m f) (hb : ∃ ds, Vals dvs ds ∧ Binds K fd ps ds) (hd : DflD K dd dvs) : MtD P w K mg base k C m n sp dd := by
  obtain ⟨ds, h1, h2⟩ := hb
  exact ⟨f, fd, ps, ds, dvs, F, hc, hm, h2, h1, hd⟩
theorem mkd1 {dd : List D} {dvs : List V} (F : FnG P w K mg base k f fd ps (toSp K n sp)) (hk : Mk K C f) (hm : mg x = some (.ref C)) (hb : ∃ ds, Vals dvs ds ∧ Binds K fd ps ds) (hd : DflD K dd dvs) : MkD P w K mg base k C x n sp dd := by
  obtain ⟨ds, h1, h2⟩ := hb
  exact ⟨f, fd, ps, ds, dvs, F, hk, hm, h2, h1, hd⟩
end
end DLH
set_option Elab.async false
set_option linter.all false
set_option maxRecDepth 100000
set_option maxHeartbeats 2000000
/-! DL24: from the head's call to a promise over data and worlds. -/
namespace DLH
open PySem PySem.Spec PyProof.Rows L2 LamX DL He
theorem funD_same {K : PySem.W.Frag} {x q : Str} {ps : Arguments} {b : List Stmt} {sc : Scope} {d1 d2 : List V} {k1 k2 : List (Str × V)} {f : Addr} {fd fd' : FuncData} (A : FunD K x q ps b sc d1 k1 f fd) (B : FunD K x q ps b sc d2 k2 f fd') : fd = fd' := by
  obtain ⟨_, _, _, _, _, _, _, _, _, _, _, l1, _⟩ := A.ex
  obtain ⟨_, _, _, _, _, _, _, _, _, _, _, l2, _⟩ := B.ex
  have e := l1.symm.trans l2
  injection e with e
  injection e with _ _ e
  injection e
/-- the tables, as a world -/
def tabW (ts : List Addr) : Wd := fun b => if b ∈ ts then some (.raw (.tbl #[])) else none
/-- the script's promise at the head: the tables are the world, the script is known -/
theorem prom_of {K : PySem.W.Frag} {sp : SpD} {H : Hp} {a : Addr} {ns : List Int} {ts : List Addr} (hT : ∀ t ∈ ts, H t = some (.tbl #[])) (hS : SqL K H a (ns.map V.int)) (hp : sp [.rls (ns.map .int)] (tabW ts) (fun _ _ => False) (fun d _ => d = .bl true)) :
    toSp K 1 sp [.ref a] H (fun v _ => v = .bl true) (fun _ _ _ => False) := by
  have hS2 : SqL K (fun b => if b ∈ ts then none else H b) a (ns.map V.int) := by
    rcases hS with h | h
    · refine .inl ?_
      have out : ∀ {o : HO}, H a = some o → o ≠ .tbl #[] → (if a ∈ ts then none else H a) = some o := fun {o} e n => by
        rw [if_neg (fun z => by rw [hT a z] at e; cases e; exact n rfl)]; exact e
      rcases h with h | ⟨o, h⟩
      · exact .inl (out h (fun z => by cases z))
      · exact .inr ⟨o, out h (fun z => by cases z)⟩
    · exact .inr h
  refine ⟨fun b => if b ∈ ts then none else H b, tabW ts, [.rls (ns.map .int)], fun _ _ => False, fun d _ => d = .bl true, ⟨fun b o e => ?_, fun b o e => ?_⟩, DenL.cons (den_rls hS2 (DenL.ints ns)) DenL.nil, rfl, hp, fun d w' F' v H' _ _ dn q => ?_, ⟨fun _ _ _ _ _ _ _ _ _ z => z.elim⟩⟩
  · by_cases hb : b ∈ ts
    · rw [if_pos hb] at e; cases e
    · rw [if_neg hb] at e; exact e
  · unfold tabW at e
    by_cases hb : b ∈ ts
    · rw [if_pos hb] at e
      cases e
      exact ⟨if_pos hb, hT b hb⟩
    · rw [if_neg hb] at e; cases e
  · have q' : d = .bl true := q
    subst q'
    exact dn.bl_
theorem tbW_nil {ts : List Addr} {t : Addr} {q : Str} (h : t ∈ ts) : TbW (tabW ts) t q := ⟨#[], by unfold tabW; rw [if_pos h], trivial, fun pos cv hc => by cases hc⟩
end DLH
set_option Elab.async false
set_option linter.all false
set_option maxRecDepth 100000
set_option maxHeartbeats 0
/-! written by gen.py from the law's linked text: readings, derivations -/
namespace K97
open PySem PySem.Spec PyProof.Rows L2 DL
def top (i : Nat) : Stmt := PySem.Challenge.pw_splitscar_k97_texts_of_files_refused.main.body.getD i (.Pass ⟨0, 0, 0, 0⟩)
def clsBody : Stmt → List Stmt
  | .ClassDef _ _ _ body _ _ _ _ _ _ _ => body
  | _ => []
abbrev bmValueError : List Value := [.type "ValueError", .type "Exception", .type "BaseException", .type "object"]
structure Ad where
  a_ESCAPED : Addr
  c_InvalidText : Addr
  c_Line : Addr
  f_held_in : Addr
  f_key_in : Addr
  f_number_in : Addr
  f_string_in : Addr
  f_word_of : Addr
  i_InvalidText : Addr
  tL : Addr
def tab_ESCAPED : List (Str × D) := [("_", .str " "), ("~", .str "~")]
def lamS : Stmt := (defBody (top 16)).getD 0 (.Pass ⟨0, 0, 0, 0⟩)
def lpL : Arguments := match lamS with | .Return (some (.Lambda p _ _ _)) _ => p | _ => defArgs (top 0)
def lbL : Expr := match lamS with | .Return (some (.Lambda _ b _ _)) _ => b | _ => .Constant .none 0 ⟨0, 0, 0, 0⟩
def lsL : Scope := match lamS with | .Return (some (.Lambda _ _ s _)) _ => s | _ => defScope (top 0)
def qL : Str := "word_of.<locals>.<lambda>"
def LamFn (P : Program) (w : World) (K : PySem.W.Frag) (mg : Str → Option Value) (base : Heap) (a : Ad) : Prop := FnR P w K mg base (L2.CX P w) 2 a.f_word_of (LW.spWo qL lpL lbL lsL a.tL)
structure Gx (P : Program) (w : World) (K : PySem.W.Frag) (mg : Str → Option Value) (base : Heap) (a : Ad) : Prop where
  e_InvalidText : DLX.ErrTxt P K mg a.c_InvalidText a.i_InvalidText "ValueError" "ValueError.__new__" "ValueError.__init__" bmValueError ["line", "word"]
  g_InvalidText : mg "InvalidText" = some (.ref a.c_InvalidText)
  h_held_in : mg "held_in" = some (.ref a.f_held_in)
  h_key_in : mg "key_in" = some (.ref a.f_key_in)
  h_number_in : mg "number_in" = some (.ref a.f_number_in)
  h_string_in : mg "string_in" = some (.ref a.f_string_in)
  h_word_of : mg "word_of" = some (.ref a.f_word_of)
  k_Line : Cls K a.c_Line
  kp_word_of : PySem.W.keepIn K (.ref a.f_word_of) = true
  lt : LW.LTxt lpL lbL lsL
  n_abs : mg "abs" = none
  n_all : mg "all" = none
  n_enumerate : mg "enumerate" = none
  n_int : mg "int" = none
  n_isinstance : mg "isinstance" = none
  n_len : mg "len" = none
  n_list : mg "list" = none
  n_range : mg "range" = none
  n_repr : mg "repr" = none
  n_str : mg "str" = none
  n_tuple : mg "tuple" = none
  n_zip : mg "zip" = none
  na_Line_at : NoAttr K a.c_Line "at"
  na_Line_line : NoAttr K a.c_Line "line"
  na_Line_words : NoAttr K a.c_Line "words"
  t_ESCAPED : KTab K w a.a_ESCAPED tab_ESCAPED
  v_DIGITS : ∃ tk, mg "DIGITS" = some (.str "0123456789" tk)
  v_ESCAPED : mg "ESCAPED" = some (.ref a.a_ESCAPED)
  v_MOST_DIGITS : ∃ tk, mg "MOST_DIGITS" = some (.int 15 tk)
  v_NOTHING_reader : ∃ tk, mg "NOTHING_reader" = some (.str "-" tk)
  v_NOTHING_texts : ∃ tk, mg "NOTHING_texts" = some (.str "-" tk)
  wo : LamFn P w K mg base a
  x_InvalidText : XfC K a.c_InvalidText
  xn_InvalidText_line : PySem.W.findIn K (.ref a.c_InvalidText) "line" = some none
  xn_InvalidText_word : PySem.W.findIn K (.ref a.c_InvalidText) "word" = some none
abbrev s_lines_in : Stmt := top 6
def t_lines_in (a : Ad) : TSD := dSeq (dIfS (dNot (dTru (dCB isiD (dCons (dVar 0) (dCons (dC (.ty "str")) (dNil)))))) (dRaise ["line", "word"] a.c_InvalidText (dCons (dC (.int 0)) (dCons (dC (.int 0)) (dNil)))) (dNext)) (dRet (dLc (iSeqL (dM1 splitD (dVar 0) (dC (.str "\n")))) (gdName 1) (dYes) (dM1 splitD (dVar 1) (dC (.str " "))) [1]))
theorem sc_lines_in : FnScope ["text", "line"] ["text"] (defScope s_lines_in) := ⟨rfl, rfl, rfl, by decide +kernel, rfl, by decide +kernel, by decide +kernel⟩
theorem d_lines_in {P : Program} {w : World} {K : PySem.W.Frag} {mg : Str → Option Value} {base : Heap} {a : Ad} (G : Gx P w K mg base a) {f : Addr} (cdv : Value) (A : Around) (outer : List Env) (s : Shared) (H : Hp) (E : XK) (hr : RoomG 1 (A.deeper (envOfC "lines_in" (defScope s_lines_in) s.heap.objs.size f cdv))) (tk : Takes (cxD P w K mg base ["text", "line"] "lines_in" (defScope s_lines_in) f cdv A outer s H E) (WD E)) :
    DSs (cxD P w K mg base ["text", "line"] "lines_in" (defScope s_lines_in) f cdv A outer s H E) (WD E) (defBody s_lines_in) (t_lines_in a) := by
  have SC := sc_lines_in
  exact (dss_cons (ds_if (dt_not (dt_tru (de_isi G.n_isinstance (da_cons (de_var 0) (da_cons (de_bty G.n_str (by kernel_rfl)) da_nil))))) (dss_one (ds_raise G.e_InvalidText rfl tk hr (by decide) G.g_InvalidText (da_cons de_int (da_cons de_int da_nil)))) dss_nil) (dss_one (ds_ret (de_lc (own := [("line", 1)]) rfl SC.nd (di_list (de_split (de_var 0) de_str)) (blkOk_by (by rfl)) (by decide) (fun _ _ _ _ _ => (dg_name SC.nd)) (fun _ _ _ _ _ => dts_nil) (fun _ _ _ _ _ => (de_split (de_var 1) de_str))))))
theorem fn_lines_in {P : Program} {w : World} {K : PySem.W.Frag} {mg : Str → Option Value} {base : Heap} {a : Ad} (G : Gx P w K mg base a) {f : Addr} {fd : FuncData} {dvs : List V} {kws : List (Str × V)} (FD : FunD K "lines_in" "lines_in" (defArgs s_lines_in) (defBody s_lines_in) (defScope s_lines_in) dvs kws f fd) {sp : SpD}
    (h : ∀ ds w' E Q, ds.length = 1 → sp ds w' E Q → t_lines_in a (fun x _ w' => E x w') { nx := fun _ w' => Q .non w', rt := Q } (startD ["text", "line"] ds) w') : FnG P w K mg base 2 f fd ["text"] (toSp K 1 sp) :=
  fnG_of FD sc_lines_in (t_lines_in a) (fun cdv A outer s H E hr tk => d_lines_in G cdv A outer s H E hr tk) h
abbrev s_number_in : Stmt := top 7
def t_number_in (a : Ad) : TSD := dSeq (dIfS (dOr (dNot (dTest (dChain leD leD (dC (.int 1)) (dCB lenD (dCons (dVar 0) (dNil))) (dC (.int 15))))) (dNot (dTru (dCB allD (dCons (dLc (iSeqS (dVar 0)) (gdName 1) (dYes) (dBin (inD false) (dVar 1) (dC (.str "0123456789"))) [1]) (dNil)))))) (dRet (dC .non)) (dNext)) (dRet (dIf (dOr (dTest (dBin eqRD (dVar 0) (dC (.str "0")))) (dTest (dBin neRD (dBin ixD (dVar 0) (dC (.int 0))) (dC (.str "0"))))) (dCB intCD (dCons (dVar 0) (dNil))) (dC .non)))
theorem sc_number_in : FnScope ["word", "sign"] ["word"] (defScope s_number_in) := ⟨rfl, rfl, rfl, by decide +kernel, rfl, by decide +kernel, by decide +kernel⟩
theorem d_number_in {P : Program} {w : World} {K : PySem.W.Frag} {mg : Str → Option Value} {base : Heap} {a : Ad} (G : Gx P w K mg base a) {f : Addr} (cdv : Value) (A : Around) (outer : List Env) (s : Shared) (H : Hp) (E : XK) (hr : RoomG 1 (A.deeper (envOfC "number_in" (defScope s_number_in) s.heap.objs.size f cdv))) (tk : Takes (cxD P w K mg base ["word", "sign"] "number_in" (defScope s_number_in) f cdv A outer s H E) (WD E)) :
    DSs (cxD P w K mg base ["word", "sign"] "number_in" (defScope s_number_in) f cdv A outer s H E) (WD E) (defBody s_number_in) (t_number_in a) := by
  have SC := sc_number_in
  exact (dss_cons (ds_if (DW.dt (dw_or (dt_not (dt_chain op_le lift_cmp op_le lift_cmp de_int (de_len G.n_len (da_cons (de_var 0) da_nil)) (de_gint G.v_MOST_DIGITS))) (dw_or1 (dt_not (dt_tru (de_all rfl G.n_all (da_cons (de_lc (own := [("sign", 1)]) rfl SC.nd (di_str (de_var 0)) (blkOk_by (by rfl)) (by decide) (fun _ _ _ _ _ => (dg_name SC.nd)) (fun _ _ _ _ _ => dts_nil) (fun _ _ _ _ _ => (de_in (de_var 1) (de_gstr G.v_DIGITS)))) da_nil))))))) (dss_one (ds_ret de_non)) dss_nil) (dss_one (ds_ret (de_if (DW.dt (dw_or (dt_eq hr (de_var 0) de_str) (dw_or1 (dt_ne hr (de_ix (de_var 0) de_int) de_str)))) (de_intC G.n_int (da_cons (de_var 0) da_nil)) de_non))))
theorem fn_number_in {P : Program} {w : World} {K : PySem.W.Frag} {mg : Str → Option Value} {base : Heap} {a : Ad} (G : Gx P w K mg base a) {f : Addr} {fd : FuncData} {dvs : List V} {kws : List (Str × V)} (FD : FunD K "number_in" "number_in" (defArgs s_number_in) (defBody s_number_in) (defScope s_number_in) dvs kws f fd) {sp : SpD}
    (h : ∀ ds w' E Q, ds.length = 1 → sp ds w' E Q → t_number_in a (fun x _ w' => E x w') { nx := fun _ w' => Q .non w', rt := Q } (startD ["word", "sign"] ds) w') : FnG P w K mg base 2 f fd ["word"] (toSp K 1 sp) :=
  fnG_of FD sc_number_in (t_number_in a) (fun cdv A outer s H E hr tk => d_number_in G cdv A outer s H E hr tk) h
abbrev s_key_in : Stmt := top 8
def t_key_in (a : Ad) (sp_number_in : SpD) : TSD := dSeq (dIfS (dTest (dBin neRD (dSl (dVar 0) dNoPart (dPart (dC (.int 1)))) (dC (.str "-")))) (dRet (dCall 1 sp_number_in [] (dCons (dVar 0) (dNil)))) (dNext)) (dSeq (dSet 1 (dCall 1 sp_number_in [] (dCons (dSl (dVar 0) (dPart (dC (.int 1))) dNoPart) (dNil)))) (dRet (dIf (dAnd (notNT (dVar 1)) (dTest (dBin gtD (dVar 1) (dC (.int 0))))) (dNeg (dVar 1)) (dC .non))))
theorem sc_key_in : FnScope ["word", "number"] ["word"] (defScope s_key_in) := ⟨rfl, rfl, rfl, by decide +kernel, rfl, by decide +kernel, by decide +kernel⟩
theorem d_key_in {P : Program} {w : World} {K : PySem.W.Frag} {mg : Str → Option Value} {base : Heap} {a : Ad} (G : Gx P w K mg base a) {sp_number_in : SpD} (F_number_in : FnD P w K mg base 2 "number_in" 1 sp_number_in []) {f : Addr} (cdv : Value) (A : Around) (outer : List Env) (s : Shared) (H : Hp) (E : XK) (hr : RoomG 2 (A.deeper (envOfC "key_in" (defScope s_key_in) s.heap.objs.size f cdv))) (tk : Takes (cxD P w K mg base ["word", "number"] "key_in" (defScope s_key_in) f cdv A outer s H E) (WD E)) :
    DSs (cxD P w K mg base ["word", "number"] "key_in" (defScope s_key_in) f cdv A outer s H E) (WD E) (defBody s_key_in) (t_key_in a sp_number_in) := by
  have SC := sc_key_in
  exact (dss_cons (ds_if (dt_ne hr (de_sl (de_var 0) do_none (do_some de_int)) de_str) (dss_one (ds_ret (de_callD F_number_in (hr.mono (by decide)) (tkc tk) (da_cons (de_var 0) da_nil)))) dss_nil) (dss_cons (ds_set (i := 1) SC.nd (de_callD F_number_in (hr.mono (by decide)) (tkc tk) (da_cons (de_sl (de_var 0) (do_some de_int) do_none) da_nil))) (dss_one (ds_ret (de_if (DW.dt (dw_and (dt_notN (de_var 1)) (dw_and1 (dt_gt  (de_var 1) de_int)))) (de_neg (de_var 1)) de_non)))))
theorem fn_key_in {P : Program} {w : World} {K : PySem.W.Frag} {mg : Str → Option Value} {base : Heap} {a : Ad} (G : Gx P w K mg base a) {sp_number_in : SpD} (F_number_in : FnD P w K mg base 2 "number_in" 1 sp_number_in []) {f : Addr} {fd : FuncData} {dvs : List V} {kws : List (Str × V)} (FD : FunD K "key_in" "key_in" (defArgs s_key_in) (defBody s_key_in) (defScope s_key_in) dvs kws f fd) {sp : SpD}
    (h : ∀ ds w' E Q, ds.length = 1 → sp ds w' E Q → t_key_in a sp_number_in (fun x _ w' => E x w') { nx := fun _ w' => Q .non w', rt := Q } (startD ["word", "number"] ds) w') : FnG P w K mg base 3 f fd ["word"] (toSp K 1 sp) :=
  fnG_of FD sc_key_in (t_key_in a sp_number_in) (fun cdv A outer s H E hr tk => d_key_in G F_number_in cdv A outer s H E hr tk) h
abbrev s_need_word : Stmt := top 9
def t_need_word (a : Ad) : TSD := dIfS (dNot (dTru (dVar 0))) (dRaise ["line", "word"] a.c_InvalidText (dCons (dVar 1) (dCons (dVar 2) (dNil)))) (dNext)
theorem sc_need_word : FnScope ["is_right", "line", "word"] ["is_right", "line", "word"] (defScope s_need_word) := ⟨rfl, rfl, rfl, by decide +kernel, rfl, by decide +kernel, by decide +kernel⟩
theorem d_need_word {P : Program} {w : World} {K : PySem.W.Frag} {mg : Str → Option Value} {base : Heap} {a : Ad} (G : Gx P w K mg base a) {f : Addr} (cdv : Value) (A : Around) (outer : List Env) (s : Shared) (H : Hp) (E : XK) (hr : RoomG 1 (A.deeper (envOfC "need_word" (defScope s_need_word) s.heap.objs.size f cdv))) (tk : Takes (cxD P w K mg base ["is_right", "line", "word"] "need_word" (defScope s_need_word) f cdv A outer s H E) (WD E)) :
    DSs (cxD P w K mg base ["is_right", "line", "word"] "need_word" (defScope s_need_word) f cdv A outer s H E) (WD E) (defBody s_need_word) (t_need_word a) := by
  have SC := sc_need_word
  exact (dss_one (ds_if (dt_not (dt_tru (de_var 0))) (dss_one (ds_raise G.e_InvalidText rfl tk hr (by decide) G.g_InvalidText (da_cons (de_var 1) (da_cons (de_var 2) da_nil)))) dss_nil))
theorem fn_need_word {P : Program} {w : World} {K : PySem.W.Frag} {mg : Str → Option Value} {base : Heap} {a : Ad} (G : Gx P w K mg base a) {f : Addr} {fd : FuncData} {dvs : List V} {kws : List (Str × V)} (FD : FunD K "need_word" "need_word" (defArgs s_need_word) (defBody s_need_word) (defScope s_need_word) dvs kws f fd) {sp : SpD}
    (h : ∀ ds w' E Q, ds.length = 3 → sp ds w' E Q → t_need_word a (fun x _ w' => E x w') { nx := fun _ w' => Q .non w', rt := Q } (startD ["is_right", "line", "word"] ds) w') : FnG P w K mg base 2 f fd ["is_right", "line", "word"] (toSp K 3 sp) :=
  fnG_of FD sc_need_word (t_need_word a) (fun cdv A outer s H E hr tk => d_need_word G cdv A outer s H E hr tk) h
abbrev s_string_in : Stmt := top 13
def t_string_in (a : Ad) : TSD := dSeq (dIfS (dTest (dBin neRD (dSl (dVar 0) dNoPart (dPart (dC (.int 1)))) (dC (.str "=")))) (dRet (dC .non)) (dNext)) (dSeq (dSet 1 (dC (.str ""))) (dSeq (dSet 2 (dC (.bl false))) (dSeq (dFor (iSeqS (dSl (dVar 0) (dPart (dC (.int 1))) dNoPart)) (gdName 3) (dSeq (dIfS (dAnd (dTru (dVar 2)) (dTest (dBin (fNinK a.a_ESCAPED tab_ESCAPED) (dVar 3) (dC (.ref a.a_ESCAPED))))) (dRet (dC .non)) (dNext)) (dIfS (dOr (dTru (dVar 2)) (dTest (dBin neRD (dVar 3) (dC (.str "~"))))) (dSeq (dAug 1 (dIf (dTru (dVar 2)) (dGetK a.a_ESCAPED tab_ESCAPED (dC (.ref a.a_ESCAPED)) (dVar 3)) (dVar 3)) iaddD) (dSet 2 (dC (.bl false)))) (dSet 2 (dC (.bl true)))))) (dRet (dIf (dTru (dVar 2)) (dC .non) (dVar 1))))))
theorem sc_string_in : FnScope ["word", "found", "is_escaped", "sign"] ["word"] (defScope s_string_in) := ⟨rfl, rfl, rfl, by decide +kernel, rfl, by decide +kernel, by decide +kernel⟩
theorem d_string_in {P : Program} {w : World} {K : PySem.W.Frag} {mg : Str → Option Value} {base : Heap} {a : Ad} (G : Gx P w K mg base a) {f : Addr} (cdv : Value) (A : Around) (outer : List Env) (s : Shared) (H : Hp) (E : XK) (hr : RoomG 1 (A.deeper (envOfC "string_in" (defScope s_string_in) s.heap.objs.size f cdv))) (tk : Takes (cxD P w K mg base ["word", "found", "is_escaped", "sign"] "string_in" (defScope s_string_in) f cdv A outer s H E) (WD E)) :
    DSs (cxD P w K mg base ["word", "found", "is_escaped", "sign"] "string_in" (defScope s_string_in) f cdv A outer s H E) (WD E) (defBody s_string_in) (t_string_in a) := by
  have SC := sc_string_in
  have PO : PassesOwn (model P w) (A.deeper (envOfC "string_in" (defScope s_string_in) s.heap.objs.size f cdv)) (envOfC "string_in" (defScope s_string_in) s.heap.objs.size f cdv) (cxD P w K mg base ["word", "found", "is_escaped", "sign"] "string_in" (defScope s_string_in) f cdv A outer s H E).xe := PassesOwn.leaving
  exact (dss_cons (ds_if (dt_ne hr (de_sl (de_var 0) do_none (do_some de_int)) de_str) (dss_one (ds_ret de_non)) dss_nil) (dss_cons (ds_set (i := 1) SC.nd de_str) (dss_cons (ds_set (i := 2) SC.nd de_bl) (dss_cons (ds_for PO rfl (di_str (de_sl (de_var 0) (do_some de_int) do_none)) (dg_name SC.nd) (dss_cons (ds_if (DW.dt (dw_and (dt_tru (de_var 2)) (dw_and1 (dt_notinK G.t_ESCAPED (de_var 3) (de_gref G.v_ESCAPED))))) (dss_one (ds_ret de_non)) dss_nil) (dss_one (ds_if (DW.dt (dw_or (dt_tru (de_var 2)) (dw_or1 (dt_ne hr (de_var 3) de_str)))) (dss_cons (ds_iadd (i := 1) SC.nd (de_if (dt_tru (de_var 2)) (de_getK G.t_ESCAPED (de_gref G.v_ESCAPED) (de_var 3)) (de_var 3))) (dss_one (ds_set (i := 2) SC.nd de_bl))) (dss_one (ds_set (i := 2) SC.nd de_bl)))))) (dss_one (ds_ret (de_if (dt_tru (de_var 2)) de_non (de_var 1))))))))
theorem fn_string_in {P : Program} {w : World} {K : PySem.W.Frag} {mg : Str → Option Value} {base : Heap} {a : Ad} (G : Gx P w K mg base a) {f : Addr} {fd : FuncData} {dvs : List V} {kws : List (Str × V)} (FD : FunD K "string_in" "string_in" (defArgs s_string_in) (defBody s_string_in) (defScope s_string_in) dvs kws f fd) {sp : SpD}
    (h : ∀ ds w' E Q, ds.length = 1 → sp ds w' E Q → t_string_in a (fun x _ w' => E x w') { nx := fun _ w' => Q .non w', rt := Q } (startD ["word", "found", "is_escaped", "sign"] ds) w') : FnG P w K mg base 2 f fd ["word"] (toSp K 1 sp) :=
  fnG_of FD sc_string_in (t_string_in a) (fun cdv A outer s H E hr tk => d_string_in G cdv A outer s H E hr tk) h
abbrev s_held_in : Stmt := top 14
def t_held_in (a : Ad) (sp_number_in : SpD) (sp_string_in : SpD) : TSD := dSeq (dIfS (dTest (dBin neRD (dSl (dVar 0) dNoPart (dPart (dC (.int 1)))) (dC (.str "@")))) (dRet (dCall 1 sp_string_in [] (dCons (dVar 0) (dNil)))) (dNext)) (dSeq (dAsg (dM1 partD (dSl (dVar 0) (dPart (dC (.int 1))) dNoPart) (dC (.str ":"))) (gdTup 3 (gdCons (gdName 1) (gdCons (gdName 2) (gdCons (gdName 3) (gdNil)))))) (dSeq (dSet 4 (dTup (dCons (dCall 1 sp_number_in [] (dCons (dVar 1) (dNil))) (dCons (dCall 1 sp_number_in [] (dCons (dVar 3) (dNil))) (dNil))))) (dRet (dIf (dTest (dBin (inD false) (dC .non) (dVar 4))) (dC .non) (dTup (dCons (dC (.str "at")) (dStar (dVar 4) (dNil))))))))
theorem sc_held_in : FnScope ["word", "page", "colon", "length", "numbers"] ["word"] (defScope s_held_in) := ⟨rfl, rfl, rfl, by decide +kernel, rfl, by decide +kernel, by decide +kernel⟩
theorem d_held_in {P : Program} {w : World} {K : PySem.W.Frag} {mg : Str → Option Value} {base : Heap} {a : Ad} (G : Gx P w K mg base a) {sp_number_in : SpD} (F_number_in : FnD P w K mg base 2 "number_in" 1 sp_number_in []) {sp_string_in : SpD} (F_string_in : FnD P w K mg base 2 "string_in" 1 sp_string_in []) {f : Addr} (cdv : Value) (A : Around) (outer : List Env) (s : Shared) (H : Hp) (E : XK) (hr : RoomG 2 (A.deeper (envOfC "held_in" (defScope s_held_in) s.heap.objs.size f cdv))) (tk : Takes (cxD P w K mg base ["word", "page", "colon", "length", "numbers"] "held_in" (defScope s_held_in) f cdv A outer s H E) (WD E)) :
    DSs (cxD P w K mg base ["word", "page", "colon", "length", "numbers"] "held_in" (defScope s_held_in) f cdv A outer s H E) (WD E) (defBody s_held_in) (t_held_in a sp_number_in sp_string_in) := by
  have SC := sc_held_in
  exact (dss_cons (ds_if (dt_ne hr (de_sl (de_var 0) do_none (do_some de_int)) de_str) (dss_one (ds_ret (de_callD F_string_in (hr.mono (by decide)) (tkc tk) (da_cons (de_var 0) da_nil)))) dss_nil) (dss_cons (ds_asg (de_part (de_sl (de_var 0) (do_some de_int) do_none) de_str) (dg_tup rfl (dgs_cons (dg_name SC.nd) (dgs_cons (dg_name SC.nd) (dgs_cons (dg_name SC.nd) dgs_nil))))) (dss_cons (ds_set (i := 4) SC.nd (de_tup (da_cons (de_callD F_number_in (hr.mono (by decide)) (tkc tk) (da_cons (de_var 1) da_nil)) (da_cons (de_callD F_number_in (hr.mono (by decide)) (tkc tk) (da_cons (de_var 3) da_nil)) da_nil)))) (dss_one (ds_ret (de_if (dt_in de_non (de_var 4)) de_non (de_tup (da_cons de_str (da_star (de_var 4) da_nil)))))))))
theorem fn_held_in {P : Program} {w : World} {K : PySem.W.Frag} {mg : Str → Option Value} {base : Heap} {a : Ad} (G : Gx P w K mg base a) {sp_number_in : SpD} (F_number_in : FnD P w K mg base 2 "number_in" 1 sp_number_in []) {sp_string_in : SpD} (F_string_in : FnD P w K mg base 2 "string_in" 1 sp_string_in []) {f : Addr} {fd : FuncData} {dvs : List V} {kws : List (Str × V)} (FD : FunD K "held_in" "held_in" (defArgs s_held_in) (defBody s_held_in) (defScope s_held_in) dvs kws f fd) {sp : SpD}
    (h : ∀ ds w' E Q, ds.length = 1 → sp ds w' E Q → t_held_in a sp_number_in sp_string_in (fun x _ w' => E x w') { nx := fun _ w' => Q .non w', rt := Q } (startD ["word", "page", "colon", "length", "numbers"] ds) w') : FnG P w K mg base 3 f fd ["word"] (toSp K 1 sp) :=
  fnG_of FD sc_held_in (t_held_in a sp_number_in sp_string_in) (fun cdv A outer s H E hr tk => d_held_in G F_number_in F_string_in cdv A outer s H E hr tk) h
abbrev s_Line___init__ : Stmt := (clsBody (top 15)).getD 0 (.Pass ⟨0, 0, 0, 0⟩)
def t_Line___init__ (a : Ad) : TSD := dSeq (dFldSet a.c_Line "words" (dVar 0) (dVar 1)) (dSeq (dFldSet a.c_Line "line" (dVar 0) (dVar 2)) (dFldSet a.c_Line "at" (dVar 0) (dVar 3)))
theorem sc_Line___init__ : FnScope ["self", "words", "line", "start"] ["self", "words", "line", "start"] (defScope s_Line___init__) := ⟨rfl, rfl, rfl, by decide +kernel, rfl, by decide +kernel, by decide +kernel⟩
theorem d_Line___init__ {P : Program} {w : World} {K : PySem.W.Frag} {mg : Str → Option Value} {base : Heap} {a : Ad} (G : Gx P w K mg base a) {f : Addr} (cdv : Value) (A : Around) (outer : List Env) (s : Shared) (H : Hp) (E : XK) (hr : RoomG 1 (A.deeper (envOfC "Line.__init__" (defScope s_Line___init__) s.heap.objs.size f cdv))) (tk : Takes (cxD P w K mg base ["self", "words", "line", "start"] "Line.__init__" (defScope s_Line___init__) f cdv A outer s H E) (WD E)) :
    DSs (cxD P w K mg base ["self", "words", "line", "start"] "Line.__init__" (defScope s_Line___init__) f cdv A outer s H E) (WD E) (defBody s_Line___init__) (t_Line___init__ a) := by
  have SC := sc_Line___init__
  exact (dss_cons (ds_fld G.k_Line G.na_Line_words (de_var 0) (de_var 1)) (dss_cons (ds_fld G.k_Line G.na_Line_line (de_var 0) (de_var 2)) (dss_one (ds_fld G.k_Line G.na_Line_at (de_var 0) (de_var 3)))))
theorem fn_Line___init__ {P : Program} {w : World} {K : PySem.W.Frag} {mg : Str → Option Value} {base : Heap} {a : Ad} (G : Gx P w K mg base a) {f : Addr} {fd : FuncData} {dvs : List V} {kws : List (Str × V)} (FD : FunD K "__init__" "Line.__init__" (defArgs s_Line___init__) (defBody s_Line___init__) (defScope s_Line___init__) dvs kws f fd) {sp : SpD}
    (h : ∀ ds w' E Q, ds.length = 4 → sp ds w' E Q → t_Line___init__ a (fun x _ w' => E x w') { nx := fun _ w' => Q .non w', rt := Q } (startD ["self", "words", "line", "start"] ds) w') : FnG P w K mg base 2 f fd ["self", "words", "line", "start"] (toSp K 4 sp) :=
  fnG_of FD sc_Line___init__ (t_Line___init__ a) (fun cdv A outer s H E hr tk => d_Line___init__ G cdv A outer s H E hr tk) h
abbrev s_Line_is_over : Stmt := (clsBody (top 15)).getD 1 (.Pass ⟨0, 0, 0, 0⟩)
def t_Line_is_over (a : Ad) : TSD := dRet (dBin eqRD (dFld a.c_Line "at" (dVar 0)) (dCB lenD (dCons (dFld a.c_Line "words" (dVar 0)) (dNil))))
theorem sc_Line_is_over : FnScope ["self"] ["self"] (defScope s_Line_is_over) := ⟨rfl, rfl, rfl, by decide +kernel, rfl, by decide +kernel, by decide +kernel⟩
theorem d_Line_is_over {P : Program} {w : World} {K : PySem.W.Frag} {mg : Str → Option Value} {base : Heap} {a : Ad} (G : Gx P w K mg base a) {f : Addr} (cdv : Value) (A : Around) (outer : List Env) (s : Shared) (H : Hp) (E : XK) (hr : RoomG 1 (A.deeper (envOfC "Line.is_over" (defScope s_Line_is_over) s.heap.objs.size f cdv))) (tk : Takes (cxD P w K mg base ["self"] "Line.is_over" (defScope s_Line_is_over) f cdv A outer s H E) (WD E)) :
    DSs (cxD P w K mg base ["self"] "Line.is_over" (defScope s_Line_is_over) f cdv A outer s H E) (WD E) (defBody s_Line_is_over) (t_Line_is_over a) := by
  have SC := sc_Line_is_over
  exact (dss_one (ds_ret (de_eq hr (de_fld G.k_Line G.na_Line_at (de_var 0)) (de_len G.n_len (da_cons (de_fld G.k_Line G.na_Line_words (de_var 0)) da_nil)))))
theorem fn_Line_is_over {P : Program} {w : World} {K : PySem.W.Frag} {mg : Str → Option Value} {base : Heap} {a : Ad} (G : Gx P w K mg base a) {f : Addr} {fd : FuncData} {dvs : List V} {kws : List (Str × V)} (FD : FunD K "is_over" "Line.is_over" (defArgs s_Line_is_over) (defBody s_Line_is_over) (defScope s_Line_is_over) dvs kws f fd) {sp : SpD}
    (h : ∀ ds w' E Q, ds.length = 1 → sp ds w' E Q → t_Line_is_over a (fun x _ w' => E x w') { nx := fun _ w' => Q .non w', rt := Q } (startD ["self"] ds) w') : FnG P w K mg base 2 f fd ["self"] (toSp K 1 sp) :=
  fnG_of FD sc_Line_is_over (t_Line_is_over a) (fun cdv A outer s H E hr tk => d_Line_is_over G cdv A outer s H E hr tk) h
abbrev s_Line_take_word : Stmt := (clsBody (top 15)).getD 2 (.Pass ⟨0, 0, 0, 0⟩)
def t_Line_take_word (a : Ad) (P : Program) (w : World) (K : PySem.W.Frag) (mg : Str → Option Value) (base : Heap) (sp_Line_is_over : SpD) (sp_need_word : SpD) : TSD := dSeq (dDrop (dCall 3 sp_need_word [] (dCons (dNotV (dMeth a.c_Line "is_over" 1 sp_Line_is_over [] (dVar 0) dNil)) (dCons (dFld a.c_Line "line" (dVar 0)) (dCons (dFld a.c_Line "at" (dVar 0)) (dNil)))))) (dSeq (dSet 2 (dCallVL P w K mg base 5 1 qL lpL lbL lsL (dCons (dBin ixD (dFld a.c_Line "words" (dVar 0)) (dFld a.c_Line "at" (dVar 0))) (dNil)))) (dSeq (dDrop (dCall 3 sp_need_word [] (dCons (notND (dVar 2)) (dCons (dFld a.c_Line "line" (dVar 0)) (dCons (dFld a.c_Line "at" (dVar 0)) (dNil)))))) (dSeq (dFldAug a.c_Line "at" (dVar 0) (dC (.int 1)) (fun i j => i + j)) (dRet (dVar 2)))))
theorem sc_Line_take_word : FnScope ["self", "read", "found"] ["self", "read"] (defScope s_Line_take_word) := ⟨rfl, rfl, rfl, by decide +kernel, rfl, by decide +kernel, by decide +kernel⟩
theorem d_Line_take_word {P : Program} {w : World} {K : PySem.W.Frag} {mg : Str → Option Value} {base : Heap} {a : Ad} (G : Gx P w K mg base a) {sp_Line_is_over : SpD} (F_Line_is_over : MtD P w K mg base 2 a.c_Line "is_over" 1 sp_Line_is_over []) {sp_need_word : SpD} (F_need_word : FnD P w K mg base 2 "need_word" 3 sp_need_word []) {f : Addr} (cdv : Value) (A : Around) (outer : List Env) (s : Shared) (H : Hp) (E : XK) (hr : RoomG 5 (A.deeper (envOfC "Line.take_word" (defScope s_Line_take_word) s.heap.objs.size f cdv))) (tk : Takes (cxD P w K mg base ["self", "read", "found"] "Line.take_word" (defScope s_Line_take_word) f cdv A outer s H E) (WD E)) :
    DSs (cxD P w K mg base ["self", "read", "found"] "Line.take_word" (defScope s_Line_take_word) f cdv A outer s H E) (WD E) (defBody s_Line_take_word) (t_Line_take_word a P w K mg base sp_Line_is_over sp_need_word) := by
  have SC := sc_Line_take_word
  exact (dss_cons (ds_expr (de_callD F_need_word (hr.mono (by decide)) (tkc tk) (da_cons (de_not (de_meth0D (de_var 0) F_Line_is_over (hr.mono (by decide)) (tkc tk))) (da_cons (de_fld G.k_Line G.na_Line_line (de_var 0)) (da_cons (de_fld G.k_Line G.na_Line_at (de_var 0)) da_nil))))) (dss_cons (ds_set (i := 2) SC.nd (de_callVL G.lt (hr.mono (by decide)) (by decide) (tkc tk) (da_cons (de_ix (de_fld G.k_Line G.na_Line_words (de_var 0)) (de_fld G.k_Line G.na_Line_at (de_var 0))) da_nil))) (dss_cons (ds_expr (de_callD F_need_word (hr.mono (by decide)) (tkc tk) (da_cons (de_notN (de_var 2)) (da_cons (de_fld G.k_Line G.na_Line_line (de_var 0)) (da_cons (de_fld G.k_Line G.na_Line_at (de_var 0)) da_nil))))) (dss_cons (ds_fldadd G.k_Line G.na_Line_at (de_var 0) de_int) (dss_one (ds_ret (de_var 2)))))))
theorem fn_Line_take_word {P : Program} {w : World} {K : PySem.W.Frag} {mg : Str → Option Value} {base : Heap} {a : Ad} (G : Gx P w K mg base a) {sp_Line_is_over : SpD} (F_Line_is_over : MtD P w K mg base 2 a.c_Line "is_over" 1 sp_Line_is_over []) {sp_need_word : SpD} (F_need_word : FnD P w K mg base 2 "need_word" 3 sp_need_word []) {f : Addr} {fd : FuncData} {dvs : List V} {kws : List (Str × V)} (FD : FunD K "take_word" "Line.take_word" (defArgs s_Line_take_word) (defBody s_Line_take_word) (defScope s_Line_take_word) dvs kws f fd) {sp : SpD}
    (h : ∀ ds w' E Q, ds.length = 2 → sp ds w' E Q → t_Line_take_word a P w K mg base sp_Line_is_over sp_need_word (fun x _ w' => E x w') { nx := fun _ w' => Q .non w', rt := Q } (startD ["self", "read", "found"] ds) w') : FnG P w K mg base 6 f fd ["self", "read"] (toSp K 2 sp) :=
  fnG_of FD sc_Line_take_word (t_Line_take_word a P w K mg base sp_Line_is_over sp_need_word) (fun cdv A outer s H E hr tk => d_Line_take_word G F_Line_is_over F_need_word cdv A outer s H E hr tk) h
abbrev s_Line_take_link : Stmt := (clsBody (top 15)).getD 3 (.Pass ⟨0, 0, 0, 0⟩)
def t_Line_take_link (a : Ad) (sp_Line_is_over : SpD) (sp_Line_take_word : SpD) : TSD := dSeq (dIfS (dAnd (dNot (dTru (dMeth a.c_Line "is_over" 1 sp_Line_is_over [] (dVar 0) dNil))) (dTest (dBin eqRD (dBin ixD (dFld a.c_Line "words" (dVar 0)) (dFld a.c_Line "at" (dVar 0))) (dC (.str "-"))))) (dSeq (dFldAug a.c_Line "at" (dVar 0) (dC (.int 1)) (fun i j => i + j)) (dRet (dC .non))) (dNext)) (dRet (dMeth a.c_Line "take_word" 2 sp_Line_take_word [] (dVar 0) (dCons (dC (.ref a.f_number_in)) (dNil))))
theorem sc_Line_take_link : FnScope ["self"] ["self"] (defScope s_Line_take_link) := ⟨rfl, rfl, rfl, by decide +kernel, rfl, by decide +kernel, by decide +kernel⟩
theorem d_Line_take_link {P : Program} {w : World} {K : PySem.W.Frag} {mg : Str → Option Value} {base : Heap} {a : Ad} (G : Gx P w K mg base a) {sp_Line_is_over : SpD} (F_Line_is_over : MtD P w K mg base 2 a.c_Line "is_over" 1 sp_Line_is_over []) {sp_Line_take_word : SpD} (F_Line_take_word : MtD P w K mg base 6 a.c_Line "take_word" 2 sp_Line_take_word []) {f : Addr} (cdv : Value) (A : Around) (outer : List Env) (s : Shared) (H : Hp) (E : XK) (hr : RoomG 6 (A.deeper (envOfC "Line.take_link" (defScope s_Line_take_link) s.heap.objs.size f cdv))) (tk : Takes (cxD P w K mg base ["self"] "Line.take_link" (defScope s_Line_take_link) f cdv A outer s H E) (WD E)) :
    DSs (cxD P w K mg base ["self"] "Line.take_link" (defScope s_Line_take_link) f cdv A outer s H E) (WD E) (defBody s_Line_take_link) (t_Line_take_link a sp_Line_is_over sp_Line_take_word) := by
  have SC := sc_Line_take_link
  exact (dss_cons (ds_if (DW.dt (dw_and (dt_not (dt_tru (de_meth0D (de_var 0) F_Line_is_over (hr.mono (by decide)) (tkc tk)))) (dw_and1 (dt_eq hr (de_ix (de_fld G.k_Line G.na_Line_words (de_var 0)) (de_fld G.k_Line G.na_Line_at (de_var 0))) (de_gstr G.v_NOTHING_reader))))) (dss_cons (ds_fldadd G.k_Line G.na_Line_at (de_var 0) de_int) (dss_one (ds_ret de_non))) dss_nil) (dss_one (ds_ret (de_methD (de_var 0) F_Line_take_word (hr.mono (by decide)) (tkc tk) (da_cons (de_gref G.h_number_in) da_nil)))))
theorem fn_Line_take_link {P : Program} {w : World} {K : PySem.W.Frag} {mg : Str → Option Value} {base : Heap} {a : Ad} (G : Gx P w K mg base a) {sp_Line_is_over : SpD} (F_Line_is_over : MtD P w K mg base 2 a.c_Line "is_over" 1 sp_Line_is_over []) {sp_Line_take_word : SpD} (F_Line_take_word : MtD P w K mg base 6 a.c_Line "take_word" 2 sp_Line_take_word []) {f : Addr} {fd : FuncData} {dvs : List V} {kws : List (Str × V)} (FD : FunD K "take_link" "Line.take_link" (defArgs s_Line_take_link) (defBody s_Line_take_link) (defScope s_Line_take_link) dvs kws f fd) {sp : SpD}
    (h : ∀ ds w' E Q, ds.length = 1 → sp ds w' E Q → t_Line_take_link a sp_Line_is_over sp_Line_take_word (fun x _ w' => E x w') { nx := fun _ w' => Q .non w', rt := Q } (startD ["self"] ds) w') : FnG P w K mg base 7 f fd ["self"] (toSp K 1 sp) :=
  fnG_of FD sc_Line_take_link (t_Line_take_link a sp_Line_is_over sp_Line_take_word) (fun cdv A outer s H E hr tk => d_Line_take_link G F_Line_is_over F_Line_take_word cdv A outer s H E hr tk) h
abbrev s_Line_take_rest : Stmt := (clsBody (top 15)).getD 4 (.Pass ⟨0, 0, 0, 0⟩)
def t_Line_take_rest (a : Ad) (sp_Line_is_over : SpD) (sp_Line_take_word : SpD) : TSD := dSeq (dSet 2 (dLstW (dNil))) (dSeq (dWhile (dNot (dTru (dMeth a.c_Line "is_over" 1 sp_Line_is_over [] (dVar 0) dNil))) (dDrop (dApp (dVar 2) (dMeth a.c_Line "take_word" 2 sp_Line_take_word [] (dVar 0) (dCons (dVar 1) (dNil)))))) (dRet (dCB tupCD (dCons (dVar 2) (dNil)))))
theorem sc_Line_take_rest : FnScope ["self", "read", "found"] ["self", "read"] (defScope s_Line_take_rest) := ⟨rfl, rfl, rfl, by decide +kernel, rfl, by decide +kernel, by decide +kernel⟩
theorem d_Line_take_rest {P : Program} {w : World} {K : PySem.W.Frag} {mg : Str → Option Value} {base : Heap} {a : Ad} (G : Gx P w K mg base a) {sp_Line_is_over : SpD} (F_Line_is_over : MtD P w K mg base 2 a.c_Line "is_over" 1 sp_Line_is_over []) {sp_Line_take_word : SpD} (F_Line_take_word : MtD P w K mg base 6 a.c_Line "take_word" 2 sp_Line_take_word []) {f : Addr} (cdv : Value) (A : Around) (outer : List Env) (s : Shared) (H : Hp) (E : XK) (hr : RoomG 6 (A.deeper (envOfC "Line.take_rest" (defScope s_Line_take_rest) s.heap.objs.size f cdv))) (tk : Takes (cxD P w K mg base ["self", "read", "found"] "Line.take_rest" (defScope s_Line_take_rest) f cdv A outer s H E) (WD E)) :
    DSs (cxD P w K mg base ["self", "read", "found"] "Line.take_rest" (defScope s_Line_take_rest) f cdv A outer s H E) (WD E) (defBody s_Line_take_rest) (t_Line_take_rest a sp_Line_is_over sp_Line_take_word) := by
  have SC := sc_Line_take_rest
  have PO : PassesOwn (model P w) (A.deeper (envOfC "Line.take_rest" (defScope s_Line_take_rest) s.heap.objs.size f cdv)) (envOfC "Line.take_rest" (defScope s_Line_take_rest) s.heap.objs.size f cdv) (cxD P w K mg base ["self", "read", "found"] "Line.take_rest" (defScope s_Line_take_rest) f cdv A outer s H E).xe := PassesOwn.leaving
  exact (dss_cons (ds_set (i := 2) SC.nd (de_lstW da_nil)) (dss_cons (ds_while PO (dt_not (dt_tru (de_meth0D (de_var 0) F_Line_is_over (hr.mono (by decide)) (tkc tk)))) (dss_one (ds_expr (de_app (de_var 2) (de_methD (de_var 0) F_Line_take_word (hr.mono (by decide)) (tkc tk) (da_cons (de_var 1) da_nil)))))) (dss_one (ds_ret (de_tupC G.n_tuple (da_cons (de_var 2) da_nil))))))
theorem fn_Line_take_rest {P : Program} {w : World} {K : PySem.W.Frag} {mg : Str → Option Value} {base : Heap} {a : Ad} (G : Gx P w K mg base a) {sp_Line_is_over : SpD} (F_Line_is_over : MtD P w K mg base 2 a.c_Line "is_over" 1 sp_Line_is_over []) {sp_Line_take_word : SpD} (F_Line_take_word : MtD P w K mg base 6 a.c_Line "take_word" 2 sp_Line_take_word []) {f : Addr} {fd : FuncData} {dvs : List V} {kws : List (Str × V)} (FD : FunD K "take_rest" "Line.take_rest" (defArgs s_Line_take_rest) (defBody s_Line_take_rest) (defScope s_Line_take_rest) dvs kws f fd) {sp : SpD}
    (h : ∀ ds w' E Q, ds.length = 2 → sp ds w' E Q → t_Line_take_rest a sp_Line_is_over sp_Line_take_word (fun x _ w' => E x w') { nx := fun _ w' => Q .non w', rt := Q } (startD ["self", "read", "found"] ds) w') : FnG P w K mg base 7 f fd ["self", "read"] (toSp K 2 sp) :=
  fnG_of FD sc_Line_take_rest (t_Line_take_rest a sp_Line_is_over sp_Line_take_word) (fun cdv A outer s H E hr tk => d_Line_take_rest G F_Line_is_over F_Line_take_word cdv A outer s H E hr tk) h
abbrev s_Line_finished : Stmt := (clsBody (top 15)).getD 5 (.Pass ⟨0, 0, 0, 0⟩)
def t_Line_finished (a : Ad) (sp_Line_is_over : SpD) (sp_need_word : SpD) : TSD := dSeq (dDrop (dCall 3 sp_need_word [] (dCons (dMeth a.c_Line "is_over" 1 sp_Line_is_over [] (dVar 0) dNil) (dCons (dFld a.c_Line "line" (dVar 0)) (dCons (dFld a.c_Line "at" (dVar 0)) (dNil)))))) (dRet (dVar 1))
theorem sc_Line_finished : FnScope ["self", "found"] ["self", "found"] (defScope s_Line_finished) := ⟨rfl, rfl, rfl, by decide +kernel, rfl, by decide +kernel, by decide +kernel⟩
theorem d_Line_finished {P : Program} {w : World} {K : PySem.W.Frag} {mg : Str → Option Value} {base : Heap} {a : Ad} (G : Gx P w K mg base a) {sp_Line_is_over : SpD} (F_Line_is_over : MtD P w K mg base 2 a.c_Line "is_over" 1 sp_Line_is_over []) {sp_need_word : SpD} (F_need_word : FnD P w K mg base 2 "need_word" 3 sp_need_word []) {f : Addr} (cdv : Value) (A : Around) (outer : List Env) (s : Shared) (H : Hp) (E : XK) (hr : RoomG 2 (A.deeper (envOfC "Line.finished" (defScope s_Line_finished) s.heap.objs.size f cdv))) (tk : Takes (cxD P w K mg base ["self", "found"] "Line.finished" (defScope s_Line_finished) f cdv A outer s H E) (WD E)) :
    DSs (cxD P w K mg base ["self", "found"] "Line.finished" (defScope s_Line_finished) f cdv A outer s H E) (WD E) (defBody s_Line_finished) (t_Line_finished a sp_Line_is_over sp_need_word) := by
  have SC := sc_Line_finished
  exact (dss_cons (ds_expr (de_callD F_need_word (hr.mono (by decide)) (tkc tk) (da_cons (de_meth0D (de_var 0) F_Line_is_over (hr.mono (by decide)) (tkc tk)) (da_cons (de_fld G.k_Line G.na_Line_line (de_var 0)) (da_cons (de_fld G.k_Line G.na_Line_at (de_var 0)) da_nil))))) (dss_one (ds_ret (de_var 1))))
theorem fn_Line_finished {P : Program} {w : World} {K : PySem.W.Frag} {mg : Str → Option Value} {base : Heap} {a : Ad} (G : Gx P w K mg base a) {sp_Line_is_over : SpD} (F_Line_is_over : MtD P w K mg base 2 a.c_Line "is_over" 1 sp_Line_is_over []) {sp_need_word : SpD} (F_need_word : FnD P w K mg base 2 "need_word" 3 sp_need_word []) {f : Addr} {fd : FuncData} {dvs : List V} {kws : List (Str × V)} (FD : FunD K "finished" "Line.finished" (defArgs s_Line_finished) (defBody s_Line_finished) (defScope s_Line_finished) dvs kws f fd) {sp : SpD}
    (h : ∀ ds w' E Q, ds.length = 2 → sp ds w' E Q → t_Line_finished a sp_Line_is_over sp_need_word (fun x _ w' => E x w') { nx := fun _ w' => Q .non w', rt := Q } (startD ["self", "found"] ds) w') : FnG P w K mg base 3 f fd ["self", "found"] (toSp K 2 sp) :=
  fnG_of FD sc_Line_finished (t_Line_finished a sp_Line_is_over sp_need_word) (fun cdv A outer s H E hr tk => d_Line_finished G F_Line_is_over F_need_word cdv A outer s H E hr tk) h
abbrev s_leaf_image_in : Stmt := top 17
def t_leaf_image_in (a : Ad) (sp_Line_is_over : SpD) (sp_Line_take_link : SpD) (sp_Line_take_word : SpD) : TSD := dSeq (dSet 1 (dMeth a.c_Line "take_link" 1 sp_Line_take_link [] (dVar 0) dNil)) (dSeq (dSet 2 (dLstW (dNil))) (dSeq (dWhile (dNot (dTru (dMeth a.c_Line "is_over" 1 sp_Line_is_over [] (dVar 0) dNil))) (dDrop (dApp (dVar 2) (dTup (dCons (dMeth a.c_Line "take_word" 2 sp_Line_take_word [] (dVar 0) (dCons (dC (.ref a.f_key_in)) (dNil))) (dCons (dMeth a.c_Line "take_word" 2 sp_Line_take_word [] (dVar 0) (dCons (dC (.ref a.f_held_in)) (dNil))) (dNil))))))) (dRet (dTup (dCons (dC (.str "leaf")) (dCons (dCB tupCD (dCons (dVar 2) (dNil))) (dCons (dVar 1) (dNil))))))))
theorem sc_leaf_image_in : FnScope ["line", "right", "records"] ["line"] (defScope s_leaf_image_in) := ⟨rfl, rfl, rfl, by decide +kernel, rfl, by decide +kernel, by decide +kernel⟩
theorem d_leaf_image_in {P : Program} {w : World} {K : PySem.W.Frag} {mg : Str → Option Value} {base : Heap} {a : Ad} (G : Gx P w K mg base a) {sp_Line_is_over : SpD} (F_Line_is_over : MtD P w K mg base 2 a.c_Line "is_over" 1 sp_Line_is_over []) {sp_Line_take_link : SpD} (F_Line_take_link : MtD P w K mg base 7 a.c_Line "take_link" 1 sp_Line_take_link []) {sp_Line_take_word : SpD} (F_Line_take_word : MtD P w K mg base 6 a.c_Line "take_word" 2 sp_Line_take_word []) {f : Addr} (cdv : Value) (A : Around) (outer : List Env) (s : Shared) (H : Hp) (E : XK) (hr : RoomG 7 (A.deeper (envOfC "leaf_image_in" (defScope s_leaf_image_in) s.heap.objs.size f cdv))) (tk : Takes (cxD P w K mg base ["line", "right", "records"] "leaf_image_in" (defScope s_leaf_image_in) f cdv A outer s H E) (WD E)) :
    DSs (cxD P w K mg base ["line", "right", "records"] "leaf_image_in" (defScope s_leaf_image_in) f cdv A outer s H E) (WD E) (defBody s_leaf_image_in) (t_leaf_image_in a sp_Line_is_over sp_Line_take_link sp_Line_take_word) := by
  have SC := sc_leaf_image_in
  have PO : PassesOwn (model P w) (A.deeper (envOfC "leaf_image_in" (defScope s_leaf_image_in) s.heap.objs.size f cdv)) (envOfC "leaf_image_in" (defScope s_leaf_image_in) s.heap.objs.size f cdv) (cxD P w K mg base ["line", "right", "records"] "leaf_image_in" (defScope s_leaf_image_in) f cdv A outer s H E).xe := PassesOwn.leaving
  exact (dss_cons (ds_set (i := 1) SC.nd (de_meth0D (de_var 0) F_Line_take_link (hr.mono (by decide)) (tkc tk))) (dss_cons (ds_set (i := 2) SC.nd (de_lstW da_nil)) (dss_cons (ds_while PO (dt_not (dt_tru (de_meth0D (de_var 0) F_Line_is_over (hr.mono (by decide)) (tkc tk)))) (dss_one (ds_expr (de_app (de_var 2) (de_tup (da_cons (de_methD (de_var 0) F_Line_take_word (hr.mono (by decide)) (tkc tk) (da_cons (de_gref G.h_key_in) da_nil)) (da_cons (de_methD (de_var 0) F_Line_take_word (hr.mono (by decide)) (tkc tk) (da_cons (de_gref G.h_held_in) da_nil)) da_nil))))))) (dss_one (ds_ret (de_tup (da_cons de_str (da_cons (de_tupC G.n_tuple (da_cons (de_var 2) da_nil)) (da_cons (de_var 1) da_nil)))))))))
theorem fn_leaf_image_in {P : Program} {w : World} {K : PySem.W.Frag} {mg : Str → Option Value} {base : Heap} {a : Ad} (G : Gx P w K mg base a) {sp_Line_is_over : SpD} (F_Line_is_over : MtD P w K mg base 2 a.c_Line "is_over" 1 sp_Line_is_over []) {sp_Line_take_link : SpD} (F_Line_take_link : MtD P w K mg base 7 a.c_Line "take_link" 1 sp_Line_take_link []) {sp_Line_take_word : SpD} (F_Line_take_word : MtD P w K mg base 6 a.c_Line "take_word" 2 sp_Line_take_word []) {f : Addr} {fd : FuncData} {dvs : List V} {kws : List (Str × V)} (FD : FunD K "leaf_image_in" "leaf_image_in" (defArgs s_leaf_image_in) (defBody s_leaf_image_in) (defScope s_leaf_image_in) dvs kws f fd) {sp : SpD}
    (h : ∀ ds w' E Q, ds.length = 1 → sp ds w' E Q → t_leaf_image_in a sp_Line_is_over sp_Line_take_link sp_Line_take_word (fun x _ w' => E x w') { nx := fun _ w' => Q .non w', rt := Q } (startD ["line", "right", "records"] ds) w') : FnG P w K mg base 8 f fd ["line"] (toSp K 1 sp) :=
  fnG_of FD sc_leaf_image_in (t_leaf_image_in a sp_Line_is_over sp_Line_take_link sp_Line_take_word) (fun cdv A outer s H E hr tk => d_leaf_image_in G F_Line_is_over F_Line_take_link F_Line_take_word cdv A outer s H E hr tk) h
abbrev s_inner_image_in : Stmt := top 18
def t_inner_image_in (a : Ad) (sp_Line_is_over : SpD) (sp_Line_take_word : SpD) : TSD := dSeq (dSet 1 (dLstW (dCons (dMeth a.c_Line "take_word" 2 sp_Line_take_word [] (dVar 0) (dCons (dC (.ref a.f_number_in)) (dNil))) (dNil)))) (dSeq (dSet 2 (dLstW (dNil))) (dSeq (dWhile (dOr (dTest (dBin eqRD (dVar 2) (dLst (dNil)))) (dNot (dTru (dMeth a.c_Line "is_over" 1 sp_Line_is_over [] (dVar 0) dNil)))) (dSeq (dDrop (dApp (dVar 2) (dMeth a.c_Line "take_word" 2 sp_Line_take_word [] (dVar 0) (dCons (dC (.ref a.f_key_in)) (dNil))))) (dDrop (dApp (dVar 1) (dMeth a.c_Line "take_word" 2 sp_Line_take_word [] (dVar 0) (dCons (dC (.ref a.f_number_in)) (dNil))))))) (dRet (dTup (dCons (dC (.str "inner")) (dCons (dCB tupCD (dCons (dVar 2) (dNil))) (dCons (dCB tupCD (dCons (dVar 1) (dNil))) (dNil))))))))
theorem sc_inner_image_in : FnScope ["line", "lower", "separators"] ["line"] (defScope s_inner_image_in) := ⟨rfl, rfl, rfl, by decide +kernel, rfl, by decide +kernel, by decide +kernel⟩
theorem d_inner_image_in {P : Program} {w : World} {K : PySem.W.Frag} {mg : Str → Option Value} {base : Heap} {a : Ad} (G : Gx P w K mg base a) {sp_Line_is_over : SpD} (F_Line_is_over : MtD P w K mg base 2 a.c_Line "is_over" 1 sp_Line_is_over []) {sp_Line_take_word : SpD} (F_Line_take_word : MtD P w K mg base 6 a.c_Line "take_word" 2 sp_Line_take_word []) {f : Addr} (cdv : Value) (A : Around) (outer : List Env) (s : Shared) (H : Hp) (E : XK) (hr : RoomG 6 (A.deeper (envOfC "inner_image_in" (defScope s_inner_image_in) s.heap.objs.size f cdv))) (tk : Takes (cxD P w K mg base ["line", "lower", "separators"] "inner_image_in" (defScope s_inner_image_in) f cdv A outer s H E) (WD E)) :
    DSs (cxD P w K mg base ["line", "lower", "separators"] "inner_image_in" (defScope s_inner_image_in) f cdv A outer s H E) (WD E) (defBody s_inner_image_in) (t_inner_image_in a sp_Line_is_over sp_Line_take_word) := by
  have SC := sc_inner_image_in
  have PO : PassesOwn (model P w) (A.deeper (envOfC "inner_image_in" (defScope s_inner_image_in) s.heap.objs.size f cdv)) (envOfC "inner_image_in" (defScope s_inner_image_in) s.heap.objs.size f cdv) (cxD P w K mg base ["line", "lower", "separators"] "inner_image_in" (defScope s_inner_image_in) f cdv A outer s H E).xe := PassesOwn.leaving
  exact (dss_cons (ds_set (i := 1) SC.nd (de_lstW (da_cons (de_methD (de_var 0) F_Line_take_word (hr.mono (by decide)) (tkc tk) (da_cons (de_gref G.h_number_in) da_nil)) da_nil))) (dss_cons (ds_set (i := 2) SC.nd (de_lstW da_nil)) (dss_cons (ds_while PO (DW.dt (dw_or (dt_eq hr (de_var 2) (de_lst da_nil)) (dw_or1 (dt_not (dt_tru (de_meth0D (de_var 0) F_Line_is_over (hr.mono (by decide)) (tkc tk))))))) (dss_cons (ds_expr (de_app (de_var 2) (de_methD (de_var 0) F_Line_take_word (hr.mono (by decide)) (tkc tk) (da_cons (de_gref G.h_key_in) da_nil)))) (dss_one (ds_expr (de_app (de_var 1) (de_methD (de_var 0) F_Line_take_word (hr.mono (by decide)) (tkc tk) (da_cons (de_gref G.h_number_in) da_nil))))))) (dss_one (ds_ret (de_tup (da_cons de_str (da_cons (de_tupC G.n_tuple (da_cons (de_var 2) da_nil)) (da_cons (de_tupC G.n_tuple (da_cons (de_var 1) da_nil)) da_nil)))))))))
theorem fn_inner_image_in {P : Program} {w : World} {K : PySem.W.Frag} {mg : Str → Option Value} {base : Heap} {a : Ad} (G : Gx P w K mg base a) {sp_Line_is_over : SpD} (F_Line_is_over : MtD P w K mg base 2 a.c_Line "is_over" 1 sp_Line_is_over []) {sp_Line_take_word : SpD} (F_Line_take_word : MtD P w K mg base 6 a.c_Line "take_word" 2 sp_Line_take_word []) {f : Addr} {fd : FuncData} {dvs : List V} {kws : List (Str × V)} (FD : FunD K "inner_image_in" "inner_image_in" (defArgs s_inner_image_in) (defBody s_inner_image_in) (defScope s_inner_image_in) dvs kws f fd) {sp : SpD}
    (h : ∀ ds w' E Q, ds.length = 1 → sp ds w' E Q → t_inner_image_in a sp_Line_is_over sp_Line_take_word (fun x _ w' => E x w') { nx := fun _ w' => Q .non w', rt := Q } (startD ["line", "lower", "separators"] ds) w') : FnG P w K mg base 7 f fd ["line"] (toSp K 1 sp) :=
  fnG_of FD sc_inner_image_in (t_inner_image_in a sp_Line_is_over sp_Line_take_word) (fun cdv A outer s H E hr tk => d_inner_image_in G F_Line_is_over F_Line_take_word cdv A outer s H E hr tk) h
abbrev s_image_in : Stmt := top 19
def t_image_in (a : Ad) (sp_Line_finished : SpD) (sp_Line_take_link : SpD) (sp_Line_take_rest : SpD) (sp_Line_take_word : SpD) (sp_inner_image_in : SpD) (sp_leaf_image_in : SpD) : TSD := dSeq (dMatch (dMeth a.c_Line "take_word" 2 sp_Line_take_word [] (dVar 0) (dCons (dWo qL lpL lbL lsL a.tL (dCons (dC (.str "head")) (dCons (dC (.str "space")) (dCons (dC (.str "leaf")) (dCons (dC (.str "inner")) (dCons (dC (.str "piece")) (dCons (dC (.str "free")) (dNil)))))))) (dNil))) (dmStr "head" (dRet (dMeth a.c_Line "finished" 2 sp_Line_finished [] (dVar 0) (dCons (dTup (dCons (dC (.str "head")) (dCons (dMeth a.c_Line "take_word" 2 sp_Line_take_word [] (dVar 0) (dCons (dC (.ref a.f_number_in)) (dNil))) (dCons (dMeth a.c_Line "take_word" 2 sp_Line_take_word [] (dVar 0) (dCons (dC (.ref a.f_number_in)) (dNil))) (dNil))))) (dNil)))) (dmStr "space" (dSeq (dPar 1 2 (dCons (dMeth a.c_Line "take_word" 2 sp_Line_take_word [] (dVar 0) (dCons (dC (.ref a.f_number_in)) (dNil))) (dCons (dMeth a.c_Line "take_word" 2 sp_Line_take_word [] (dVar 0) (dCons (dC (.ref a.f_number_in)) (dNil))) (dNil)))) (dRet (dTup (dCons (dC (.str "space")) (dCons (dVar 1) (dCons (dMeth a.c_Line "take_rest" 2 sp_Line_take_rest [] (dVar 0) (dCons (dC (.ref a.f_number_in)) (dNil))) (dCons (dVar 2) (dNil)))))))) (dmStr "leaf" (dRet (dCall 1 sp_leaf_image_in [] (dCons (dVar 0) (dNil)))) (dmStr "inner" (dRet (dCall 1 sp_inner_image_in [] (dCons (dVar 0) (dNil)))) (dmStr "piece" (dSeq (dSet 3 (dMeth a.c_Line "take_link" 1 sp_Line_take_link [] (dVar 0) dNil)) (dRet (dMeth a.c_Line "finished" 2 sp_Line_finished [] (dVar 0) (dCons (dTup (dCons (dC (.str "piece")) (dCons (dMeth a.c_Line "take_word" 2 sp_Line_take_word [] (dVar 0) (dCons (dC (.ref a.f_string_in)) (dNil))) (dCons (dVar 3) (dNil))))) (dNil))))) ((fun _ _ De ρ w => De.nx ρ w)))))))) (dRet (dMeth a.c_Line "finished" 2 sp_Line_finished [] (dVar 0) (dCons (dTup (dCons (dC (.str "free")) (dNil))) (dNil))))
theorem sc_image_in : FnScope ["line", "pages", "commit", "following"] ["line"] (defScope s_image_in) := ⟨rfl, rfl, rfl, by decide +kernel, rfl, by decide +kernel, by decide +kernel⟩
theorem d_image_in {P : Program} {w : World} {K : PySem.W.Frag} {mg : Str → Option Value} {base : Heap} {a : Ad} (G : Gx P w K mg base a) {sp_Line_finished : SpD} (F_Line_finished : MtD P w K mg base 3 a.c_Line "finished" 2 sp_Line_finished []) {sp_Line_take_link : SpD} (F_Line_take_link : MtD P w K mg base 7 a.c_Line "take_link" 1 sp_Line_take_link []) {sp_Line_take_rest : SpD} (F_Line_take_rest : MtD P w K mg base 7 a.c_Line "take_rest" 2 sp_Line_take_rest []) {sp_Line_take_word : SpD} (F_Line_take_word : MtD P w K mg base 6 a.c_Line "take_word" 2 sp_Line_take_word []) {sp_inner_image_in : SpD} (F_inner_image_in : FnD P w K mg base 7 "inner_image_in" 1 sp_inner_image_in []) {sp_leaf_image_in : SpD} (F_leaf_image_in : FnD P w K mg base 8 "leaf_image_in" 1 sp_leaf_image_in []) {f : Addr} (cdv : Value) (A : Around) (outer : List Env) (s : Shared) (H : Hp) (E : XK) (hr : RoomG 8 (A.deeper (envOfC "image_in" (defScope s_image_in) s.heap.objs.size f cdv))) (tk : Takes (cxD P w K mg base ["line", "pages", "commit", "following"] "image_in" (defScope s_image_in) f cdv A outer s H E) (WD E)) :
    DSs (cxD P w K mg base ["line", "pages", "commit", "following"] "image_in" (defScope s_image_in) f cdv A outer s H E) (WD E) (defBody s_image_in) (t_image_in a sp_Line_finished sp_Line_take_link sp_Line_take_rest sp_Line_take_word sp_inner_image_in sp_leaf_image_in) := by
  have SC := sc_image_in
  exact (dss_cons (ds_match (de_methD (de_var 0) F_Line_take_word (hr.mono (by decide)) (tkc tk) (da_cons (de_wo G.wo (hr.mono (by decide)) (tkc tk) G.h_word_of G.kp_word_of (da_cons de_str (da_cons de_str (da_cons de_str (da_cons de_str (da_cons de_str (da_cons de_str da_nil))))))) da_nil)) (dm_str (dss_one (ds_ret (de_methD (de_var 0) F_Line_finished (hr.mono (by decide)) (tkc tk) (da_cons (de_tup (da_cons de_str (da_cons (de_methD (de_var 0) F_Line_take_word (hr.mono (by decide)) (tkc tk) (da_cons (de_gref G.h_number_in) da_nil)) (da_cons (de_methD (de_var 0) F_Line_take_word (hr.mono (by decide)) (tkc tk) (da_cons (de_gref G.h_number_in) da_nil)) da_nil)))) da_nil)))) (dm_str (dss_cons (ds_par (i := 1) (j := 2) rfl SC.nd (da_cons (de_methD (de_var 0) F_Line_take_word (hr.mono (by decide)) (tkc tk) (da_cons (de_gref G.h_number_in) da_nil)) (da_cons (de_methD (de_var 0) F_Line_take_word (hr.mono (by decide)) (tkc tk) (da_cons (de_gref G.h_number_in) da_nil)) da_nil)) (by decide)) (dss_one (ds_ret (de_tup (da_cons de_str (da_cons (de_var 1) (da_cons (de_methD (de_var 0) F_Line_take_rest (hr.mono (by decide)) (tkc tk) (da_cons (de_gref G.h_number_in) da_nil)) (da_cons (de_var 2) da_nil)))))))) (dm_str (dss_one (ds_ret (de_callD F_leaf_image_in (hr.mono (by decide)) (tkc tk) (da_cons (de_var 0) da_nil)))) (dm_str (dss_one (ds_ret (de_callD F_inner_image_in (hr.mono (by decide)) (tkc tk) (da_cons (de_var 0) da_nil)))) (dm_str (dss_cons (ds_set (i := 3) SC.nd (de_meth0D (de_var 0) F_Line_take_link (hr.mono (by decide)) (tkc tk))) (dss_one (ds_ret (de_methD (de_var 0) F_Line_finished (hr.mono (by decide)) (tkc tk) (da_cons (de_tup (da_cons de_str (da_cons (de_methD (de_var 0) F_Line_take_word (hr.mono (by decide)) (tkc tk) (da_cons (de_gref G.h_string_in) da_nil)) (da_cons (de_var 3) da_nil)))) da_nil))))) dm_nil)))))) (dss_one (ds_ret (de_methD (de_var 0) F_Line_finished (hr.mono (by decide)) (tkc tk) (da_cons (de_tup (da_cons de_str da_nil)) da_nil)))))
theorem fn_image_in {P : Program} {w : World} {K : PySem.W.Frag} {mg : Str → Option Value} {base : Heap} {a : Ad} (G : Gx P w K mg base a) {sp_Line_finished : SpD} (F_Line_finished : MtD P w K mg base 3 a.c_Line "finished" 2 sp_Line_finished []) {sp_Line_take_link : SpD} (F_Line_take_link : MtD P w K mg base 7 a.c_Line "take_link" 1 sp_Line_take_link []) {sp_Line_take_rest : SpD} (F_Line_take_rest : MtD P w K mg base 7 a.c_Line "take_rest" 2 sp_Line_take_rest []) {sp_Line_take_word : SpD} (F_Line_take_word : MtD P w K mg base 6 a.c_Line "take_word" 2 sp_Line_take_word []) {sp_inner_image_in : SpD} (F_inner_image_in : FnD P w K mg base 7 "inner_image_in" 1 sp_inner_image_in []) {sp_leaf_image_in : SpD} (F_leaf_image_in : FnD P w K mg base 8 "leaf_image_in" 1 sp_leaf_image_in []) {f : Addr} {fd : FuncData} {dvs : List V} {kws : List (Str × V)} (FD : FunD K "image_in" "image_in" (defArgs s_image_in) (defBody s_image_in) (defScope s_image_in) dvs kws f fd) {sp : SpD}
    (h : ∀ ds w' E Q, ds.length = 1 → sp ds w' E Q → t_image_in a sp_Line_finished sp_Line_take_link sp_Line_take_rest sp_Line_take_word sp_inner_image_in sp_leaf_image_in (fun x _ w' => E x w') { nx := fun _ w' => Q .non w', rt := Q } (startD ["line", "pages", "commit", "following"] ds) w') : FnG P w K mg base 9 f fd ["line"] (toSp K 1 sp) :=
  fnG_of FD sc_image_in (t_image_in a sp_Line_finished sp_Line_take_link sp_Line_take_rest sp_Line_take_word sp_inner_image_in sp_leaf_image_in) (fun cdv A outer s H E hr tk => d_image_in G F_Line_finished F_Line_take_link F_Line_take_rest F_Line_take_word F_inner_image_in F_leaf_image_in cdv A outer s H E hr tk) h
abbrev s_read_file : Stmt := top 20
def t_read_file (a : Ad) (sp_Line___init__ : SpD) (sp_image_in : SpD) (sp_lines_in : SpD) : TSD := dRet (dCB tupCD (dCons (dLcX (iEnumD (dCons (dCall 1 sp_lines_in [] (dCons (dVar 0) (dNil))) (dNil))) (gdTup 2 (gdCons (gdName 1) (gdCons (gdName 2) (gdNil)))) (dYes) (dCall 1 sp_image_in [] (dCons (dMake a.c_Line 4 sp_Line___init__ [.int 0] (dCons (dVar 2) (dCons (dVar 1) (dNil)))) (dNil))) [1, 2]) (dNil)))
theorem sc_read_file : FnScope ["text", "page", "words"] ["text"] (defScope s_read_file) := ⟨rfl, rfl, rfl, by decide +kernel, rfl, by decide +kernel, by decide +kernel⟩
theorem d_read_file {P : Program} {w : World} {K : PySem.W.Frag} {mg : Str → Option Value} {base : Heap} {a : Ad} (G : Gx P w K mg base a) {sp_Line___init__ : SpD} (F_Line___init__ : MkD P w K mg base 2 a.c_Line "Line" 4 sp_Line___init__ [.int 0]) {sp_image_in : SpD} (F_image_in : FnD P w K mg base 9 "image_in" 1 sp_image_in []) {sp_lines_in : SpD} (F_lines_in : FnD P w K mg base 2 "lines_in" 1 sp_lines_in []) {f : Addr} (cdv : Value) (A : Around) (outer : List Env) (s : Shared) (H : Hp) (E : XK) (hr : RoomG 9 (A.deeper (envOfC "read_file" (defScope s_read_file) s.heap.objs.size f cdv))) (tk : Takes (cxD P w K mg base ["text", "page", "words"] "read_file" (defScope s_read_file) f cdv A outer s H E) (WD E)) :
    DSs (cxD P w K mg base ["text", "page", "words"] "read_file" (defScope s_read_file) f cdv A outer s H E) (WD E) (defBody s_read_file) (t_read_file a sp_Line___init__ sp_image_in sp_lines_in) := by
  have SC := sc_read_file
  exact (dss_one (ds_ret (de_tupC G.n_tuple (da_cons (de_lcX (own := [("page", 1), ("words", 2)]) rfl SC.nd rfl rfl tk (di_enum G.n_enumerate (da_cons (de_callD F_lines_in (hr.mono (by decide)) (tkc tk) (da_cons (de_var 0) da_nil)) da_nil)) (blkOk_by (by rfl)) (by decide) (fun _ _ _ _ _ => (dg_tup rfl (dgs_cons (dg_name SC.nd) (dgs_cons (dg_name SC.nd) dgs_nil)))) (fun _ _ _ _ _ => dts_nil) (fun _ _ _ _ _ WB tkB => (de_callD F_image_in (hr.mono (by decide)) tkB (da_cons (de_makeD F_Line___init__ (hr.mono (by decide)) tkB (da_cons (de_var 2) (da_cons (de_var 1) da_nil))) da_nil)))) da_nil))))
theorem fn_read_file {P : Program} {w : World} {K : PySem.W.Frag} {mg : Str → Option Value} {base : Heap} {a : Ad} (G : Gx P w K mg base a) {sp_Line___init__ : SpD} (F_Line___init__ : MkD P w K mg base 2 a.c_Line "Line" 4 sp_Line___init__ [.int 0]) {sp_image_in : SpD} (F_image_in : FnD P w K mg base 9 "image_in" 1 sp_image_in []) {sp_lines_in : SpD} (F_lines_in : FnD P w K mg base 2 "lines_in" 1 sp_lines_in []) {f : Addr} {fd : FuncData} {dvs : List V} {kws : List (Str × V)} (FD : FunD K "read_file" "read_file" (defArgs s_read_file) (defBody s_read_file) (defScope s_read_file) dvs kws f fd) {sp : SpD}
    (h : ∀ ds w' E Q, ds.length = 1 → sp ds w' E Q → t_read_file a sp_Line___init__ sp_image_in sp_lines_in (fun x _ w' => E x w') { nx := fun _ w' => Q .non w', rt := Q } (startD ["text", "page", "words"] ds) w') : FnG P w K mg base 10 f fd ["text"] (toSp K 1 sp) :=
  fnG_of FD sc_read_file (t_read_file a sp_Line___init__ sp_image_in sp_lines_in) (fun cdv A outer s H E hr tk => d_read_file G F_Line___init__ F_image_in F_lines_in cdv A outer s H E hr tk) h
abbrev s_show_numbers : Stmt := top 23
def t_show_numbers (a : Ad) : TSD := dRet (dM1 joinD (dC (.str " ")) (dLc (iSeqT (dVar 0)) (gdName 1) (dYes) (dCB strCD (dCons (dVar 1) (dNil))) [1]))
theorem sc_show_numbers : FnScope ["numbers", "number"] ["numbers"] (defScope s_show_numbers) := ⟨rfl, rfl, rfl, by decide +kernel, rfl, by decide +kernel, by decide +kernel⟩
theorem d_show_numbers {P : Program} {w : World} {K : PySem.W.Frag} {mg : Str → Option Value} {base : Heap} {a : Ad} (G : Gx P w K mg base a) {f : Addr} (cdv : Value) (A : Around) (outer : List Env) (s : Shared) (H : Hp) (E : XK) (hr : RoomG 1 (A.deeper (envOfC "show_numbers" (defScope s_show_numbers) s.heap.objs.size f cdv))) (tk : Takes (cxD P w K mg base ["numbers", "number"] "show_numbers" (defScope s_show_numbers) f cdv A outer s H E) (WD E)) :
    DSs (cxD P w K mg base ["numbers", "number"] "show_numbers" (defScope s_show_numbers) f cdv A outer s H E) (WD E) (defBody s_show_numbers) (t_show_numbers a) := by
  have SC := sc_show_numbers
  exact (dss_one (ds_ret (de_join de_str (de_lc (own := [("number", 1)]) rfl SC.nd (di_tup (de_var 0)) (blkOk_by (by rfl)) (by decide) (fun _ _ _ _ _ => (dg_name SC.nd)) (fun _ _ _ _ _ => dts_nil) (fun _ _ _ _ _ => (de_strC G.n_str (da_cons (de_var 1) da_nil)))))))
theorem fn_show_numbers {P : Program} {w : World} {K : PySem.W.Frag} {mg : Str → Option Value} {base : Heap} {a : Ad} (G : Gx P w K mg base a) {f : Addr} {fd : FuncData} {dvs : List V} {kws : List (Str × V)} (FD : FunD K "show_numbers" "show_numbers" (defArgs s_show_numbers) (defBody s_show_numbers) (defScope s_show_numbers) dvs kws f fd) {sp : SpD}
    (h : ∀ ds w' E Q, ds.length = 1 → sp ds w' E Q → t_show_numbers a (fun x _ w' => E x w') { nx := fun _ w' => Q .non w', rt := Q } (startD ["numbers", "number"] ds) w') : FnG P w K mg base 2 f fd ["numbers"] (toSp K 1 sp) :=
  fnG_of FD sc_show_numbers (t_show_numbers a) (fun cdv A outer s H E hr tk => d_show_numbers G cdv A outer s H E hr tk) h
abbrev s_show_string : Stmt := top 24
def t_show_string (a : Ad) : TSD := dRet (dBin addD (dC (.str "=")) (dRepl (dRepl (dVar 0) "~" "~~") " " "~_"))
theorem sc_show_string : FnScope ["value"] ["value"] (defScope s_show_string) := ⟨rfl, rfl, rfl, by decide +kernel, rfl, by decide +kernel, by decide +kernel⟩
theorem d_show_string {P : Program} {w : World} {K : PySem.W.Frag} {mg : Str → Option Value} {base : Heap} {a : Ad} (G : Gx P w K mg base a) {f : Addr} (cdv : Value) (A : Around) (outer : List Env) (s : Shared) (H : Hp) (E : XK) (hr : RoomG 1 (A.deeper (envOfC "show_string" (defScope s_show_string) s.heap.objs.size f cdv))) (tk : Takes (cxD P w K mg base ["value"] "show_string" (defScope s_show_string) f cdv A outer s H E) (WD E)) :
    DSs (cxD P w K mg base ["value"] "show_string" (defScope s_show_string) f cdv A outer s H E) (WD E) (defBody s_show_string) (t_show_string a) := by
  have SC := sc_show_string
  exact (dss_one (ds_ret (de_addT (det_replT (det_repl (de_var 0))))))
theorem fn_show_string {P : Program} {w : World} {K : PySem.W.Frag} {mg : Str → Option Value} {base : Heap} {a : Ad} (G : Gx P w K mg base a) {f : Addr} {fd : FuncData} {dvs : List V} {kws : List (Str × V)} (FD : FunD K "show_string" "show_string" (defArgs s_show_string) (defBody s_show_string) (defScope s_show_string) dvs kws f fd) {sp : SpD}
    (h : ∀ ds w' E Q, ds.length = 1 → sp ds w' E Q → t_show_string a (fun x _ w' => E x w') { nx := fun _ w' => Q .non w', rt := Q } (startD ["value"] ds) w') : FnG P w K mg base 2 f fd ["value"] (toSp K 1 sp) :=
  fnG_of FD sc_show_string (t_show_string a) (fun cdv A outer s H E hr tk => d_show_string G cdv A outer s H E hr tk) h
abbrev s_show_held : Stmt := top 25
def t_show_held (a : Ad) (sp_show_string : SpD) : TSD := dSeq (dIfS (dTru (dCB isiD (dCons (dVar 0) (dCons (dC (.ty "str")) (dNil))))) (dRet (dCall 1 sp_show_string [] (dCons (dVar 0) (dNil)))) (dNext)) (dRet (dJoined [dC (.str "@"), dFmt (dBin ixD (dVar 0) (dC (.int 1))), dC (.str ":"), dFmt (dBin ixD (dVar 0) (dC (.int 2)))]))
theorem sc_show_held : FnScope ["held"] ["held"] (defScope s_show_held) := ⟨rfl, rfl, rfl, by decide +kernel, rfl, by decide +kernel, by decide +kernel⟩
theorem d_show_held {P : Program} {w : World} {K : PySem.W.Frag} {mg : Str → Option Value} {base : Heap} {a : Ad} (G : Gx P w K mg base a) {sp_show_string : SpD} (F_show_string : FnD P w K mg base 2 "show_string" 1 sp_show_string []) {f : Addr} (cdv : Value) (A : Around) (outer : List Env) (s : Shared) (H : Hp) (E : XK) (hr : RoomG 2 (A.deeper (envOfC "show_held" (defScope s_show_held) s.heap.objs.size f cdv))) (tk : Takes (cxD P w K mg base ["held"] "show_held" (defScope s_show_held) f cdv A outer s H E) (WD E)) :
    DSs (cxD P w K mg base ["held"] "show_held" (defScope s_show_held) f cdv A outer s H E) (WD E) (defBody s_show_held) (t_show_held a sp_show_string) := by
  have SC := sc_show_held
  exact (dss_cons (ds_if (dt_tru (de_isi G.n_isinstance (da_cons (de_var 0) (da_cons (de_bty G.n_str (by kernel_rfl)) da_nil)))) (dss_one (ds_ret (de_callD F_show_string (hr.mono (by decide)) (tkc tk) (da_cons (de_var 0) da_nil)))) dss_nil) (dss_one (ds_ret (de_joined (DJ.cons de_str (DJ.cons (de_fmt (de_ix (de_var 0) de_int)) (DJ.cons de_str (DJ.cons (de_fmt (de_ix (de_var 0) de_int)) DJ.nil))))))))
theorem fn_show_held {P : Program} {w : World} {K : PySem.W.Frag} {mg : Str → Option Value} {base : Heap} {a : Ad} (G : Gx P w K mg base a) {sp_show_string : SpD} (F_show_string : FnD P w K mg base 2 "show_string" 1 sp_show_string []) {f : Addr} {fd : FuncData} {dvs : List V} {kws : List (Str × V)} (FD : FunD K "show_held" "show_held" (defArgs s_show_held) (defBody s_show_held) (defScope s_show_held) dvs kws f fd) {sp : SpD}
    (h : ∀ ds w' E Q, ds.length = 1 → sp ds w' E Q → t_show_held a sp_show_string (fun x _ w' => E x w') { nx := fun _ w' => Q .non w', rt := Q } (startD ["held"] ds) w') : FnG P w K mg base 3 f fd ["held"] (toSp K 1 sp) :=
  fnG_of FD sc_show_held (t_show_held a sp_show_string) (fun cdv A outer s H E hr tk => d_show_held G F_show_string cdv A outer s H E hr tk) h
abbrev s_show_link : Stmt := top 26
def t_show_link (a : Ad) : TSD := dRet (dIf (isNT (dVar 0)) (dC (.str "-")) (dCB strCD (dCons (dVar 0) (dNil))))
theorem sc_show_link : FnScope ["number"] ["number"] (defScope s_show_link) := ⟨rfl, rfl, rfl, by decide +kernel, rfl, by decide +kernel, by decide +kernel⟩
theorem d_show_link {P : Program} {w : World} {K : PySem.W.Frag} {mg : Str → Option Value} {base : Heap} {a : Ad} (G : Gx P w K mg base a) {f : Addr} (cdv : Value) (A : Around) (outer : List Env) (s : Shared) (H : Hp) (E : XK) (hr : RoomG 1 (A.deeper (envOfC "show_link" (defScope s_show_link) s.heap.objs.size f cdv))) (tk : Takes (cxD P w K mg base ["number"] "show_link" (defScope s_show_link) f cdv A outer s H E) (WD E)) :
    DSs (cxD P w K mg base ["number"] "show_link" (defScope s_show_link) f cdv A outer s H E) (WD E) (defBody s_show_link) (t_show_link a) := by
  have SC := sc_show_link
  exact (dss_one (ds_ret (de_if (dt_isN (de_var 0)) (de_gstr G.v_NOTHING_texts) (de_strC G.n_str (da_cons (de_var 0) da_nil)))))
theorem fn_show_link {P : Program} {w : World} {K : PySem.W.Frag} {mg : Str → Option Value} {base : Heap} {a : Ad} (G : Gx P w K mg base a) {f : Addr} {fd : FuncData} {dvs : List V} {kws : List (Str × V)} (FD : FunD K "show_link" "show_link" (defArgs s_show_link) (defBody s_show_link) (defScope s_show_link) dvs kws f fd) {sp : SpD}
    (h : ∀ ds w' E Q, ds.length = 1 → sp ds w' E Q → t_show_link a (fun x _ w' => E x w') { nx := fun _ w' => Q .non w', rt := Q } (startD ["number"] ds) w') : FnG P w K mg base 2 f fd ["number"] (toSp K 1 sp) :=
  fnG_of FD sc_show_link (t_show_link a) (fun cdv A outer s H E hr tk => d_show_link G cdv A outer s H E hr tk) h
abbrev s_show_leaf : Stmt := top 27
def t_show_leaf (a : Ad) (sp_show_held : SpD) (sp_show_link : SpD) : TSD := dSeq (dSet 1 (dLc2 (iSeqT (dBin ixD (dVar 0) (dC (.int 1)))) (gdTup 2 (gdCons (gdName 2) (gdCons (gdName 3) (gdNil)))) (dYes) (iSeqT (dTup (dCons (dCB strCD (dCons (dVar 2) (dNil))) (dCons (dCall 1 sp_show_held [] (dCons (dVar 3) (dNil))) (dNil))))) (gdName 4) (dYes) (dVar 4) [2, 3, 4] [4])) (dRet (dM1 joinD (dC (.str " ")) (dLst (dCons (dC (.str "leaf")) (dCons (dCall 1 sp_show_link [] (dCons (dBin ixD (dVar 0) (dC (.int 2))) (dNil))) (dStar (dVar 1) (dNil)))))))
theorem sc_show_leaf : FnScope ["image", "words", "key", "held", "word"] ["image"] (defScope s_show_leaf) := ⟨rfl, rfl, rfl, by decide +kernel, rfl, by decide +kernel, by decide +kernel⟩
theorem d_show_leaf {P : Program} {w : World} {K : PySem.W.Frag} {mg : Str → Option Value} {base : Heap} {a : Ad} (G : Gx P w K mg base a) {sp_show_held : SpD} (F_show_held : FnD P w K mg base 3 "show_held" 1 sp_show_held []) {sp_show_link : SpD} (F_show_link : FnD P w K mg base 2 "show_link" 1 sp_show_link []) {f : Addr} (cdv : Value) (A : Around) (outer : List Env) (s : Shared) (H : Hp) (E : XK) (hr : RoomG 3 (A.deeper (envOfC "show_leaf" (defScope s_show_leaf) s.heap.objs.size f cdv))) (tk : Takes (cxD P w K mg base ["image", "words", "key", "held", "word"] "show_leaf" (defScope s_show_leaf) f cdv A outer s H E) (WD E)) :
    DSs (cxD P w K mg base ["image", "words", "key", "held", "word"] "show_leaf" (defScope s_show_leaf) f cdv A outer s H E) (WD E) (defBody s_show_leaf) (t_show_leaf a sp_show_held sp_show_link) := by
  have SC := sc_show_leaf
  exact (dss_cons (ds_setLc2 (own := [("key", 2), ("held", 3), ("word", 4)]) (vs1 := [4]) rfl SC.nd (di_tup (de_ix (de_var 0) de_int)) (blkOk_by (by rfl)) (by decide) (by decide) (by decide) (fun _ _ _ _ _ => (dg_tup rfl (dgs_cons (dg_name SC.nd) (dgs_cons (dg_name SC.nd) dgs_nil)))) (fun _ _ _ _ _ => dts_nil) (fun _ _ _ _ _ => (di_tup (de_tup (da_cons (de_strC G.n_str (da_cons (de_var 2) da_nil)) (da_cons (de_callD F_show_held (hr.mono (by decide)) tkc0 (da_cons (de_var 3) da_nil)) da_nil))))) (fun _ _ _ _ _ => (dg_name SC.nd)) (fun _ _ _ _ _ => dts_nil) (fun _ _ _ _ _ => (de_var 4))) (dss_one (ds_ret (de_join de_str (de_lst (da_cons de_str (da_cons (de_callD F_show_link (hr.mono (by decide)) (tkc tk) (da_cons (de_ix (de_var 0) de_int) da_nil)) (da_star (de_var 1) da_nil))))))))
theorem fn_show_leaf {P : Program} {w : World} {K : PySem.W.Frag} {mg : Str → Option Value} {base : Heap} {a : Ad} (G : Gx P w K mg base a) {sp_show_held : SpD} (F_show_held : FnD P w K mg base 3 "show_held" 1 sp_show_held []) {sp_show_link : SpD} (F_show_link : FnD P w K mg base 2 "show_link" 1 sp_show_link []) {f : Addr} {fd : FuncData} {dvs : List V} {kws : List (Str × V)} (FD : FunD K "show_leaf" "show_leaf" (defArgs s_show_leaf) (defBody s_show_leaf) (defScope s_show_leaf) dvs kws f fd) {sp : SpD}
    (h : ∀ ds w' E Q, ds.length = 1 → sp ds w' E Q → t_show_leaf a sp_show_held sp_show_link (fun x _ w' => E x w') { nx := fun _ w' => Q .non w', rt := Q } (startD ["image", "words", "key", "held", "word"] ds) w') : FnG P w K mg base 4 f fd ["image"] (toSp K 1 sp) :=
  fnG_of FD sc_show_leaf (t_show_leaf a sp_show_held sp_show_link) (fun cdv A outer s H E hr tk => d_show_leaf G F_show_held F_show_link cdv A outer s H E hr tk) h
abbrev s_show_inner : Stmt := top 28
def t_show_inner (a : Ad) (sp_show_numbers : SpD) : TSD := dSeq (dAsg (dSl (dVar 0) (dPart (dC (.int 1))) dNoPart) (gdTup 2 (gdCons (gdName 1) (gdCons (gdName 2) (gdNil))))) (dSeq (dSet 3 (dLc2 (iZipSD (dCons (dVar 1) (dCons (dSl (dVar 2) (dPart (dC (.int 1))) dNoPart) (dNil)))) (gdName 4) (dYes) (iSeqT (dVar 4)) (gdName 5) (dYes) (dVar 5) [4, 5] [5])) (dRet (dJoined [dC (.str "inner "), dFmt (dCall 1 sp_show_numbers [] (dCons (dTup (dCons (dBin ixD (dVar 2) (dC (.int 0))) (dStar (dVar 3) (dNil)))) (dNil)))])))
theorem sc_show_inner : FnScope ["image", "separators", "lower", "words", "pair", "word"] ["image"] (defScope s_show_inner) := ⟨rfl, rfl, rfl, by decide +kernel, rfl, by decide +kernel, by decide +kernel⟩
theorem d_show_inner {P : Program} {w : World} {K : PySem.W.Frag} {mg : Str → Option Value} {base : Heap} {a : Ad} (G : Gx P w K mg base a) {sp_show_numbers : SpD} (F_show_numbers : FnD P w K mg base 2 "show_numbers" 1 sp_show_numbers []) {f : Addr} (cdv : Value) (A : Around) (outer : List Env) (s : Shared) (H : Hp) (E : XK) (hr : RoomG 2 (A.deeper (envOfC "show_inner" (defScope s_show_inner) s.heap.objs.size f cdv))) (tk : Takes (cxD P w K mg base ["image", "separators", "lower", "words", "pair", "word"] "show_inner" (defScope s_show_inner) f cdv A outer s H E) (WD E)) :
    DSs (cxD P w K mg base ["image", "separators", "lower", "words", "pair", "word"] "show_inner" (defScope s_show_inner) f cdv A outer s H E) (WD E) (defBody s_show_inner) (t_show_inner a sp_show_numbers) := by
  have SC := sc_show_inner
  exact (dss_cons (ds_asg (de_sl (de_var 0) (do_some de_int) do_none) (dg_tup rfl (dgs_cons (dg_name SC.nd) (dgs_cons (dg_name SC.nd) dgs_nil)))) (dss_cons (ds_setLc2 (own := [("pair", 4), ("word", 5)]) (vs1 := [5]) rfl SC.nd (di_zipN G.n_zip (da_cons (de_var 1) (da_cons (de_sl (de_var 2) (do_some de_int) do_none) da_nil))) (blkOk_by (by rfl)) (by decide) (by decide) (by decide) (fun _ _ _ _ _ => (dg_name SC.nd)) (fun _ _ _ _ _ => dts_nil) (fun _ _ _ _ _ => (di_tup (de_var 4))) (fun _ _ _ _ _ => (dg_name SC.nd)) (fun _ _ _ _ _ => dts_nil) (fun _ _ _ _ _ => (de_var 5))) (dss_one (ds_ret (de_joined (DJ.cons de_str (DJ.cons (de_fmt (de_callD F_show_numbers (hr.mono (by decide)) (tkc tk) (da_cons (de_tup (da_cons (de_ix (de_var 2) de_int) (da_star (de_var 3) da_nil))) da_nil))) DJ.nil)))))))
theorem fn_show_inner {P : Program} {w : World} {K : PySem.W.Frag} {mg : Str → Option Value} {base : Heap} {a : Ad} (G : Gx P w K mg base a) {sp_show_numbers : SpD} (F_show_numbers : FnD P w K mg base 2 "show_numbers" 1 sp_show_numbers []) {f : Addr} {fd : FuncData} {dvs : List V} {kws : List (Str × V)} (FD : FunD K "show_inner" "show_inner" (defArgs s_show_inner) (defBody s_show_inner) (defScope s_show_inner) dvs kws f fd) {sp : SpD}
    (h : ∀ ds w' E Q, ds.length = 1 → sp ds w' E Q → t_show_inner a sp_show_numbers (fun x _ w' => E x w') { nx := fun _ w' => Q .non w', rt := Q } (startD ["image", "separators", "lower", "words", "pair", "word"] ds) w') : FnG P w K mg base 3 f fd ["image"] (toSp K 1 sp) :=
  fnG_of FD sc_show_inner (t_show_inner a sp_show_numbers) (fun cdv A outer s H E hr tk => d_show_inner G F_show_numbers cdv A outer s H E hr tk) h
abbrev s_show_image : Stmt := top 29
def t_show_image (a : Ad) (sp_show_inner : SpD) (sp_show_leaf : SpD) (sp_show_link : SpD) (sp_show_numbers : SpD) (sp_show_string : SpD) : TSD := dSeq (dIfS (dTest (dBin eqRD (dBin ixD (dVar 0) (dC (.int 0))) (dC (.str "head")))) (dRet (dJoined [dC (.str "head "), dFmt (dBin ixD (dVar 0) (dC (.int 1))), dC (.str " "), dFmt (dBin ixD (dVar 0) (dC (.int 2)))])) (dNext)) (dSeq (dIfS (dTest (dBin eqRD (dBin ixD (dVar 0) (dC (.int 0))) (dC (.str "space")))) (dRet (dJoined [dC (.str "space "), dFmt (dCall 1 sp_show_numbers [] (dCons (dTup (dCons (dBin ixD (dVar 0) (dC (.int 1))) (dCons (dBin ixD (dVar 0) (dC (.int 3))) (dStar (dBin ixD (dVar 0) (dC (.int 2))) (dNil))))) (dNil)))])) (dNext)) (dSeq (dIfS (dTest (dBin eqRD (dBin ixD (dVar 0) (dC (.int 0))) (dC (.str "leaf")))) (dRet (dCall 1 sp_show_leaf [] (dCons (dVar 0) (dNil)))) (dNext)) (dSeq (dIfS (dTest (dBin eqRD (dBin ixD (dVar 0) (dC (.int 0))) (dC (.str "inner")))) (dRet (dCall 1 sp_show_inner [] (dCons (dVar 0) (dNil)))) (dNext)) (dRet (dIf (dTest (dBin eqRD (dBin ixD (dVar 0) (dC (.int 0))) (dC (.str "piece")))) (dJoined [dC (.str "piece "), dFmt (dCall 1 sp_show_link [] (dCons (dBin ixD (dVar 0) (dC (.int 2))) (dNil))), dC (.str " "), dFmt (dCall 1 sp_show_string [] (dCons (dBin ixD (dVar 0) (dC (.int 1))) (dNil)))]) (dC (.str "free")))))))
theorem sc_show_image : FnScope ["image"] ["image"] (defScope s_show_image) := ⟨rfl, rfl, rfl, by decide +kernel, rfl, by decide +kernel, by decide +kernel⟩
theorem d_show_image {P : Program} {w : World} {K : PySem.W.Frag} {mg : Str → Option Value} {base : Heap} {a : Ad} (G : Gx P w K mg base a) {sp_show_inner : SpD} (F_show_inner : FnD P w K mg base 3 "show_inner" 1 sp_show_inner []) {sp_show_leaf : SpD} (F_show_leaf : FnD P w K mg base 4 "show_leaf" 1 sp_show_leaf []) {sp_show_link : SpD} (F_show_link : FnD P w K mg base 2 "show_link" 1 sp_show_link []) {sp_show_numbers : SpD} (F_show_numbers : FnD P w K mg base 2 "show_numbers" 1 sp_show_numbers []) {sp_show_string : SpD} (F_show_string : FnD P w K mg base 2 "show_string" 1 sp_show_string []) {f : Addr} (cdv : Value) (A : Around) (outer : List Env) (s : Shared) (H : Hp) (E : XK) (hr : RoomG 4 (A.deeper (envOfC "show_image" (defScope s_show_image) s.heap.objs.size f cdv))) (tk : Takes (cxD P w K mg base ["image"] "show_image" (defScope s_show_image) f cdv A outer s H E) (WD E)) :
    DSs (cxD P w K mg base ["image"] "show_image" (defScope s_show_image) f cdv A outer s H E) (WD E) (defBody s_show_image) (t_show_image a sp_show_inner sp_show_leaf sp_show_link sp_show_numbers sp_show_string) := by
  have SC := sc_show_image
  exact (dss_cons (ds_if (dt_eq hr (de_ix (de_var 0) de_int) de_str) (dss_one (ds_ret (de_joined (DJ.cons de_str (DJ.cons (de_fmt (de_ix (de_var 0) de_int)) (DJ.cons de_str (DJ.cons (de_fmt (de_ix (de_var 0) de_int)) DJ.nil))))))) dss_nil) (dss_cons (ds_if (dt_eq hr (de_ix (de_var 0) de_int) de_str) (dss_one (ds_ret (de_joined (DJ.cons de_str (DJ.cons (de_fmt (de_callD F_show_numbers (hr.mono (by decide)) (tkc tk) (da_cons (de_tup (da_cons (de_ix (de_var 0) de_int) (da_cons (de_ix (de_var 0) de_int) (da_star (de_ix (de_var 0) de_int) da_nil)))) da_nil))) DJ.nil))))) dss_nil) (dss_cons (ds_if (dt_eq hr (de_ix (de_var 0) de_int) de_str) (dss_one (ds_ret (de_callD F_show_leaf (hr.mono (by decide)) (tkc tk) (da_cons (de_var 0) da_nil)))) dss_nil) (dss_cons (ds_if (dt_eq hr (de_ix (de_var 0) de_int) de_str) (dss_one (ds_ret (de_callD F_show_inner (hr.mono (by decide)) (tkc tk) (da_cons (de_var 0) da_nil)))) dss_nil) (dss_one (ds_ret (de_if (dt_eq hr (de_ix (de_var 0) de_int) de_str) (de_joined (DJ.cons de_str (DJ.cons (de_fmt (de_callD F_show_link (hr.mono (by decide)) (tkc tk) (da_cons (de_ix (de_var 0) de_int) da_nil))) (DJ.cons de_str (DJ.cons (de_fmt (de_callD F_show_string (hr.mono (by decide)) (tkc tk) (da_cons (de_ix (de_var 0) de_int) da_nil))) DJ.nil))))) de_str)))))))
theorem fn_show_image {P : Program} {w : World} {K : PySem.W.Frag} {mg : Str → Option Value} {base : Heap} {a : Ad} (G : Gx P w K mg base a) {sp_show_inner : SpD} (F_show_inner : FnD P w K mg base 3 "show_inner" 1 sp_show_inner []) {sp_show_leaf : SpD} (F_show_leaf : FnD P w K mg base 4 "show_leaf" 1 sp_show_leaf []) {sp_show_link : SpD} (F_show_link : FnD P w K mg base 2 "show_link" 1 sp_show_link []) {sp_show_numbers : SpD} (F_show_numbers : FnD P w K mg base 2 "show_numbers" 1 sp_show_numbers []) {sp_show_string : SpD} (F_show_string : FnD P w K mg base 2 "show_string" 1 sp_show_string []) {f : Addr} {fd : FuncData} {dvs : List V} {kws : List (Str × V)} (FD : FunD K "show_image" "show_image" (defArgs s_show_image) (defBody s_show_image) (defScope s_show_image) dvs kws f fd) {sp : SpD}
    (h : ∀ ds w' E Q, ds.length = 1 → sp ds w' E Q → t_show_image a sp_show_inner sp_show_leaf sp_show_link sp_show_numbers sp_show_string (fun x _ w' => E x w') { nx := fun _ w' => Q .non w', rt := Q } (startD ["image"] ds) w') : FnG P w K mg base 5 f fd ["image"] (toSp K 1 sp) :=
  fnG_of FD sc_show_image (t_show_image a sp_show_inner sp_show_leaf sp_show_link sp_show_numbers sp_show_string) (fun cdv A outer s H E hr tk => d_show_image G F_show_inner F_show_leaf F_show_link F_show_numbers F_show_string cdv A outer s H E hr tk) h
abbrev s_show_file : Stmt := top 30
def t_show_file (a : Ad) (sp_show_image : SpD) : TSD := dRet (dM1 joinD (dC (.str "\n")) (dLc (iSeqT (dVar 0)) (gdName 1) (dYes) (dCall 1 sp_show_image [] (dCons (dVar 1) (dNil))) [1]))
theorem sc_show_file : FnScope ["file", "image"] ["file"] (defScope s_show_file) := ⟨rfl, rfl, rfl, by decide +kernel, rfl, by decide +kernel, by decide +kernel⟩
theorem d_show_file {P : Program} {w : World} {K : PySem.W.Frag} {mg : Str → Option Value} {base : Heap} {a : Ad} (G : Gx P w K mg base a) {sp_show_image : SpD} (F_show_image : FnD P w K mg base 5 "show_image" 1 sp_show_image []) {f : Addr} (cdv : Value) (A : Around) (outer : List Env) (s : Shared) (H : Hp) (E : XK) (hr : RoomG 5 (A.deeper (envOfC "show_file" (defScope s_show_file) s.heap.objs.size f cdv))) (tk : Takes (cxD P w K mg base ["file", "image"] "show_file" (defScope s_show_file) f cdv A outer s H E) (WD E)) :
    DSs (cxD P w K mg base ["file", "image"] "show_file" (defScope s_show_file) f cdv A outer s H E) (WD E) (defBody s_show_file) (t_show_file a sp_show_image) := by
  have SC := sc_show_file
  exact (dss_one (ds_ret (de_join de_str (de_lc (own := [("image", 1)]) rfl SC.nd (di_tup (de_var 0)) (blkOk_by (by rfl)) (by decide) (fun _ _ _ _ _ => (dg_name SC.nd)) (fun _ _ _ _ _ => dts_nil) (fun _ _ _ _ _ => (de_callD F_show_image (hr.mono (by decide)) tkc0 (da_cons (de_var 1) da_nil)))))))
theorem fn_show_file {P : Program} {w : World} {K : PySem.W.Frag} {mg : Str → Option Value} {base : Heap} {a : Ad} (G : Gx P w K mg base a) {sp_show_image : SpD} (F_show_image : FnD P w K mg base 5 "show_image" 1 sp_show_image []) {f : Addr} {fd : FuncData} {dvs : List V} {kws : List (Str × V)} (FD : FunD K "show_file" "show_file" (defArgs s_show_file) (defBody s_show_file) (defScope s_show_file) dvs kws f fd) {sp : SpD}
    (h : ∀ ds w' E Q, ds.length = 1 → sp ds w' E Q → t_show_file a sp_show_image (fun x _ w' => E x w') { nx := fun _ w' => Q .non w', rt := Q } (startD ["file", "image"] ds) w') : FnG P w K mg base 6 f fd ["file"] (toSp K 1 sp) :=
  fnG_of FD sc_show_file (t_show_file a sp_show_image) (fun cdv A outer s H E hr tk => d_show_file G F_show_image cdv A outer s H E hr tk) h
abbrev s__law_source : Stmt := top 32
def t__law_source (a : Ad) : TSD := dRet (dDisp (dpCons (dC (.str "cells")) (dCB listCD (dCons (dSl (dVar 0) dNoPart (dPart (dC (.int 63)))) (dNil))) (dpCons (dC (.str "turn")) (dC (.int 0)) (dpCons (dC (.str "left")) (dC (.int 0)) (dpNil)))))
theorem sc__law_source : FnScope ["script"] ["script"] (defScope s__law_source) := ⟨rfl, rfl, rfl, by decide +kernel, rfl, by decide +kernel, by decide +kernel⟩
theorem d__law_source {P : Program} {w : World} {K : PySem.W.Frag} {mg : Str → Option Value} {base : Heap} {a : Ad} (G : Gx P w K mg base a) {f : Addr} (cdv : Value) (A : Around) (outer : List Env) (s : Shared) (H : Hp) (E : XK) (hr : RoomG 1 (A.deeper (envOfC "_law_source" (defScope s__law_source) s.heap.objs.size f cdv))) (tk : Takes (cxD P w K mg base ["script"] "_law_source" (defScope s__law_source) f cdv A outer s H E) (WD E)) :
    DSs (cxD P w K mg base ["script"] "_law_source" (defScope s__law_source) f cdv A outer s H E) (WD E) (defBody s__law_source) (t__law_source a) := by
  have SC := sc__law_source
  exact (dss_one (ds_ret (de_disp (dps_cons de_str (de_listC G.n_list (da_cons (de_sl (de_var 0) do_none (do_some de_int)) da_nil)) (dps_cons de_str de_int (dps_cons de_str de_int dps_nil))))))
theorem fn__law_source {P : Program} {w : World} {K : PySem.W.Frag} {mg : Str → Option Value} {base : Heap} {a : Ad} (G : Gx P w K mg base a) {f : Addr} {fd : FuncData} {dvs : List V} {kws : List (Str × V)} (FD : FunD K "_law_source" "_law_source" (defArgs s__law_source) (defBody s__law_source) (defScope s__law_source) dvs kws f fd) {sp : SpD}
    (h : ∀ ds w' E Q, ds.length = 1 → sp ds w' E Q → t__law_source a (fun x _ w' => E x w') { nx := fun _ w' => Q .non w', rt := Q } (startD ["script"] ds) w') : FnG P w K mg base 2 f fd ["script"] (toSp K 1 sp) :=
  fnG_of FD sc__law_source (t__law_source a) (fun cdv A outer s H E hr tk => d__law_source G cdv A outer s H E hr tk) h
abbrev s__law_draw : Stmt := top 33
def t__law_draw (a : Ad) : TSD := dSeq (dIfS (dTest (dBin gtD (dDGet (dVar 0) (dC (.str "left"))) (dC (.int 0)))) (dSeq (dSet 2 (dBin modD (dDGet (dVar 0) (dC (.str "left"))) (dVar 1))) (dSeq (dDPut (dVar 0) (dC (.str "left")) (dBin fdivD (dDGet (dVar 0) (dC (.str "left"))) (dVar 1))) (dRet (dVar 2)))) (dNext)) (dSeq (dSet 3 (dDGet (dVar 0) (dC (.str "turn")))) (dSeq (dDPut (dVar 0) (dC (.str "turn")) (dBin addD (dVar 3) (dC (.int 1)))) (dSeq (dSet 4 (dBin addD (dBin mulD (dC (.int 7307)) (dVar 3)) (dC (.int 1009)))) (dSeq (dIfS (dTest (dBin neRD (dDGet (dVar 0) (dC (.str "cells"))) (dLst (dNil)))) (dSet 4 (dBin ixD (dDGet (dVar 0) (dC (.str "cells"))) (dBin modD (dVar 3) (dCB lenD (dCons (dDGet (dVar 0) (dC (.str "cells"))) (dNil)))))) (dNext)) (dSeq (dIfS (dAnd (dTest (dBin ltD (dVar 3) (dCB lenD (dCons (dDGet (dVar 0) (dC (.str "cells"))) (dNil))))) (dTest (dBin geD (dCB absD (dCons (dVar 4) (dNil))) (dBin powD (dC (.int 10)) (dC (.int 18)))))) (dSeq (dSet 5 (dBin addD (dBin mulD (dC (.int 2)) (dBin subD (dCB absD (dCons (dVar 4) (dNil))) (dBin powD (dC (.int 10)) (dC (.int 18))))) (dCB intCD (dCons (dBin ltD (dVar 4) (dC (.int 0))) (dNil))))) (dSeq (dDPut (dVar 0) (dC (.str "left")) (dBin fdivD (dVar 5) (dVar 1))) (dRet (dBin modD (dVar 5) (dVar 1))))) (dNext)) (dSeq (dSet 6 (dBin modD (dBin powD (dBin addD (dBin addD (dBin addD (dBin modD (dVar 4) (dC (.int 2147483579))) (dBin mulD (dBin mulD (dC (.int 48779)) (dVar 3)) (dVar 3))) (dBin mulD (dC (.int 97)) (dVar 3))) (dC (.int 41))) (dC (.int 5))) (dC (.int 2147483647)))) (dSeq (dSet 6 (dBin modD (dBin powD (dBin addD (dBin addD (dBin mulD (dVar 6) (dBin addD (dBin mulD (dC (.int 2)) (dVar 3)) (dC (.int 17)))) (dBin mulD (dC (.int 60139)) (dVar 3))) (dC (.int 13))) (dC (.int 3))) (dC (.int 2147483563)))) (dRet (dBin modD (dBin fdivD (dVar 6) (dC (.int 32))) (dVar 1))))))))))
theorem sc__law_draw : FnScope ["source", "many", "digit", "turn", "cell", "great", "mixed"] ["source", "many"] (defScope s__law_draw) := ⟨rfl, rfl, rfl, by decide +kernel, rfl, by decide +kernel, by decide +kernel⟩
theorem d__law_draw {P : Program} {w : World} {K : PySem.W.Frag} {mg : Str → Option Value} {base : Heap} {a : Ad} (G : Gx P w K mg base a) {f : Addr} (cdv : Value) (A : Around) (outer : List Env) (s : Shared) (H : Hp) (E : XK) (hr : RoomG 1 (A.deeper (envOfC "_law_draw" (defScope s__law_draw) s.heap.objs.size f cdv))) (tk : Takes (cxD P w K mg base ["source", "many", "digit", "turn", "cell", "great", "mixed"] "_law_draw" (defScope s__law_draw) f cdv A outer s H E) (WD E)) :
    DSs (cxD P w K mg base ["source", "many", "digit", "turn", "cell", "great", "mixed"] "_law_draw" (defScope s__law_draw) f cdv A outer s H E) (WD E) (defBody s__law_draw) (t__law_draw a) := by
  have SC := sc__law_draw
  exact (dss_cons (ds_if (dt_gt  (de_dget hr (de_var 0) de_str) de_int) (dss_cons (ds_set (i := 2) SC.nd (de_mod (de_dget hr (de_var 0) de_str) (de_var 1))) (dss_cons (ds_dput hr (de_var 0) de_str (de_fdiv (de_dget hr (de_var 0) de_str) (de_var 1))) (dss_one (ds_ret (de_var 2))))) dss_nil) (dss_cons (ds_set (i := 3) SC.nd (de_dget hr (de_var 0) de_str)) (dss_cons (ds_dput hr (de_var 0) de_str (de_add (de_var 3) de_int)) (dss_cons (ds_set (i := 4) SC.nd (de_add (de_mul de_int (de_var 3)) de_int)) (dss_cons (ds_if (dt_ne hr (de_dget hr (de_var 0) de_str) (de_lst da_nil)) (dss_one (ds_set (i := 4) SC.nd (de_ix (de_dget hr (de_var 0) de_str) (de_mod (de_var 3) (de_len G.n_len (da_cons (de_dget hr (de_var 0) de_str) da_nil)))))) dss_nil) (dss_cons (ds_if (DW.dt (dw_and (dt_lt  (de_var 3) (de_len G.n_len (da_cons (de_dget hr (de_var 0) de_str) da_nil))) (dw_and1 (dt_ge  (de_abs G.n_abs (da_cons (de_var 4) da_nil)) (de_pow de_int de_int))))) (dss_cons (ds_set (i := 5) SC.nd (de_add (de_mul de_int (de_sub (de_abs G.n_abs (da_cons (de_var 4) da_nil)) (de_pow de_int de_int))) (de_intC G.n_int (da_cons (de_lt  (de_var 4) de_int) da_nil)))) (dss_cons (ds_dput hr (de_var 0) de_str (de_fdiv (de_var 5) (de_var 1))) (dss_one (ds_ret (de_mod (de_var 5) (de_var 1)))))) dss_nil) (dss_cons (ds_set (i := 6) SC.nd (de_mod (de_pow (de_add (de_add (de_add (de_mod (de_var 4) de_int) (de_mul (de_mul de_int (de_var 3)) (de_var 3))) (de_mul de_int (de_var 3))) de_int) de_int) de_int)) (dss_cons (ds_set (i := 6) SC.nd (de_mod (de_pow (de_add (de_add (de_mul (de_var 6) (de_add (de_mul de_int (de_var 3)) de_int)) (de_mul de_int (de_var 3))) de_int) de_int) de_int)) (dss_one (ds_ret (de_mod (de_fdiv (de_var 6) de_int) (de_var 1))))))))))))
theorem fn__law_draw {P : Program} {w : World} {K : PySem.W.Frag} {mg : Str → Option Value} {base : Heap} {a : Ad} (G : Gx P w K mg base a) {f : Addr} {fd : FuncData} {dvs : List V} {kws : List (Str × V)} (FD : FunD K "_law_draw" "_law_draw" (defArgs s__law_draw) (defBody s__law_draw) (defScope s__law_draw) dvs kws f fd) {sp : SpD}
    (h : ∀ ds w' E Q, ds.length = 2 → sp ds w' E Q → t__law_draw a (fun x _ w' => E x w') { nx := fun _ w' => Q .non w', rt := Q } (startD ["source", "many", "digit", "turn", "cell", "great", "mixed"] ds) w') : FnG P w K mg base 2 f fd ["source", "many"] (toSp K 2 sp) :=
  fnG_of FD sc__law_draw (t__law_draw a) (fun cdv A outer s H E hr tk => d__law_draw G cdv A outer s H E hr tk) h
abbrev s__law_pick : Stmt := top 34
def t__law_pick (a : Ad) (sp__law_draw : SpD) : TSD := dRet (dBin ixD (dVar 1) (dCall 2 sp__law_draw [] (dCons (dVar 0) (dCons (dCB lenD (dCons (dVar 1) (dNil))) (dNil)))))
theorem sc__law_pick : FnScope ["source", "some"] ["source", "some"] (defScope s__law_pick) := ⟨rfl, rfl, rfl, by decide +kernel, rfl, by decide +kernel, by decide +kernel⟩
theorem d__law_pick {P : Program} {w : World} {K : PySem.W.Frag} {mg : Str → Option Value} {base : Heap} {a : Ad} (G : Gx P w K mg base a) {sp__law_draw : SpD} (F__law_draw : FnD P w K mg base 2 "_law_draw" 2 sp__law_draw []) {f : Addr} (cdv : Value) (A : Around) (outer : List Env) (s : Shared) (H : Hp) (E : XK) (hr : RoomG 2 (A.deeper (envOfC "_law_pick" (defScope s__law_pick) s.heap.objs.size f cdv))) (tk : Takes (cxD P w K mg base ["source", "some"] "_law_pick" (defScope s__law_pick) f cdv A outer s H E) (WD E)) :
    DSs (cxD P w K mg base ["source", "some"] "_law_pick" (defScope s__law_pick) f cdv A outer s H E) (WD E) (defBody s__law_pick) (t__law_pick a sp__law_draw) := by
  have SC := sc__law_pick
  exact (dss_one (ds_ret (de_ix (de_var 1) (de_callD F__law_draw (hr.mono (by decide)) (tkc tk) (da_cons (de_var 0) (da_cons (de_len G.n_len (da_cons (de_var 1) da_nil)) da_nil))))))
theorem fn__law_pick {P : Program} {w : World} {K : PySem.W.Frag} {mg : Str → Option Value} {base : Heap} {a : Ad} (G : Gx P w K mg base a) {sp__law_draw : SpD} (F__law_draw : FnD P w K mg base 2 "_law_draw" 2 sp__law_draw []) {f : Addr} {fd : FuncData} {dvs : List V} {kws : List (Str × V)} (FD : FunD K "_law_pick" "_law_pick" (defArgs s__law_pick) (defBody s__law_pick) (defScope s__law_pick) dvs kws f fd) {sp : SpD}
    (h : ∀ ds w' E Q, ds.length = 2 → sp ds w' E Q → t__law_pick a sp__law_draw (fun x _ w' => E x w') { nx := fun _ w' => Q .non w', rt := Q } (startD ["source", "some"] ds) w') : FnG P w K mg base 3 f fd ["source", "some"] (toSp K 2 sp) :=
  fnG_of FD sc__law_pick (t__law_pick a sp__law_draw) (fun cdv A outer s H E hr tk => d__law_pick G F__law_draw cdv A outer s H E hr tk) h
abbrev s__law_number : Stmt := top 35
def t__law_number (a : Ad) : TSD := dSeq (dIfS (dOr (dNot (dTest (dChain ltD ltD (dC (.int 0)) (dCB lenD (dCons (dVar 0) (dNil))) (dC (.int 16))))) (dTest (dBin neRD (dLc (iSeqS (dVar 0)) (gdName 1) (dTest (dBin (inD true) (dVar 1) (dC (.str "0123456789")))) (dVar 1) [1]) (dLst (dNil))))) (dRet (dC (.bl false))) (dNext)) (dRet (dOrV (dBin eqRD (dVar 0) (dC (.str "0"))) (dBin neRD (dBin ixD (dVar 0) (dC (.int 0))) (dC (.str "0")))))
theorem sc__law_number : FnScope ["word", "sign"] ["word"] (defScope s__law_number) := ⟨rfl, rfl, rfl, by decide +kernel, rfl, by decide +kernel, by decide +kernel⟩
theorem d__law_number {P : Program} {w : World} {K : PySem.W.Frag} {mg : Str → Option Value} {base : Heap} {a : Ad} (G : Gx P w K mg base a) {f : Addr} (cdv : Value) (A : Around) (outer : List Env) (s : Shared) (H : Hp) (E : XK) (hr : RoomG 1 (A.deeper (envOfC "_law_number" (defScope s__law_number) s.heap.objs.size f cdv))) (tk : Takes (cxD P w K mg base ["word", "sign"] "_law_number" (defScope s__law_number) f cdv A outer s H E) (WD E)) :
    DSs (cxD P w K mg base ["word", "sign"] "_law_number" (defScope s__law_number) f cdv A outer s H E) (WD E) (defBody s__law_number) (t__law_number a) := by
  have SC := sc__law_number
  exact (dss_cons (ds_if (DW.dt (dw_or (dt_not (dt_chain op_lt lift_cmp op_lt lift_cmp de_int (de_len G.n_len (da_cons (de_var 0) da_nil)) de_int)) (dw_or1 (dt_ne hr (de_lc (own := [("sign", 1)]) rfl SC.nd (di_str (de_var 0)) (blkOk_by (by rfl)) (by decide) (fun _ _ _ _ _ => (dg_name SC.nd)) (fun _ _ _ _ _ => (dts_one (dt_notin (de_var 1) de_str))) (fun _ _ _ _ _ => (de_var 1))) (de_lst da_nil))))) (dss_one (ds_ret de_bl)) dss_nil) (dss_one (ds_ret (de_or (de_eq hr (de_var 0) de_str) (de_one (de_ne hr (de_ix (de_var 0) de_int) de_str))))))
theorem fn__law_number {P : Program} {w : World} {K : PySem.W.Frag} {mg : Str → Option Value} {base : Heap} {a : Ad} (G : Gx P w K mg base a) {f : Addr} {fd : FuncData} {dvs : List V} {kws : List (Str × V)} (FD : FunD K "_law_number" "_law_number" (defArgs s__law_number) (defBody s__law_number) (defScope s__law_number) dvs kws f fd) {sp : SpD}
    (h : ∀ ds w' E Q, ds.length = 1 → sp ds w' E Q → t__law_number a (fun x _ w' => E x w') { nx := fun _ w' => Q .non w', rt := Q } (startD ["word", "sign"] ds) w') : FnG P w K mg base 2 f fd ["word"] (toSp K 1 sp) :=
  fnG_of FD sc__law_number (t__law_number a) (fun cdv A outer s H E hr tk => d__law_number G cdv A outer s H E hr tk) h
abbrev s__law_is_key : Stmt := top 36
def t__law_is_key (a : Ad) (sp__law_number : SpD) : TSD := dRet (dIf (dTest (dBin eqRD (dSl (dVar 0) dNoPart (dPart (dC (.int 1)))) (dC (.str "-")))) (dAndV (dCall 1 sp__law_number [] (dCons (dSl (dVar 0) (dPart (dC (.int 1))) dNoPart) (dNil))) (dBin neRD (dVar 0) (dC (.str "-0")))) (dCall 1 sp__law_number [] (dCons (dVar 0) (dNil))))
theorem sc__law_is_key : FnScope ["word"] ["word"] (defScope s__law_is_key) := ⟨rfl, rfl, rfl, by decide +kernel, rfl, by decide +kernel, by decide +kernel⟩
theorem d__law_is_key {P : Program} {w : World} {K : PySem.W.Frag} {mg : Str → Option Value} {base : Heap} {a : Ad} (G : Gx P w K mg base a) {sp__law_number : SpD} (F__law_number : FnD P w K mg base 2 "_law_number" 1 sp__law_number []) {f : Addr} (cdv : Value) (A : Around) (outer : List Env) (s : Shared) (H : Hp) (E : XK) (hr : RoomG 2 (A.deeper (envOfC "_law_is_key" (defScope s__law_is_key) s.heap.objs.size f cdv))) (tk : Takes (cxD P w K mg base ["word"] "_law_is_key" (defScope s__law_is_key) f cdv A outer s H E) (WD E)) :
    DSs (cxD P w K mg base ["word"] "_law_is_key" (defScope s__law_is_key) f cdv A outer s H E) (WD E) (defBody s__law_is_key) (t__law_is_key a sp__law_number) := by
  have SC := sc__law_is_key
  exact (dss_one (ds_ret (de_if (dt_eq hr (de_sl (de_var 0) do_none (do_some de_int)) de_str) (de_and (de_callD F__law_number (hr.mono (by decide)) (tkc tk) (da_cons (de_sl (de_var 0) (do_some de_int) do_none) da_nil)) (de_one (de_ne hr (de_var 0) de_str))) (de_callD F__law_number (hr.mono (by decide)) (tkc tk) (da_cons (de_var 0) da_nil)))))
theorem fn__law_is_key {P : Program} {w : World} {K : PySem.W.Frag} {mg : Str → Option Value} {base : Heap} {a : Ad} (G : Gx P w K mg base a) {sp__law_number : SpD} (F__law_number : FnD P w K mg base 2 "_law_number" 1 sp__law_number []) {f : Addr} {fd : FuncData} {dvs : List V} {kws : List (Str × V)} (FD : FunD K "_law_is_key" "_law_is_key" (defArgs s__law_is_key) (defBody s__law_is_key) (defScope s__law_is_key) dvs kws f fd) {sp : SpD}
    (h : ∀ ds w' E Q, ds.length = 1 → sp ds w' E Q → t__law_is_key a sp__law_number (fun x _ w' => E x w') { nx := fun _ w' => Q .non w', rt := Q } (startD ["word"] ds) w') : FnG P w K mg base 3 f fd ["word"] (toSp K 1 sp) :=
  fnG_of FD sc__law_is_key (t__law_is_key a sp__law_number) (fun cdv A outer s H E hr tk => d__law_is_key G F__law_number cdv A outer s H E hr tk) h
abbrev s__law_is_string : Stmt := top 37
def t__law_is_string (a : Ad) : TSD := dSeq (dSet 1 (dC (.int 1))) (dSeq (dWhile (dTest (dBin ltD (dVar 1) (dCB lenD (dCons (dVar 0) (dNil))))) (dSeq (dIfS (dAnd (dTest (dBin eqRD (dBin ixD (dVar 0) (dVar 1)) (dC (.str "~")))) (dNot (dTest (dBin (inD false) (dSl (dVar 0) (dPart (dBin addD (dVar 1) (dC (.int 1)))) (dPart (dBin addD (dVar 1) (dC (.int 2))))) (dTup (dCons (dC (.str "~")) (dCons (dC (.str "_")) (dNil)))))))) (dRet (dC (.bl false))) (dNext)) (dSet 1 (dBin addD (dVar 1) (dBin ixD (dLst (dCons (dC (.int 1)) (dCons (dC (.int 2)) (dNil)))) (dCB intCD (dCons (dBin eqRD (dBin ixD (dVar 0) (dVar 1)) (dC (.str "~"))) (dNil)))))))) (dRet (dBin eqRD (dSl (dVar 0) dNoPart (dPart (dC (.int 1)))) (dC (.str "=")))))
theorem sc__law_is_string : FnScope ["word", "at"] ["word"] (defScope s__law_is_string) := ⟨rfl, rfl, rfl, by decide +kernel, rfl, by decide +kernel, by decide +kernel⟩
theorem d__law_is_string {P : Program} {w : World} {K : PySem.W.Frag} {mg : Str → Option Value} {base : Heap} {a : Ad} (G : Gx P w K mg base a) {f : Addr} (cdv : Value) (A : Around) (outer : List Env) (s : Shared) (H : Hp) (E : XK) (hr : RoomG 1 (A.deeper (envOfC "_law_is_string" (defScope s__law_is_string) s.heap.objs.size f cdv))) (tk : Takes (cxD P w K mg base ["word", "at"] "_law_is_string" (defScope s__law_is_string) f cdv A outer s H E) (WD E)) :
    DSs (cxD P w K mg base ["word", "at"] "_law_is_string" (defScope s__law_is_string) f cdv A outer s H E) (WD E) (defBody s__law_is_string) (t__law_is_string a) := by
  have SC := sc__law_is_string
  have PO : PassesOwn (model P w) (A.deeper (envOfC "_law_is_string" (defScope s__law_is_string) s.heap.objs.size f cdv)) (envOfC "_law_is_string" (defScope s__law_is_string) s.heap.objs.size f cdv) (cxD P w K mg base ["word", "at"] "_law_is_string" (defScope s__law_is_string) f cdv A outer s H E).xe := PassesOwn.leaving
  exact (dss_cons (ds_set (i := 1) SC.nd de_int) (dss_cons (ds_while PO (dt_lt  (de_var 1) (de_len G.n_len (da_cons (de_var 0) da_nil))) (dss_cons (ds_if (DW.dt (dw_and (dt_eq hr (de_ix (de_var 0) (de_var 1)) de_str) (dw_and1 (dt_not (dt_in (de_sl (de_var 0) (do_some (de_add (de_var 1) de_int)) (do_some (de_add (de_var 1) de_int))) (de_tup (da_cons de_str (da_cons de_str da_nil)))))))) (dss_one (ds_ret de_bl)) dss_nil) (dss_one (ds_set (i := 1) SC.nd (de_add (de_var 1) (de_ix (de_lst (da_cons de_int (da_cons de_int da_nil))) (de_intC G.n_int (da_cons (de_eq hr (de_ix (de_var 0) (de_var 1)) de_str) da_nil)))))))) (dss_one (ds_ret (de_eq hr (de_sl (de_var 0) do_none (do_some de_int)) de_str)))))
theorem fn__law_is_string {P : Program} {w : World} {K : PySem.W.Frag} {mg : Str → Option Value} {base : Heap} {a : Ad} (G : Gx P w K mg base a) {f : Addr} {fd : FuncData} {dvs : List V} {kws : List (Str × V)} (FD : FunD K "_law_is_string" "_law_is_string" (defArgs s__law_is_string) (defBody s__law_is_string) (defScope s__law_is_string) dvs kws f fd) {sp : SpD}
    (h : ∀ ds w' E Q, ds.length = 1 → sp ds w' E Q → t__law_is_string a (fun x _ w' => E x w') { nx := fun _ w' => Q .non w', rt := Q } (startD ["word", "at"] ds) w') : FnG P w K mg base 2 f fd ["word"] (toSp K 1 sp) :=
  fnG_of FD sc__law_is_string (t__law_is_string a) (fun cdv A outer s H E hr tk => d__law_is_string G cdv A outer s H E hr tk) h
abbrev s__law_is_held : Stmt := top 38
def t__law_is_held (a : Ad) (sp__law_is_string : SpD) (sp__law_number : SpD) : TSD := dSeq (dSet 1 (dM1 splitD (dSl (dVar 0) (dPart (dC (.int 1))) dNoPart) (dC (.str ":")))) (dSeq (dIfS (dTest (dBin eqRD (dSl (dVar 0) dNoPart (dPart (dC (.int 1)))) (dC (.str "@")))) (dRet (dAndV (dBin eqRD (dCB lenD (dCons (dVar 1) (dNil))) (dC (.int 2))) (dAndV (dCall 1 sp__law_number [] (dCons (dBin ixD (dVar 1) (dC (.int 0))) (dNil))) (dCall 1 sp__law_number [] (dCons (dBin ixD (dVar 1) (dC (.int 1))) (dNil)))))) (dNext)) (dRet (dCall 1 sp__law_is_string [] (dCons (dVar 0) (dNil)))))
theorem sc__law_is_held : FnScope ["word", "parts"] ["word"] (defScope s__law_is_held) := ⟨rfl, rfl, rfl, by decide +kernel, rfl, by decide +kernel, by decide +kernel⟩
theorem d__law_is_held {P : Program} {w : World} {K : PySem.W.Frag} {mg : Str → Option Value} {base : Heap} {a : Ad} (G : Gx P w K mg base a) {sp__law_is_string : SpD} (F__law_is_string : FnD P w K mg base 2 "_law_is_string" 1 sp__law_is_string []) {sp__law_number : SpD} (F__law_number : FnD P w K mg base 2 "_law_number" 1 sp__law_number []) {f : Addr} (cdv : Value) (A : Around) (outer : List Env) (s : Shared) (H : Hp) (E : XK) (hr : RoomG 2 (A.deeper (envOfC "_law_is_held" (defScope s__law_is_held) s.heap.objs.size f cdv))) (tk : Takes (cxD P w K mg base ["word", "parts"] "_law_is_held" (defScope s__law_is_held) f cdv A outer s H E) (WD E)) :
    DSs (cxD P w K mg base ["word", "parts"] "_law_is_held" (defScope s__law_is_held) f cdv A outer s H E) (WD E) (defBody s__law_is_held) (t__law_is_held a sp__law_is_string sp__law_number) := by
  have SC := sc__law_is_held
  exact (dss_cons (ds_set (i := 1) SC.nd (de_split (de_sl (de_var 0) (do_some de_int) do_none) de_str)) (dss_cons (ds_if (dt_eq hr (de_sl (de_var 0) do_none (do_some de_int)) de_str) (dss_one (ds_ret (de_and (de_eq hr (de_len G.n_len (da_cons (de_var 1) da_nil)) de_int) (de_and (de_callD F__law_number (hr.mono (by decide)) (tkc tk) (da_cons (de_ix (de_var 1) de_int) da_nil)) (de_one (de_callD F__law_number (hr.mono (by decide)) (tkc tk) (da_cons (de_ix (de_var 1) de_int) da_nil))))))) dss_nil) (dss_one (ds_ret (de_callD F__law_is_string (hr.mono (by decide)) (tkc tk) (da_cons (de_var 0) da_nil))))))
theorem fn__law_is_held {P : Program} {w : World} {K : PySem.W.Frag} {mg : Str → Option Value} {base : Heap} {a : Ad} (G : Gx P w K mg base a) {sp__law_is_string : SpD} (F__law_is_string : FnD P w K mg base 2 "_law_is_string" 1 sp__law_is_string []) {sp__law_number : SpD} (F__law_number : FnD P w K mg base 2 "_law_number" 1 sp__law_number []) {f : Addr} {fd : FuncData} {dvs : List V} {kws : List (Str × V)} (FD : FunD K "_law_is_held" "_law_is_held" (defArgs s__law_is_held) (defBody s__law_is_held) (defScope s__law_is_held) dvs kws f fd) {sp : SpD}
    (h : ∀ ds w' E Q, ds.length = 1 → sp ds w' E Q → t__law_is_held a sp__law_is_string sp__law_number (fun x _ w' => E x w') { nx := fun _ w' => Q .non w', rt := Q } (startD ["word", "parts"] ds) w') : FnG P w K mg base 3 f fd ["word"] (toSp K 1 sp) :=
  fnG_of FD sc__law_is_held (t__law_is_held a sp__law_is_string sp__law_number) (fun cdv A outer s H E hr tk => d__law_is_held G F__law_is_string F__law_number cdv A outer s H E hr tk) h
abbrev s__law_fits : Stmt := top 39
def t__law_fits (a : Ad) (sp__law_is_held : SpD) (sp__law_is_key : SpD) (sp__law_is_string : SpD) (sp__law_number : SpD) : TSD := dSeq (dIfS (dTest (dBin eqRD (dVar 1) (dC (.str "link")))) (dRet (dOrV (dBin eqRD (dVar 0) (dC (.str "-"))) (dCall 1 sp__law_number [] (dCons (dVar 0) (dNil))))) (dNext)) (dSeq (dIfS (dTest (dBin eqRD (dVar 1) (dC (.str "number")))) (dRet (dCall 1 sp__law_number [] (dCons (dVar 0) (dNil)))) (dNext)) (dSeq (dIfS (dTest (dBin eqRD (dVar 1) (dC (.str "key")))) (dRet (dCall 1 sp__law_is_key [] (dCons (dVar 0) (dNil)))) (dNext)) (dRet (dIf (dTest (dBin eqRD (dVar 1) (dC (.str "held")))) (dCall 1 sp__law_is_held [] (dCons (dVar 0) (dNil))) (dAndV (dBin eqRD (dVar 1) (dC (.str "string"))) (dCall 1 sp__law_is_string [] (dCons (dVar 0) (dNil))))))))
theorem sc__law_fits : FnScope ["word", "slot"] ["word", "slot"] (defScope s__law_fits) := ⟨rfl, rfl, rfl, by decide +kernel, rfl, by decide +kernel, by decide +kernel⟩
theorem d__law_fits {P : Program} {w : World} {K : PySem.W.Frag} {mg : Str → Option Value} {base : Heap} {a : Ad} (G : Gx P w K mg base a) {sp__law_is_held : SpD} (F__law_is_held : FnD P w K mg base 3 "_law_is_held" 1 sp__law_is_held []) {sp__law_is_key : SpD} (F__law_is_key : FnD P w K mg base 3 "_law_is_key" 1 sp__law_is_key []) {sp__law_is_string : SpD} (F__law_is_string : FnD P w K mg base 2 "_law_is_string" 1 sp__law_is_string []) {sp__law_number : SpD} (F__law_number : FnD P w K mg base 2 "_law_number" 1 sp__law_number []) {f : Addr} (cdv : Value) (A : Around) (outer : List Env) (s : Shared) (H : Hp) (E : XK) (hr : RoomG 3 (A.deeper (envOfC "_law_fits" (defScope s__law_fits) s.heap.objs.size f cdv))) (tk : Takes (cxD P w K mg base ["word", "slot"] "_law_fits" (defScope s__law_fits) f cdv A outer s H E) (WD E)) :
    DSs (cxD P w K mg base ["word", "slot"] "_law_fits" (defScope s__law_fits) f cdv A outer s H E) (WD E) (defBody s__law_fits) (t__law_fits a sp__law_is_held sp__law_is_key sp__law_is_string sp__law_number) := by
  have SC := sc__law_fits
  exact (dss_cons (ds_if (dt_eq hr (de_var 1) de_str) (dss_one (ds_ret (de_or (de_eq hr (de_var 0) de_str) (de_one (de_callD F__law_number (hr.mono (by decide)) (tkc tk) (da_cons (de_var 0) da_nil)))))) dss_nil) (dss_cons (ds_if (dt_eq hr (de_var 1) de_str) (dss_one (ds_ret (de_callD F__law_number (hr.mono (by decide)) (tkc tk) (da_cons (de_var 0) da_nil)))) dss_nil) (dss_cons (ds_if (dt_eq hr (de_var 1) de_str) (dss_one (ds_ret (de_callD F__law_is_key (hr.mono (by decide)) (tkc tk) (da_cons (de_var 0) da_nil)))) dss_nil) (dss_one (ds_ret (de_if (dt_eq hr (de_var 1) de_str) (de_callD F__law_is_held (hr.mono (by decide)) (tkc tk) (da_cons (de_var 0) da_nil)) (de_and (de_eq hr (de_var 1) de_str) (de_one (de_callD F__law_is_string (hr.mono (by decide)) (tkc tk) (da_cons (de_var 0) da_nil))))))))))
theorem fn__law_fits {P : Program} {w : World} {K : PySem.W.Frag} {mg : Str → Option Value} {base : Heap} {a : Ad} (G : Gx P w K mg base a) {sp__law_is_held : SpD} (F__law_is_held : FnD P w K mg base 3 "_law_is_held" 1 sp__law_is_held []) {sp__law_is_key : SpD} (F__law_is_key : FnD P w K mg base 3 "_law_is_key" 1 sp__law_is_key []) {sp__law_is_string : SpD} (F__law_is_string : FnD P w K mg base 2 "_law_is_string" 1 sp__law_is_string []) {sp__law_number : SpD} (F__law_number : FnD P w K mg base 2 "_law_number" 1 sp__law_number []) {f : Addr} {fd : FuncData} {dvs : List V} {kws : List (Str × V)} (FD : FunD K "_law_fits" "_law_fits" (defArgs s__law_fits) (defBody s__law_fits) (defScope s__law_fits) dvs kws f fd) {sp : SpD}
    (h : ∀ ds w' E Q, ds.length = 2 → sp ds w' E Q → t__law_fits a sp__law_is_held sp__law_is_key sp__law_is_string sp__law_number (fun x _ w' => E x w') { nx := fun _ w' => Q .non w', rt := Q } (startD ["word", "slot"] ds) w') : FnG P w K mg base 4 f fd ["word", "slot"] (toSp K 2 sp) :=
  fnG_of FD sc__law_fits (t__law_fits a sp__law_is_held sp__law_is_key sp__law_is_string sp__law_number) (fun cdv A outer s H E hr tk => d__law_fits G F__law_is_held F__law_is_key F__law_is_string F__law_number cdv A outer s H E hr tk) h
abbrev s__law_slot : Stmt := top 40
def t__law_slot (a : Ad) : TSD := dSeq (dIfS (dTest (dBin eqRD (dVar 0) (dC (.str "head")))) (dRet (dIf (dTest (dBin ltD (dVar 1) (dC (.int 3)))) (dC (.str "number")) (dC .non))) (dNext)) (dSeq (dIfS (dTest (dBin eqRD (dVar 0) (dC (.str "space")))) (dRet (dC (.str "number"))) (dNext)) (dSeq (dIfS (dTest (dBin eqRD (dVar 0) (dC (.str "leaf")))) (dRet (dIf (dTest (dBin eqRD (dVar 1) (dC (.int 1)))) (dC (.str "link")) (dBin ixD (dLst (dCons (dC (.str "key")) (dCons (dC (.str "held")) (dNil)))) (dBin modD (dVar 1) (dC (.int 2)))))) (dNext)) (dSeq (dIfS (dTest (dBin eqRD (dVar 0) (dC (.str "inner")))) (dRet (dBin ixD (dLst (dCons (dC (.str "key")) (dCons (dC (.str "number")) (dNil)))) (dBin modD (dVar 1) (dC (.int 2))))) (dNext)) (dRet (dIf (dAnd (dTest (dBin eqRD (dVar 0) (dC (.str "piece")))) (dTest (dBin ltD (dVar 1) (dC (.int 3))))) (dBin ixD (dLst (dCons (dC (.str "link")) (dCons (dC (.str "string")) (dNil)))) (dBin subD (dVar 1) (dC (.int 1)))) (dC .non))))))
theorem sc__law_slot : FnScope ["word", "at"] ["word", "at"] (defScope s__law_slot) := ⟨rfl, rfl, rfl, by decide +kernel, rfl, by decide +kernel, by decide +kernel⟩
theorem d__law_slot {P : Program} {w : World} {K : PySem.W.Frag} {mg : Str → Option Value} {base : Heap} {a : Ad} (G : Gx P w K mg base a) {f : Addr} (cdv : Value) (A : Around) (outer : List Env) (s : Shared) (H : Hp) (E : XK) (hr : RoomG 1 (A.deeper (envOfC "_law_slot" (defScope s__law_slot) s.heap.objs.size f cdv))) (tk : Takes (cxD P w K mg base ["word", "at"] "_law_slot" (defScope s__law_slot) f cdv A outer s H E) (WD E)) :
    DSs (cxD P w K mg base ["word", "at"] "_law_slot" (defScope s__law_slot) f cdv A outer s H E) (WD E) (defBody s__law_slot) (t__law_slot a) := by
  have SC := sc__law_slot
  exact (dss_cons (ds_if (dt_eq hr (de_var 0) de_str) (dss_one (ds_ret (de_if (dt_lt  (de_var 1) de_int) de_str de_non))) dss_nil) (dss_cons (ds_if (dt_eq hr (de_var 0) de_str) (dss_one (ds_ret de_str)) dss_nil) (dss_cons (ds_if (dt_eq hr (de_var 0) de_str) (dss_one (ds_ret (de_if (dt_eq hr (de_var 1) de_int) de_str (de_ix (de_lst (da_cons de_str (da_cons de_str da_nil))) (de_mod (de_var 1) de_int))))) dss_nil) (dss_cons (ds_if (dt_eq hr (de_var 0) de_str) (dss_one (ds_ret (de_ix (de_lst (da_cons de_str (da_cons de_str da_nil))) (de_mod (de_var 1) de_int)))) dss_nil) (dss_one (ds_ret (de_if (DW.dt (dw_and (dt_eq hr (de_var 0) de_str) (dw_and1 (dt_lt  (de_var 1) de_int)))) (de_ix (de_lst (da_cons de_str (da_cons de_str da_nil))) (de_sub (de_var 1) de_int)) de_non)))))))
theorem fn__law_slot {P : Program} {w : World} {K : PySem.W.Frag} {mg : Str → Option Value} {base : Heap} {a : Ad} (G : Gx P w K mg base a) {f : Addr} {fd : FuncData} {dvs : List V} {kws : List (Str × V)} (FD : FunD K "_law_slot" "_law_slot" (defArgs s__law_slot) (defBody s__law_slot) (defScope s__law_slot) dvs kws f fd) {sp : SpD}
    (h : ∀ ds w' E Q, ds.length = 2 → sp ds w' E Q → t__law_slot a (fun x _ w' => E x w') { nx := fun _ w' => Q .non w', rt := Q } (startD ["word", "at"] ds) w') : FnG P w K mg base 2 f fd ["word", "at"] (toSp K 2 sp) :=
  fnG_of FD sc__law_slot (t__law_slot a) (fun cdv A outer s H E hr tk => d__law_slot G cdv A outer s H E hr tk) h
abbrev s__law_image_wrong : Stmt := top 41
def t__law_image_wrong (a : Ad) (sp__law_fits : SpD) (sp__law_slot : SpD) : TSD := dSeq (dSet 1 (dBin ixD (dVar 0) (dC (.int 0)))) (dSeq (dIfS (dNot (dTest (dBin (inD false) (dVar 1) (dTup (dCons (dC (.str "head")) (dCons (dC (.str "space")) (dCons (dC (.str "leaf")) (dCons (dC (.str "inner")) (dCons (dC (.str "piece")) (dCons (dC (.str "free")) (dNil))))))))))) (dRet (dC (.int 0))) (dNext)) (dSeq (dFor (iRngD2 (dCons (dC (.int 1)) (dCons (dCB lenD (dCons (dVar 0) (dNil))) (dNil)))) (gdName 2) (dIfS (dNot (dTru (dCall 2 sp__law_fits [] (dCons (dBin ixD (dVar 0) (dVar 2)) (dCons (dCall 2 sp__law_slot [] (dCons (dVar 1) (dCons (dVar 2) (dNil)))) (dNil)))))) (dRet (dVar 2)) (dNext))) (dSeq (dSet 3 (dDGet (dDisp (dpCons (dC (.str "head")) (dC (.int 3)) (dpCons (dC (.str "space")) (dC (.int 3)) (dpCons (dC (.str "leaf")) (dC (.int 2)) (dpCons (dC (.str "inner")) (dC (.int 4)) (dpCons (dC (.str "piece")) (dC (.int 3)) (dpCons (dC (.str "free")) (dC (.int 1)) (dpNil)))))))) (dVar 1))) (dSeq (dIfS (dOr (dTest (dBin ltD (dCB lenD (dCons (dVar 0) (dNil))) (dVar 3))) (dAnd (dTest (dBin (inD false) (dVar 1) (dTup (dCons (dC (.str "leaf")) (dCons (dC (.str "inner")) (dNil)))))) (dTest (dBin eqRD (dBin modD (dCB lenD (dCons (dVar 0) (dNil))) (dC (.int 2))) (dC (.int 1)))))) (dRet (dCB lenD (dCons (dVar 0) (dNil)))) (dNext)) (dRet (dC .non))))))
theorem sc__law_image_wrong : FnScope ["row", "word", "at", "least"] ["row"] (defScope s__law_image_wrong) := ⟨rfl, rfl, rfl, by decide +kernel, rfl, by decide +kernel, by decide +kernel⟩
theorem d__law_image_wrong {P : Program} {w : World} {K : PySem.W.Frag} {mg : Str → Option Value} {base : Heap} {a : Ad} (G : Gx P w K mg base a) {sp__law_fits : SpD} (F__law_fits : FnD P w K mg base 4 "_law_fits" 2 sp__law_fits []) {sp__law_slot : SpD} (F__law_slot : FnD P w K mg base 2 "_law_slot" 2 sp__law_slot []) {f : Addr} (cdv : Value) (A : Around) (outer : List Env) (s : Shared) (H : Hp) (E : XK) (hr : RoomG 4 (A.deeper (envOfC "_law_image_wrong" (defScope s__law_image_wrong) s.heap.objs.size f cdv))) (tk : Takes (cxD P w K mg base ["row", "word", "at", "least"] "_law_image_wrong" (defScope s__law_image_wrong) f cdv A outer s H E) (WD E)) :
    DSs (cxD P w K mg base ["row", "word", "at", "least"] "_law_image_wrong" (defScope s__law_image_wrong) f cdv A outer s H E) (WD E) (defBody s__law_image_wrong) (t__law_image_wrong a sp__law_fits sp__law_slot) := by
  have SC := sc__law_image_wrong
  have PO : PassesOwn (model P w) (A.deeper (envOfC "_law_image_wrong" (defScope s__law_image_wrong) s.heap.objs.size f cdv)) (envOfC "_law_image_wrong" (defScope s__law_image_wrong) s.heap.objs.size f cdv) (cxD P w K mg base ["row", "word", "at", "least"] "_law_image_wrong" (defScope s__law_image_wrong) f cdv A outer s H E).xe := PassesOwn.leaving
  exact (dss_cons (ds_set (i := 1) SC.nd (de_ix (de_var 0) de_int)) (dss_cons (ds_if (dt_not (dt_in (de_var 1) (de_tup (da_cons de_str (da_cons de_str (da_cons de_str (da_cons de_str (da_cons de_str (da_cons de_str da_nil))))))))) (dss_one (ds_ret de_int)) dss_nil) (dss_cons (ds_for PO rfl (di_range2 G.n_range (da_cons de_int (da_cons (de_len G.n_len (da_cons (de_var 0) da_nil)) da_nil))) (dg_name SC.nd) (dss_one (ds_if (dt_not (dt_tru (de_callD F__law_fits (hr.mono (by decide)) (tkc tk) (da_cons (de_ix (de_var 0) (de_var 2)) (da_cons (de_callD F__law_slot (hr.mono (by decide)) (tkc tk) (da_cons (de_var 1) (da_cons (de_var 2) da_nil))) da_nil))))) (dss_one (ds_ret (de_var 2))) dss_nil))) (dss_cons (ds_set (i := 3) SC.nd (de_dget hr (de_disp (dps_cons de_str de_int (dps_cons de_str de_int (dps_cons de_str de_int (dps_cons de_str de_int (dps_cons de_str de_int (dps_cons de_str de_int dps_nil))))))) (de_var 1))) (dss_cons (ds_if (DW.dt (dw_or (dt_lt  (de_len G.n_len (da_cons (de_var 0) da_nil)) (de_var 3)) (dw_or1 (DW.dt (dw_and (dt_in (de_var 1) (de_tup (da_cons de_str (da_cons de_str da_nil)))) (dw_and1 (dt_eq hr (de_mod (de_len G.n_len (da_cons (de_var 0) da_nil)) de_int) de_int))))))) (dss_one (ds_ret (de_len G.n_len (da_cons (de_var 0) da_nil)))) dss_nil) (dss_one (ds_ret de_non)))))))
theorem fn__law_image_wrong {P : Program} {w : World} {K : PySem.W.Frag} {mg : Str → Option Value} {base : Heap} {a : Ad} (G : Gx P w K mg base a) {sp__law_fits : SpD} (F__law_fits : FnD P w K mg base 4 "_law_fits" 2 sp__law_fits []) {sp__law_slot : SpD} (F__law_slot : FnD P w K mg base 2 "_law_slot" 2 sp__law_slot []) {f : Addr} {fd : FuncData} {dvs : List V} {kws : List (Str × V)} (FD : FunD K "_law_image_wrong" "_law_image_wrong" (defArgs s__law_image_wrong) (defBody s__law_image_wrong) (defScope s__law_image_wrong) dvs kws f fd) {sp : SpD}
    (h : ∀ ds w' E Q, ds.length = 1 → sp ds w' E Q → t__law_image_wrong a sp__law_fits sp__law_slot (fun x _ w' => E x w') { nx := fun _ w' => Q .non w', rt := Q } (startD ["row", "word", "at", "least"] ds) w') : FnG P w K mg base 5 f fd ["row"] (toSp K 1 sp) :=
  fnG_of FD sc__law_image_wrong (t__law_image_wrong a sp__law_fits sp__law_slot) (fun cdv A outer s H E hr tk => d__law_image_wrong G F__law_fits F__law_slot cdv A outer s H E hr tk) h
abbrev s__law_file_wrong : Stmt := top 42
def t__law_file_wrong (a : Ad) (sp__law_image_wrong : SpD) : TSD := dSeq (dFor (iEnumD (dCons (dVar 0) (dNil))) (gdTup 2 (gdCons (gdName 1) (gdCons (gdName 2) (gdNil)))) (dSeq (dSet 3 (dCall 1 sp__law_image_wrong [] (dCons (dVar 2) (dNil)))) (dIfS (notNT (dVar 3)) (dRet (dTup (dCons (dVar 1) (dCons (dVar 3) (dNil))))) (dNext)))) (dRet (dC .non))
theorem sc__law_file_wrong : FnScope ["rows", "at", "row", "found"] ["rows"] (defScope s__law_file_wrong) := ⟨rfl, rfl, rfl, by decide +kernel, rfl, by decide +kernel, by decide +kernel⟩
theorem d__law_file_wrong {P : Program} {w : World} {K : PySem.W.Frag} {mg : Str → Option Value} {base : Heap} {a : Ad} (G : Gx P w K mg base a) {sp__law_image_wrong : SpD} (F__law_image_wrong : FnD P w K mg base 5 "_law_image_wrong" 1 sp__law_image_wrong []) {f : Addr} (cdv : Value) (A : Around) (outer : List Env) (s : Shared) (H : Hp) (E : XK) (hr : RoomG 5 (A.deeper (envOfC "_law_file_wrong" (defScope s__law_file_wrong) s.heap.objs.size f cdv))) (tk : Takes (cxD P w K mg base ["rows", "at", "row", "found"] "_law_file_wrong" (defScope s__law_file_wrong) f cdv A outer s H E) (WD E)) :
    DSs (cxD P w K mg base ["rows", "at", "row", "found"] "_law_file_wrong" (defScope s__law_file_wrong) f cdv A outer s H E) (WD E) (defBody s__law_file_wrong) (t__law_file_wrong a sp__law_image_wrong) := by
  have SC := sc__law_file_wrong
  have PO : PassesOwn (model P w) (A.deeper (envOfC "_law_file_wrong" (defScope s__law_file_wrong) s.heap.objs.size f cdv)) (envOfC "_law_file_wrong" (defScope s__law_file_wrong) s.heap.objs.size f cdv) (cxD P w K mg base ["rows", "at", "row", "found"] "_law_file_wrong" (defScope s__law_file_wrong) f cdv A outer s H E).xe := PassesOwn.leaving
  exact (dss_cons (ds_for PO rfl (di_enum G.n_enumerate (da_cons (de_var 0) da_nil)) (dg_tup rfl (dgs_cons (dg_name SC.nd) (dgs_cons (dg_name SC.nd) dgs_nil))) (dss_cons (ds_set (i := 3) SC.nd (de_callD F__law_image_wrong (hr.mono (by decide)) (tkc tk) (da_cons (de_var 2) da_nil))) (dss_one (ds_if (dt_notN (de_var 3)) (dss_one (ds_ret (de_tup (da_cons (de_var 1) (da_cons (de_var 3) da_nil))))) dss_nil)))) (dss_one (ds_ret de_non)))
theorem fn__law_file_wrong {P : Program} {w : World} {K : PySem.W.Frag} {mg : Str → Option Value} {base : Heap} {a : Ad} (G : Gx P w K mg base a) {sp__law_image_wrong : SpD} (F__law_image_wrong : FnD P w K mg base 5 "_law_image_wrong" 1 sp__law_image_wrong []) {f : Addr} {fd : FuncData} {dvs : List V} {kws : List (Str × V)} (FD : FunD K "_law_file_wrong" "_law_file_wrong" (defArgs s__law_file_wrong) (defBody s__law_file_wrong) (defScope s__law_file_wrong) dvs kws f fd) {sp : SpD}
    (h : ∀ ds w' E Q, ds.length = 1 → sp ds w' E Q → t__law_file_wrong a sp__law_image_wrong (fun x _ w' => E x w') { nx := fun _ w' => Q .non w', rt := Q } (startD ["rows", "at", "row", "found"] ds) w') : FnG P w K mg base 6 f fd ["rows"] (toSp K 1 sp) :=
  fnG_of FD sc__law_file_wrong (t__law_file_wrong a sp__law_image_wrong) (fun cdv A outer s H E hr tk => d__law_file_wrong G F__law_image_wrong cdv A outer s H E hr tk) h
abbrev s__law_images : Stmt := top 43
def t__law_images (a : Ad) (sp__law_draw : SpD) (sp__law_pick : SpD) : TSD := dSeq (dSet 1 (dLst (dCons (dC (.str "head 2 0")) (dCons (dC (.str "space 5 3")) (dCons (dC (.str "space 7 3 5 6")) (dCons (dC (.str "leaf - 4 = 5 =a~_b")) (dCons (dC (.str "leaf 3")) (dCons (dC (.str "inner 2 9 3")) (dCons (dC (.str "free")) (dNil)))))))))) (dSeq (dSet 1 (dBin addD (dVar 1) (dLst (dCons (dC (.str "inner 2 -9 3 4 5")) (dCons (dC (.str "piece - =a")) (dCons (dC (.str "piece 4 =~~~_=")) (dCons (dC (.str "leaf 3 -1 @4:20")) (dCons (dC (.str "space 900 0 2 3 4")) (dNil))))))))) (dSeq (dSet 1 (dBin addD (dVar 1) (dLst (dCons (dC (.str "piece 4 =123456789")) (dCons (dC (.str "piece - =")) (dCons (dBin addD (dBin addD (dC (.str "leaf - 4 =")) (dBin mulA (dC (.str "ab~_")) (dC (.int 12)))) (dC (.str " 6 @7:7"))) (dNil))))))) (dRet (dLc (iRngD1 (dCons (dBin addD (dC (.int 1)) (dCall 2 sp__law_draw [] (dCons (dVar 0) (dCons (dC (.int 4)) (dNil))))) (dNil))) (gdName 2) (dYes) (dCall 2 sp__law_pick [] (dCons (dVar 0) (dCons (dVar 1) (dNil)))) [2]))))
theorem sc__law_images : FnScope ["source", "some", "k"] ["source"] (defScope s__law_images) := ⟨rfl, rfl, rfl, by decide +kernel, rfl, by decide +kernel, by decide +kernel⟩
theorem d__law_images {P : Program} {w : World} {K : PySem.W.Frag} {mg : Str → Option Value} {base : Heap} {a : Ad} (G : Gx P w K mg base a) {sp__law_draw : SpD} (F__law_draw : FnD P w K mg base 2 "_law_draw" 2 sp__law_draw []) {sp__law_pick : SpD} (F__law_pick : FnD P w K mg base 3 "_law_pick" 2 sp__law_pick []) {f : Addr} (cdv : Value) (A : Around) (outer : List Env) (s : Shared) (H : Hp) (E : XK) (hr : RoomG 3 (A.deeper (envOfC "_law_images" (defScope s__law_images) s.heap.objs.size f cdv))) (tk : Takes (cxD P w K mg base ["source", "some", "k"] "_law_images" (defScope s__law_images) f cdv A outer s H E) (WD E)) :
    DSs (cxD P w K mg base ["source", "some", "k"] "_law_images" (defScope s__law_images) f cdv A outer s H E) (WD E) (defBody s__law_images) (t__law_images a sp__law_draw sp__law_pick) := by
  have SC := sc__law_images
  exact (dss_cons (ds_set (i := 1) SC.nd (de_lst (da_cons de_str (da_cons de_str (da_cons de_str (da_cons de_str (da_cons de_str (da_cons de_str (da_cons de_str da_nil))))))))) (dss_cons (ds_set (i := 1) SC.nd (de_add (de_var 1) (de_lst (da_cons de_str (da_cons de_str (da_cons de_str (da_cons de_str (da_cons de_str da_nil)))))))) (dss_cons (ds_set (i := 1) SC.nd (de_add (de_var 1) (de_lst (da_cons de_str (da_cons de_str (da_cons (de_add (de_add de_str (de_mulA de_str de_int)) de_str) da_nil)))))) (dss_one (ds_ret (de_lc (own := [("k", 2)]) rfl SC.nd (di_range1 G.n_range (da_cons (de_add de_int (de_callD F__law_draw (hr.mono (by decide)) (tkc tk) (da_cons (de_var 0) (da_cons de_int da_nil)))) da_nil)) (blkOk_by (by rfl)) (by decide) (fun _ _ _ _ _ => (dg_name SC.nd)) (fun _ _ _ _ _ => dts_nil) (fun _ _ _ _ _ => (de_callD F__law_pick (hr.mono (by decide)) tkc0 (da_cons (de_var 0) (da_cons (de_var 1) da_nil))))))))))
theorem fn__law_images {P : Program} {w : World} {K : PySem.W.Frag} {mg : Str → Option Value} {base : Heap} {a : Ad} (G : Gx P w K mg base a) {sp__law_draw : SpD} (F__law_draw : FnD P w K mg base 2 "_law_draw" 2 sp__law_draw []) {sp__law_pick : SpD} (F__law_pick : FnD P w K mg base 3 "_law_pick" 2 sp__law_pick []) {f : Addr} {fd : FuncData} {dvs : List V} {kws : List (Str × V)} (FD : FunD K "_law_images" "_law_images" (defArgs s__law_images) (defBody s__law_images) (defScope s__law_images) dvs kws f fd) {sp : SpD}
    (h : ∀ ds w' E Q, ds.length = 1 → sp ds w' E Q → t__law_images a sp__law_draw sp__law_pick (fun x _ w' => E x w') { nx := fun _ w' => Q .non w', rt := Q } (startD ["source", "some", "k"] ds) w') : FnG P w K mg base 4 f fd ["source"] (toSp K 1 sp) :=
  fnG_of FD sc__law_images (t__law_images a sp__law_draw sp__law_pick) (fun cdv A outer s H E hr tk => d__law_images G F__law_draw F__law_pick cdv A outer s H E hr tk) h
abbrev s__law_bent : Stmt := top 44
def t__law_bent (a : Ad) (sp__law_draw : SpD) (sp__law_pick : SpD) : TSD := dSeq (dSet 2 (dC (.str " -+~=@:019a\n"))) (dSeq (dSet 3 (dM1 splitD (dVar 1) (dC (.str "\n")))) (dSeq (dSet 4 (dCall 2 sp__law_draw [] (dCons (dVar 0) (dCons (dCB lenD (dCons (dVar 3) (dNil))) (dNil))))) (dSeq (dSet 5 (dM1 splitD (dBin ixD (dVar 3) (dVar 4)) (dC (.str " ")))) (dSeq (dPar 6 7 (dCons (dCall 2 sp__law_draw [] (dCons (dVar 0) (dCons (dCB lenD (dCons (dVar 5) (dNil))) (dNil)))) (dCons (dCall 2 sp__law_draw [] (dCons (dVar 0) (dCons (dBin addD (dCB lenD (dCons (dVar 1) (dNil))) (dC (.int 1))) (dNil)))) (dNil)))) (dSeq (dSet 8 (dCall 2 sp__law_pick [] (dCons (dVar 0) (dCons (dVar 2) (dNil))))) (dSeq (dSet 9 (dLst (dCons (dC (.str "")) (dCons (dC (.str "00")) (dCons (dC (.str "01")) (dCons (dC (.str "-0")) (dCons (dC (.str "-1")) (dCons (dC (.str "-")) (dCons (dBin mulA (dC (.str "9")) (dC (.int 15))) (dCons (dBin mulA (dC (.str "9")) (dC (.int 16))) (dCons (dBin mulA (dC (.str "7")) (dC (.int 5000))) (dCons (dC (.str "=~")) (dCons (dC (.str "=~~")) (dCons (dC (.str "free")) (dCons (dC (.str "@1:2")) (dCons (dC (.str "@1")) (dCons (dC (.str "leaf")) (dNil)))))))))))))))))) (dSeq (dSet 10 (dLstW (dCons (dBin addD (dBin addD (dSl (dVar 1) dNoPart (dPart (dVar 7))) (dVar 8)) (dSl (dVar 1) (dPart (dVar 7)) dNoPart)) (dCons (dBin addD (dBin addD (dSl (dVar 1) dNoPart (dPart (dVar 7))) (dVar 8)) (dSl (dVar 1) (dPart (dBin addD (dVar 7) (dC (.int 1)))) dNoPart)) (dCons (dBin addD (dSl (dVar 1) dNoPart (dPart (dVar 7))) (dSl (dVar 1) (dPart (dBin addD (dVar 7) (dC (.int 1)))) dNoPart)) (dNil)))))) (dSeq (dSet 10 (dAddW (dVar 10) (dLst (dCons (dBin addD (dVar 1) (dVar 8)) (dCons (dBin addD (dVar 8) (dVar 1)) (dCons (dBin addD (dBin addD (dVar 1) (dC (.str "\n"))) (dBin ixD (dVar 3) (dVar 4))) (dCons (dSl (dVar 1) dNoPart (dPart (dVar 7))) (dNil)))))))) (dSeq (dDrop (dApp (dVar 10) (dM1 joinD (dC (.str "\n")) (dBin addD (dSl (dVar 3) dNoPart (dPart (dVar 4))) (dSl (dVar 3) (dPart (dBin addD (dVar 4) (dC (.int 1)))) dNoPart))))) (dSeq (dSet 11 (dRevL (dSl (dVar 3) (dPart (dVar 4)) (dPart (dBin addD (dVar 4) (dC (.int 2))))))) (dSeq (dDrop (dApp (dVar 10) (dM1 joinD (dC (.str "\n")) (dBin addD (dBin addD (dSl (dVar 3) dNoPart (dPart (dVar 4))) (dVar 11)) (dSl (dVar 3) (dPart (dBin addD (dVar 4) (dC (.int 2)))) dNoPart))))) (dSeq (dSet 12 (dLstW (dCons (dBin addD (dSl (dVar 5) dNoPart (dPart (dVar 6))) (dSl (dVar 5) (dPart (dBin addD (dVar 6) (dC (.int 1)))) dNoPart)) (dCons (dBin addD (dSl (dVar 5) dNoPart (dPart (dBin addD (dVar 6) (dC (.int 1))))) (dSl (dVar 5) (dPart (dVar 6)) dNoPart)) (dNil))))) (dSeq (dDrop (dApp (dVar 12) (dBin addD (dBin addD (dSl (dVar 5) dNoPart (dPart (dVar 6))) (dLst (dCons (dCall 2 sp__law_pick [] (dCons (dVar 0) (dCons (dVar 9) (dNil)))) (dNil)))) (dSl (dVar 5) (dPart (dVar 6)) dNoPart)))) (dSeq (dDrop (dApp (dVar 12) (dBin addD (dBin addD (dSl (dVar 5) dNoPart (dPart (dVar 6))) (dLst (dCons (dCall 2 sp__law_pick [] (dCons (dVar 0) (dCons (dVar 9) (dNil)))) (dNil)))) (dSl (dVar 5) (dPart (dBin addD (dVar 6) (dC (.int 1)))) dNoPart)))) (dSeq (dFor (iSeqW (dVar 12)) (gdName 13) (dDrop (dApp (dVar 10) (dM1 joinD (dC (.str "\n")) (dBin addD (dBin addD (dSl (dVar 3) dNoPart (dPart (dVar 4))) (dLst (dCons (dM1 joinD (dC (.str " ")) (dVar 13)) (dNil)))) (dSl (dVar 3) (dPart (dBin addD (dVar 4) (dC (.int 1)))) dNoPart)))))) (dRet (dCall 2 sp__law_pick [] (dCons (dVar 0) (dCons (dBin addD (dVar 10) (dLst (dCons (dC (.str "")) (dCons (dC (.str " ")) (dCons (dC (.str "-")) (dCons (dC (.str "- -")) (dCons (dC .non) (dCons (dC (.int 7)) (dCons (dC (.bl true)) (dCons (dLst (dCons (dVar 1) (dNil))) (dCons (dBin addD (dVar 1) (dC (.str " 1"))) (dNil)))))))))))) (dNil))))))))))))))))))))
theorem sc__law_bent : FnScope ["source", "page", "signs", "lines", "row", "parts", "at", "spot", "sign", "odd", "some", "two", "more", "later"] ["source", "page"] (defScope s__law_bent) := ⟨rfl, rfl, rfl, by decide +kernel, rfl, by decide +kernel, by decide +kernel⟩
theorem d__law_bent {P : Program} {w : World} {K : PySem.W.Frag} {mg : Str → Option Value} {base : Heap} {a : Ad} (G : Gx P w K mg base a) {sp__law_draw : SpD} (F__law_draw : FnD P w K mg base 2 "_law_draw" 2 sp__law_draw []) {sp__law_pick : SpD} (F__law_pick : FnD P w K mg base 3 "_law_pick" 2 sp__law_pick []) {f : Addr} (cdv : Value) (A : Around) (outer : List Env) (s : Shared) (H : Hp) (E : XK) (hr : RoomG 3 (A.deeper (envOfC "_law_bent" (defScope s__law_bent) s.heap.objs.size f cdv))) (tk : Takes (cxD P w K mg base ["source", "page", "signs", "lines", "row", "parts", "at", "spot", "sign", "odd", "some", "two", "more", "later"] "_law_bent" (defScope s__law_bent) f cdv A outer s H E) (WD E)) :
    DSs (cxD P w K mg base ["source", "page", "signs", "lines", "row", "parts", "at", "spot", "sign", "odd", "some", "two", "more", "later"] "_law_bent" (defScope s__law_bent) f cdv A outer s H E) (WD E) (defBody s__law_bent) (t__law_bent a sp__law_draw sp__law_pick) := by
  have SC := sc__law_bent
  have PO : PassesOwn (model P w) (A.deeper (envOfC "_law_bent" (defScope s__law_bent) s.heap.objs.size f cdv)) (envOfC "_law_bent" (defScope s__law_bent) s.heap.objs.size f cdv) (cxD P w K mg base ["source", "page", "signs", "lines", "row", "parts", "at", "spot", "sign", "odd", "some", "two", "more", "later"] "_law_bent" (defScope s__law_bent) f cdv A outer s H E).xe := PassesOwn.leaving
  exact (dss_cons (ds_set (i := 2) SC.nd de_str) (dss_cons (ds_set (i := 3) SC.nd (de_split (de_var 1) de_str)) (dss_cons (ds_set (i := 4) SC.nd (de_callD F__law_draw (hr.mono (by decide)) (tkc tk) (da_cons (de_var 0) (da_cons (de_len G.n_len (da_cons (de_var 3) da_nil)) da_nil)))) (dss_cons (ds_set (i := 5) SC.nd (de_split (de_ix (de_var 3) (de_var 4)) de_str)) (dss_cons (ds_par (i := 6) (j := 7) rfl SC.nd (da_cons (de_callD F__law_draw (hr.mono (by decide)) (tkc tk) (da_cons (de_var 0) (da_cons (de_len G.n_len (da_cons (de_var 5) da_nil)) da_nil))) (da_cons (de_callD F__law_draw (hr.mono (by decide)) (tkc tk) (da_cons (de_var 0) (da_cons (de_add (de_len G.n_len (da_cons (de_var 1) da_nil)) de_int) da_nil))) da_nil)) (by decide)) (dss_cons (ds_set (i := 8) SC.nd (de_callD F__law_pick (hr.mono (by decide)) (tkc tk) (da_cons (de_var 0) (da_cons (de_var 2) da_nil)))) (dss_cons (ds_set (i := 9) SC.nd (de_lst (da_cons de_str (da_cons de_str (da_cons de_str (da_cons de_str (da_cons de_str (da_cons de_str (da_cons (de_mulA de_str de_int) (da_cons (de_mulA de_str de_int) (da_cons (de_mulA de_str de_int) (da_cons de_str (da_cons de_str (da_cons de_str (da_cons de_str (da_cons de_str (da_cons de_str da_nil))))))))))))))))) (dss_cons (ds_set (i := 10) SC.nd (de_lstW (da_cons (de_add (de_add (de_sl (de_var 1) do_none (do_some (de_var 7))) (de_var 8)) (de_sl (de_var 1) (do_some (de_var 7)) do_none)) (da_cons (de_add (de_add (de_sl (de_var 1) do_none (do_some (de_var 7))) (de_var 8)) (de_sl (de_var 1) (do_some (de_add (de_var 7) de_int)) do_none)) (da_cons (de_add (de_sl (de_var 1) do_none (do_some (de_var 7))) (de_sl (de_var 1) (do_some (de_add (de_var 7) de_int)) do_none)) da_nil))))) (dss_cons (ds_set (i := 10) SC.nd (de_addW (de_var 10) (de_lst (da_cons (de_add (de_var 1) (de_var 8)) (da_cons (de_add (de_var 8) (de_var 1)) (da_cons (de_add (de_add (de_var 1) de_str) (de_ix (de_var 3) (de_var 4))) (da_cons (de_sl (de_var 1) do_none (do_some (de_var 7))) da_nil))))))) (dss_cons (ds_expr (de_app (de_var 10) (de_join de_str (de_add (de_sl (de_var 3) do_none (do_some (de_var 4))) (de_sl (de_var 3) (do_some (de_add (de_var 4) de_int)) do_none))))) (dss_cons (ds_set (i := 11) SC.nd (de_revL (de_sl (de_var 3) (do_some (de_var 4)) (do_some (de_add (de_var 4) de_int))))) (dss_cons (ds_expr (de_app (de_var 10) (de_join de_str (de_add (de_add (de_sl (de_var 3) do_none (do_some (de_var 4))) (de_var 11)) (de_sl (de_var 3) (do_some (de_add (de_var 4) de_int)) do_none))))) (dss_cons (ds_set (i := 12) SC.nd (de_lstW (da_cons (de_add (de_sl (de_var 5) do_none (do_some (de_var 6))) (de_sl (de_var 5) (do_some (de_add (de_var 6) de_int)) do_none)) (da_cons (de_add (de_sl (de_var 5) do_none (do_some (de_add (de_var 6) de_int))) (de_sl (de_var 5) (do_some (de_var 6)) do_none)) da_nil)))) (dss_cons (ds_expr (de_app (de_var 12) (de_add (de_add (de_sl (de_var 5) do_none (do_some (de_var 6))) (de_lst (da_cons (de_callD F__law_pick (hr.mono (by decide)) (tkc tk) (da_cons (de_var 0) (da_cons (de_var 9) da_nil))) da_nil))) (de_sl (de_var 5) (do_some (de_var 6)) do_none)))) (dss_cons (ds_expr (de_app (de_var 12) (de_add (de_add (de_sl (de_var 5) do_none (do_some (de_var 6))) (de_lst (da_cons (de_callD F__law_pick (hr.mono (by decide)) (tkc tk) (da_cons (de_var 0) (da_cons (de_var 9) da_nil))) da_nil))) (de_sl (de_var 5) (do_some (de_add (de_var 6) de_int)) do_none)))) (dss_cons (ds_for PO rfl (di_listW (de_var 12)) (dg_name SC.nd) (dss_one (ds_expr (de_app (de_var 10) (de_join de_str (de_add (de_add (de_sl (de_var 3) do_none (do_some (de_var 4))) (de_lst (da_cons (de_join de_str (de_var 13)) da_nil))) (de_sl (de_var 3) (do_some (de_add (de_var 4) de_int)) do_none))))))) (dss_one (ds_ret (de_callD F__law_pick (hr.mono (by decide)) (tkc tk) (da_cons (de_var 0) (da_cons (de_add (de_var 10) (de_lst (da_cons de_str (da_cons de_str (da_cons de_str (da_cons de_str (da_cons de_non (da_cons de_int (da_cons de_bl (da_cons (de_lst (da_cons (de_var 1) da_nil)) (da_cons (de_add (de_var 1) de_str) da_nil))))))))))) da_nil)))))))))))))))))))))
theorem fn__law_bent {P : Program} {w : World} {K : PySem.W.Frag} {mg : Str → Option Value} {base : Heap} {a : Ad} (G : Gx P w K mg base a) {sp__law_draw : SpD} (F__law_draw : FnD P w K mg base 2 "_law_draw" 2 sp__law_draw []) {sp__law_pick : SpD} (F__law_pick : FnD P w K mg base 3 "_law_pick" 2 sp__law_pick []) {f : Addr} {fd : FuncData} {dvs : List V} {kws : List (Str × V)} (FD : FunD K "_law_bent" "_law_bent" (defArgs s__law_bent) (defBody s__law_bent) (defScope s__law_bent) dvs kws f fd) {sp : SpD}
    (h : ∀ ds w' E Q, ds.length = 2 → sp ds w' E Q → t__law_bent a sp__law_draw sp__law_pick (fun x _ w' => E x w') { nx := fun _ w' => Q .non w', rt := Q } (startD ["source", "page", "signs", "lines", "row", "parts", "at", "spot", "sign", "odd", "some", "two", "more", "later"] ds) w') : FnG P w K mg base 4 f fd ["source", "page"] (toSp K 2 sp) :=
  fnG_of FD sc__law_bent (t__law_bent a sp__law_draw sp__law_pick) (fun cdv A outer s H E hr tk => d__law_bent G F__law_draw F__law_pick cdv A outer s H E hr tk) h
abbrev s__law_told : Stmt := top 45
def t__law_told (a : Ad) (P : Program) (w : World) (K : PySem.W.Frag) (mg : Str → Option Value) (base : Heap) (sp_read_file : SpD) (sp_show_file : SpD) : TSD := dTryAs K a.c_InvalidText 1 (dRet (dLst (dCons (dCall 1 sp_show_file [] (dCons (dCall 1 sp_read_file [] (dCons (dVar 0) (dNil))) (dNil))) (dNil)))) (fun ea fs => dRet (dTup (dCons (dXf ea fs "line" (dVar 1)) (dCons (dXf ea fs "word" (dVar 1)) (dNil)))))
theorem sc__law_told : FnScope ["page", "error"] ["page"] (defScope s__law_told) := ⟨rfl, rfl, rfl, by decide +kernel, rfl, by decide +kernel, by decide +kernel⟩
theorem d__law_told {P : Program} {w : World} {K : PySem.W.Frag} {mg : Str → Option Value} {base : Heap} {a : Ad} (G : Gx P w K mg base a) {sp_read_file : SpD} (F_read_file : FnD P w K mg base 10 "read_file" 1 sp_read_file []) {sp_show_file : SpD} (F_show_file : FnD P w K mg base 6 "show_file" 1 sp_show_file []) {f : Addr} (cdv : Value) (A : Around) (outer : List Env) (s : Shared) (H : Hp) (E : XK) (hr : RoomG 10 (A.deeper (envOfC "_law_told" (defScope s__law_told) s.heap.objs.size f cdv))) (tk : Takes (cxD P w K mg base ["page", "error"] "_law_told" (defScope s__law_told) f cdv A outer s H E) (WD E)) :
    DSs (cxD P w K mg base ["page", "error"] "_law_told" (defScope s__law_told) f cdv A outer s H E) (WD E) (defBody s__law_told) (t__law_told a P w K mg base sp_read_file sp_show_file) := by
  have SC := sc__law_told
  exact (dss_one (ds_try_as rfl rfl SC.nd ⟨by rfl, by decide, .inl G.g_InvalidText⟩ tk (fun W pn xe tkT po => (dss_one (ds_ret (de_lst (da_cons (de_callD F_show_file (hr.mono (by decide)) (tkc tkT) (da_cons (de_callD F_read_file (hr.mono (by decide)) (tkc tkT) (da_cons (de_var 0) da_nil)) da_nil)) da_nil))))) (fun ea oe d pn fs gs hz hd hfs => (dss_one (ds_ret (de_tup (da_cons (de_xf G.x_InvalidText (G.xn_InvalidText_line) hz hd hfs (de_var 1)) (da_cons (de_xf G.x_InvalidText (G.xn_InvalidText_word) hz hd hfs (de_var 1)) da_nil))))))))
theorem fn__law_told {P : Program} {w : World} {K : PySem.W.Frag} {mg : Str → Option Value} {base : Heap} {a : Ad} (G : Gx P w K mg base a) {sp_read_file : SpD} (F_read_file : FnD P w K mg base 10 "read_file" 1 sp_read_file []) {sp_show_file : SpD} (F_show_file : FnD P w K mg base 6 "show_file" 1 sp_show_file []) {f : Addr} {fd : FuncData} {dvs : List V} {kws : List (Str × V)} (FD : FunD K "_law_told" "_law_told" (defArgs s__law_told) (defBody s__law_told) (defScope s__law_told) dvs kws f fd) {sp : SpD}
    (h : ∀ ds w' E Q, ds.length = 1 → sp ds w' E Q → t__law_told a P w K mg base sp_read_file sp_show_file (fun x _ w' => E x w') { nx := fun _ w' => Q .non w', rt := Q } (startD ["page", "error"] ds) w') : FnG P w K mg base 11 f fd ["page"] (toSp K 1 sp) :=
  fnG_of FD sc__law_told (t__law_told a P w K mg base sp_read_file sp_show_file) (fun cdv A outer s H E hr tk => d__law_told G F_read_file F_show_file cdv A outer s H E hr tk) h
abbrev s__law_due : Stmt := top 46
def t__law_due (a : Ad) (sp__law_file_wrong : SpD) : TSD := dSeq (dIfS (dNot (dTru (dCB isiD (dCons (dVar 0) (dCons (dC (.ty "str")) (dNil)))))) (dRet (dTup (dCons (dC (.int 0)) (dCons (dC (.int 0)) (dNil))))) (dNext)) (dSeq (dSet 1 (dCall 1 sp__law_file_wrong [] (dCons (dLc (iSeqL (dM1 splitD (dVar 0) (dC (.str "\n")))) (gdName 2) (dYes) (dM1 splitD (dVar 2) (dC (.str " "))) [2]) (dNil)))) (dRet (dIf (isNT (dVar 1)) (dLst (dCons (dVar 0) (dNil))) (dVar 1))))
theorem sc__law_due : FnScope ["page", "wrong", "line"] ["page"] (defScope s__law_due) := ⟨rfl, rfl, rfl, by decide +kernel, rfl, by decide +kernel, by decide +kernel⟩
theorem d__law_due {P : Program} {w : World} {K : PySem.W.Frag} {mg : Str → Option Value} {base : Heap} {a : Ad} (G : Gx P w K mg base a) {sp__law_file_wrong : SpD} (F__law_file_wrong : FnD P w K mg base 6 "_law_file_wrong" 1 sp__law_file_wrong []) {f : Addr} (cdv : Value) (A : Around) (outer : List Env) (s : Shared) (H : Hp) (E : XK) (hr : RoomG 6 (A.deeper (envOfC "_law_due" (defScope s__law_due) s.heap.objs.size f cdv))) (tk : Takes (cxD P w K mg base ["page", "wrong", "line"] "_law_due" (defScope s__law_due) f cdv A outer s H E) (WD E)) :
    DSs (cxD P w K mg base ["page", "wrong", "line"] "_law_due" (defScope s__law_due) f cdv A outer s H E) (WD E) (defBody s__law_due) (t__law_due a sp__law_file_wrong) := by
  have SC := sc__law_due
  exact (dss_cons (ds_if (dt_not (dt_tru (de_isi G.n_isinstance (da_cons (de_var 0) (da_cons (de_bty G.n_str (by kernel_rfl)) da_nil))))) (dss_one (ds_ret (de_tup (da_cons de_int (da_cons de_int da_nil))))) dss_nil) (dss_cons (ds_set (i := 1) SC.nd (de_callD F__law_file_wrong (hr.mono (by decide)) (tkc tk) (da_cons (de_lc (own := [("line", 2)]) rfl SC.nd (di_list (de_split (de_var 0) de_str)) (blkOk_by (by rfl)) (by decide) (fun _ _ _ _ _ => (dg_name SC.nd)) (fun _ _ _ _ _ => dts_nil) (fun _ _ _ _ _ => (de_split (de_var 2) de_str))) da_nil))) (dss_one (ds_ret (de_if (dt_isN (de_var 1)) (de_lst (da_cons (de_var 0) da_nil)) (de_var 1))))))
theorem fn__law_due {P : Program} {w : World} {K : PySem.W.Frag} {mg : Str → Option Value} {base : Heap} {a : Ad} (G : Gx P w K mg base a) {sp__law_file_wrong : SpD} (F__law_file_wrong : FnD P w K mg base 6 "_law_file_wrong" 1 sp__law_file_wrong []) {f : Addr} {fd : FuncData} {dvs : List V} {kws : List (Str × V)} (FD : FunD K "_law_due" "_law_due" (defArgs s__law_due) (defBody s__law_due) (defScope s__law_due) dvs kws f fd) {sp : SpD}
    (h : ∀ ds w' E Q, ds.length = 1 → sp ds w' E Q → t__law_due a sp__law_file_wrong (fun x _ w' => E x w') { nx := fun _ w' => Q .non w', rt := Q } (startD ["page", "wrong", "line"] ds) w') : FnG P w K mg base 7 f fd ["page"] (toSp K 1 sp) :=
  fnG_of FD sc__law_due (t__law_due a sp__law_file_wrong) (fun cdv A outer s H E hr tk => d__law_due G F__law_file_wrong cdv A outer s H E hr tk) h
abbrev s_law : Stmt := top 47
def t_law (a : Ad) (sp__law_bent : SpD) (sp__law_due : SpD) (sp__law_images : SpD) (sp__law_source : SpD) (sp__law_told : SpD) (sp_read_file : SpD) : TSD := dSeq (dSet 1 (dCall 1 sp__law_source [] (dCons (dVar 0) (dNil)))) (dSeq (dFor (iRngD1 (dCons (dC (.int 8)) (dNil))) (gdName 2) (dSeq (dSet 3 (dM1 joinD (dC (.str "\n")) (dCall 1 sp__law_images [] (dCons (dVar 1) (dNil))))) (dSeq (dIfS (dOr (dTest (dBin neRD (dCall 1 sp__law_told [] (dCons (dVar 3) (dNil))) (dLst (dCons (dVar 3) (dNil))))) (dTest (dBin neRD (dCall 1 sp__law_due [] (dCons (dVar 3) (dNil))) (dLst (dCons (dVar 3) (dNil)))))) (dRet (dC (.bl false))) (dNext)) (dFor (iRngD1 (dCons (dC (.int 9)) (dNil))) (gdName 4) (dSeq (dSet 5 (dCall 2 sp__law_bent [] (dCons (dVar 1) (dCons (dVar 3) (dNil))))) (dIfS (dTest (dBin neRD (dCB reprD (dCons (dCall 1 sp__law_told [] (dCons (dVar 5) (dNil))) (dNil))) (dCB reprD (dCons (dCall 1 sp__law_due [] (dCons (dVar 5) (dNil))) (dNil))))) (dRet (dC (.bl false))) (dNext))))))) (dRet (dAndV (dBin eqRD (dCall 1 sp_read_file [] (dCons (dC (.str "free")) (dNil))) (dTup (dCons (dTup (dCons (dC (.str "free")) (dNil))) (dNil)))) (dAndV (dBin eqRD (dCall 1 sp__law_told [] (dCons (dC (.str "inner 2")) (dNil))) (dTup (dCons (dC (.int 0)) (dCons (dC (.int 2)) (dNil))))) (dBin eqRD (dCall 1 sp__law_told [] (dCons (dC (.str "leaf - 4 =a~b")) (dNil))) (dTup (dCons (dC (.int 0)) (dCons (dC (.int 3)) (dNil)))))))))
theorem sc_law : FnScope ["script", "source", "turn", "page", "k", "thing"] ["script"] (defScope s_law) := ⟨rfl, rfl, rfl, by decide +kernel, rfl, by decide +kernel, by decide +kernel⟩
theorem d_law {P : Program} {w : World} {K : PySem.W.Frag} {mg : Str → Option Value} {base : Heap} {a : Ad} (G : Gx P w K mg base a) {sp__law_bent : SpD} (F__law_bent : FnD P w K mg base 4 "_law_bent" 2 sp__law_bent []) {sp__law_due : SpD} (F__law_due : FnD P w K mg base 7 "_law_due" 1 sp__law_due []) {sp__law_images : SpD} (F__law_images : FnD P w K mg base 4 "_law_images" 1 sp__law_images []) {sp__law_source : SpD} (F__law_source : FnD P w K mg base 2 "_law_source" 1 sp__law_source []) {sp__law_told : SpD} (F__law_told : FnD P w K mg base 11 "_law_told" 1 sp__law_told []) {sp_read_file : SpD} (F_read_file : FnD P w K mg base 10 "read_file" 1 sp_read_file []) {f : Addr} (cdv : Value) (A : Around) (outer : List Env) (s : Shared) (H : Hp) (E : XK) (hr : RoomG 11 (A.deeper (envOfC "law" (defScope s_law) s.heap.objs.size f cdv))) (tk : Takes (cxD P w K mg base ["script", "source", "turn", "page", "k", "thing"] "law" (defScope s_law) f cdv A outer s H E) (WD E)) :
    DSs (cxD P w K mg base ["script", "source", "turn", "page", "k", "thing"] "law" (defScope s_law) f cdv A outer s H E) (WD E) (defBody s_law) (t_law a sp__law_bent sp__law_due sp__law_images sp__law_source sp__law_told sp_read_file) := by
  have SC := sc_law
  have PO : PassesOwn (model P w) (A.deeper (envOfC "law" (defScope s_law) s.heap.objs.size f cdv)) (envOfC "law" (defScope s_law) s.heap.objs.size f cdv) (cxD P w K mg base ["script", "source", "turn", "page", "k", "thing"] "law" (defScope s_law) f cdv A outer s H E).xe := PassesOwn.leaving
  exact (dss_cons (ds_set (i := 1) SC.nd (de_callD F__law_source (hr.mono (by decide)) (tkc tk) (da_cons (de_var 0) da_nil))) (dss_cons (ds_for PO rfl (di_range1 G.n_range (da_cons de_int da_nil)) (dg_name SC.nd) (dss_cons (ds_set (i := 3) SC.nd (de_join de_str (de_callD F__law_images (hr.mono (by decide)) (tkc tk) (da_cons (de_var 1) da_nil)))) (dss_cons (ds_if (DW.dt (dw_or (dt_ne hr (de_callD F__law_told (hr.mono (by decide)) (tkc tk) (da_cons (de_var 3) da_nil)) (de_lst (da_cons (de_var 3) da_nil))) (dw_or1 (dt_ne hr (de_callD F__law_due (hr.mono (by decide)) (tkc tk) (da_cons (de_var 3) da_nil)) (de_lst (da_cons (de_var 3) da_nil)))))) (dss_one (ds_ret de_bl)) dss_nil) (dss_one (ds_for PO rfl (di_range1 G.n_range (da_cons de_int da_nil)) (dg_name SC.nd) (dss_cons (ds_set (i := 5) SC.nd (de_callD F__law_bent (hr.mono (by decide)) (tkc tk) (da_cons (de_var 1) (da_cons (de_var 3) da_nil)))) (dss_one (ds_if (dt_ne hr (de_repr hr G.n_repr (da_cons (de_callD F__law_told (hr.mono (by decide)) (tkc tk) (da_cons (de_var 5) da_nil)) da_nil)) (de_repr hr G.n_repr (da_cons (de_callD F__law_due (hr.mono (by decide)) (tkc tk) (da_cons (de_var 5) da_nil)) da_nil))) (dss_one (ds_ret de_bl)) dss_nil)))))))) (dss_one (ds_ret (de_and (de_eq hr (de_callD F_read_file (hr.mono (by decide)) (tkc tk) (da_cons de_str da_nil)) (de_tup (da_cons (de_tup (da_cons de_str da_nil)) da_nil))) (de_and (de_eq hr (de_callD F__law_told (hr.mono (by decide)) (tkc tk) (da_cons de_str da_nil)) (de_tup (da_cons de_int (da_cons de_int da_nil)))) (de_one (de_eq hr (de_callD F__law_told (hr.mono (by decide)) (tkc tk) (da_cons de_str da_nil)) (de_tup (da_cons de_int (da_cons de_int da_nil)))))))))))
theorem fn_law {P : Program} {w : World} {K : PySem.W.Frag} {mg : Str → Option Value} {base : Heap} {a : Ad} (G : Gx P w K mg base a) {sp__law_bent : SpD} (F__law_bent : FnD P w K mg base 4 "_law_bent" 2 sp__law_bent []) {sp__law_due : SpD} (F__law_due : FnD P w K mg base 7 "_law_due" 1 sp__law_due []) {sp__law_images : SpD} (F__law_images : FnD P w K mg base 4 "_law_images" 1 sp__law_images []) {sp__law_source : SpD} (F__law_source : FnD P w K mg base 2 "_law_source" 1 sp__law_source []) {sp__law_told : SpD} (F__law_told : FnD P w K mg base 11 "_law_told" 1 sp__law_told []) {sp_read_file : SpD} (F_read_file : FnD P w K mg base 10 "read_file" 1 sp_read_file []) {f : Addr} {fd : FuncData} {dvs : List V} {kws : List (Str × V)} (FD : FunD K "law" "law" (defArgs s_law) (defBody s_law) (defScope s_law) dvs kws f fd) {sp : SpD}
    (h : ∀ ds w' E Q, ds.length = 1 → sp ds w' E Q → t_law a sp__law_bent sp__law_due sp__law_images sp__law_source sp__law_told sp_read_file (fun x _ w' => E x w') { nx := fun _ w' => Q .non w', rt := Q } (startD ["script", "source", "turn", "page", "k", "thing"] ds) w') : FnG P w K mg base 12 f fd ["script"] (toSp K 1 sp) :=
  fnG_of FD sc_law (t_law a sp__law_bent sp__law_due sp__law_images sp__law_source sp__law_told sp_read_file) (fun cdv A outer s H E hr tk => d_law G F__law_bent F__law_due F__law_images F__law_source F__law_told F_read_file cdv A outer s H E hr tk) h
end K97
set_option Elab.async false
set_option linter.all false
set_option maxRecDepth 100000
set_option maxHeartbeats 1000000
/-! K97P1: the readers of words. -/
namespace K97
open PySem PySem.Spec PyProof.Rows L2 DL TL NumText
def sL : Nat := 1000000
theorem sL_line : sL ≤ sizeLine := by decide
def isDig (c : Nat) : Bool := decide (48 ≤ c ∧ c ≤ 57)
def numOk (l : List Nat) : Bool := decide (1 ≤ l.length ∧ l.length ≤ 15) && l.all isDig && (decide (l = [48]) || decide (l.head? ≠ some 48))
def numR (x : Str) : D := if numOk (tl x) then .int ((digitsVal (tl x) : Nat) : Int) else .non
def spNum : SpD := fun ds w _ Q => ∃ x : Str, ds = [.str x] ∧ x.length ≤ sL ∧ Q (numR x) w
theorem frz_of {d : D} {w : Wd} {Q : VKD} (h : Q d w) : ∃ x' w2, Frz d w x' w2 ∧ Q x' w2 := ⟨_, _, Frz.refl, h⟩
theorem allDig {l : List Nat} : l.all isDig = true ↔ AllDigits l := by
  unfold AllDigits isDig; simp
theorem dig_mem (c : Nat) : decide (c ∈ (Str.ofString "0123456789").cps.toList) = isDig c := by
  rw [show (Str.ofString "0123456789").cps.toList = [48, 49, 50, 51, 52, 53, 54, 55, 56, 57] by decide +kernel]
  unfold isDig
  rw [decide_eq_decide]
  simp
  omega
theorem pure_number_in {a : Ad} (ds : List D) (w : Wd) (E : XDp) (Q : VKD) (h : spNum ds w E Q) : t_number_in a (fun x _ w' => E x w') { nx := fun _ w' => Q .non w', rt := Q } (startD ["word", "sign"] ds) w := by
  obtain ⟨x, rfl, hx, q⟩ := h
  have h1 := len_tl x
  have h3 : x.cps.size = x.length := rfl
  have h2 : x.length ≤ sizeLine := Nat.le_trans hx sL_line
  unfold t_number_in
  simp [h2]
  by_cases c1 : (x.length : Int) < 1
  · refine .inl ⟨c1, frz_of ?_⟩
    rw [show numR x = .non by unfold numR numOk; rw [if_neg (by simp; intro; omega)]] at q
    exact q
  refine .inr ⟨by omega, ?_⟩
  by_cases c2 : (15 : Int) < x.length
  · refine .inl ⟨c2, frz_of ?_⟩
    rw [show numR x = .non by unfold numR numOk; rw [if_neg (by simp; intro; omega)]] at q
    exact q
  refine .inr ⟨by omega, ?_⟩
  refine lc_map1 (strD x) (fun d => match d with | .str y => .bl (decide (y.cps.toList.head?.getD 0 ∈ (Str.ofString "0123456789").cps.toList)) | _ => .non) (fun R h => ⟨_, rfl, x, rfl, h⟩) ?_ ?_ ?_
  · simp [strD]
    show x.length ≤ _
    omega
  · intro i d w' Q' hd hq
    unfold strD at hd
    rw [List.getElem?_map] at hd
    obtain ⟨c, hc, rfl⟩ := Option.map_eq_some_iff.mp hd
    simp at hq ⊢
    exact hq
  · have e : (strD x).map (fun d => match d with | .str y => .bl (decide (y.cps.toList.head?.getD 0 ∈ (Str.ofString "0123456789").cps.toList)) | _ => .non) = ((tl x).map isDig).map D.bl := by
      unfold strD
      rw [List.map_map, List.map_map]
      refine List.map_congr_left fun c _ => ?_
      exact congrArg D.bl (dig_mem c)
    rw [e]
    refine allD_lst ?_
    have e2 : ((tl x).map isDig).all id = (tl x).all isDig := by rw [List.all_map]; rfl
    rw [e2]
    show truD (.bl _) _ _
    simp only [truD_bl]
    by_cases c3 : (tl x).all isDig = true
    · rw [if_pos c3]
      have ne : tl x ≠ [] := fun z => by rw [h1, z] at c1; simp at c1
      obtain ⟨s, r, e3⟩ : ∃ s r, tl x = s :: r := by
        cases h : tl x with
        | nil => exact absurd h ne
        | cons s r => exact ⟨s, r, rfl⟩
      have e0 : tl (Str.ofString "0") = [48] := by decide +kernel
      have it := intText_digits (x := x) (allDig.1 c3) ne (by omega)
      have fin : numOk (tl x) = true → ∃ n, intText? x = some n ∧ x.length ≤ 640 ∧ ∃ x' w2, Frz (D.int n) w x' w2 ∧ Q x' w2 := fun ok =>
        ⟨_, it, by omega, frz_of (by rw [show numR x = .int _ by unfold numR; rw [if_pos ok]] at q; exact q)⟩
      have l1 : decide (1 ≤ (tl x).length ∧ (tl x).length ≤ 15) = true := decide_eq_true (by omega)
      by_cases z : x = Str.ofString "0"
      · refine .inr ⟨z, fin ?_⟩
        unfold numOk
        rw [l1, c3, str_eq_iff.1 z, e0]; rfl
      · refine .inl ⟨z, s, by rw [show x.cps.toList = tl x from rfl, e3, atI_zero], ?_⟩
        have es : (({ cps := #[s] } : Str) = Str.ofString "0") ↔ s = 48 := by
          rw [str_eq_iff, e0]; simp [tl]
        have z' : tl x ≠ [48] := fun h => z (str_eq_iff.2 (h.trans e0.symm))
        by_cases hs : s = 48
        · refine .inl ⟨es.2 hs, frz_of ?_⟩
          rw [show numR x = .non by unfold numR; rw [if_neg (by unfold numOk; rw [decide_eq_false z', e3, hs]; simp)]] at q
          exact q
        · refine .inr ⟨fun h => hs (es.1 h), fin ?_⟩
          unfold numOk
          rw [l1, c3, e3]
          simp [hs]
    · rw [if_neg c3]
      refine frz_of ?_
      rw [show numR x = .non by unfold numR numOk; rw [if_neg (by simp [c3])]] at q
      exact q
end K97
set_option Elab.async false
set_option linter.all false
set_option maxRecDepth 100000
set_option maxHeartbeats 1000000
namespace K97
open PySem PySem.Spec PyProof.Rows L2 DL TL NumText
def keyR (x : Str) : D := if (tl x).head? = some 45 then (match numR (mkS (tl x).tail) with | .int n => if n > 0 then .int (-n) else .non | _ => .non) else numR x
def spF1 (φ : Str → D) : SpD := fun ds w _ Q => ∃ x : Str, ds = [.str x] ∧ x.length ≤ sL ∧ Q (φ x) w
theorem take1_eq {l : List Nat} {c : Nat} : l.take 1 = [c] ↔ l.head? = some c := by cases l <;> simp
theorem mkS_eq {l : List Nat} {y : Str} : mkS l = y ↔ l = tl y := by rw [str_eq_iff]; rfl
theorem head_eq {x : Str} {c : Nat} {y : Str} (e : tl y = [c]) : (cutS x none (some 1) = y) ↔ (tl x).head? = some c := by
  rw [cut_head, mkS_eq, e, take1_eq]
theorem numR_cases (x : Str) : numR x = .non ∨ ∃ n : Nat, numR x = .int n := by
  unfold numR; split
  · exact .inr ⟨_, rfl⟩
  · exact .inl rfl
theorem tail_len (x : Str) : (mkS (tl x).tail).length ≤ x.length := by
  rw [len_mkS, len_tl x, List.length_tail]; omega
theorem pure_key_in {a : Ad} (ds : List D) (w : Wd) (E : XDp) (Q : VKD) (h : spF1 keyR ds w E Q) : t_key_in a spNum (fun x _ w' => E x w') { nx := fun _ w' => Q .non w', rt := Q } (startD ["word", "number"] ds) w := by
  obtain ⟨x, rfl, hx, q⟩ := h
  have h2 : x.length ≤ sizeLine := Nat.le_trans hx sL_line
  have h4 := tail_len x
  unfold t_key_in spNum
  simp [h2, head_eq (show tl (Str.ofString "-") = [45] by decide +kernel), cut_tail]
  have fin : keyR x = numR x → _ := fun e => (⟨hx, frz_of (by rw [e] at q; exact q)⟩ : x.length ≤ sL ∧ ∃ x' w2, Frz (numR x) w x' w2 ∧ Q x' w2)
  by_cases c : (tl x).head? = some 45
  · refine .inl ⟨c, Nat.le_trans h4 hx, ?_⟩
    unfold keyR at q
    rw [if_pos c] at q
    rcases numR_cases (mkS (tl x).tail) with e | ⟨n, e⟩
    · rw [e] at q ⊢
      exact frz_of q
    · rw [e] at q ⊢
      simp at q ⊢
      by_cases hn : n = 0
      · refine .inl ⟨hn, frz_of (by rw [if_neg (by omega)] at q; exact q)⟩
      · refine .inr ⟨by omega, frz_of (by rw [if_pos (by omega)] at q; exact q)⟩
  · exact .inr ⟨c, fin (by unfold keyR; rw [if_neg c])⟩
/-! need_word -/
def errD (a : Ad) (line word : D) : XC := .own a.c_InvalidText [("word", word), ("line", line)]
def spNeed (a : Ad) : SpD := fun ds w E Q => ∃ b line word, ds = [.bl b, line, word] ∧ if b = true then Q .non w else E (errD a line word) w
theorem pure_need_word {a : Ad} (ds : List D) (w : Wd) (E : XDp) (Q : VKD) (h : spNeed a ds w E Q) : t_need_word a (fun x _ w' => E x w') { nx := fun _ w' => Q .non w', rt := Q } (startD ["is_right", "line", "word"] ds) w := by
  obtain ⟨b, line, word, rfl, q⟩ := h
  unfold t_need_word
  cases b
  · simp at q ⊢
    unfold dRaise
    simp
    exact q
  · simp at q ⊢
    exact q
/-! string_in -/
def unE : Bool → List Nat → Option (List Nat)
  | false, [] => some []
  | true, [] => none
  | true, c :: r => if c = 95 then (unE false r).map (32 :: ·) else if c = 126 then (unE false r).map (126 :: ·) else none
  | false, c :: r => if c = 126 then unE true r else (unE false r).map (c :: ·)
theorem unE_t (c : Nat) (r : List Nat) : unE true (c :: r) = if c = 95 then (unE false r).map (32 :: ·) else if c = 126 then (unE false r).map (126 :: ·) else none := by rw [unE]
theorem unE_f (c : Nat) (r : List Nat) : unE false (c :: r) = if c = 126 then unE true r else (unE false r).map (c :: ·) := by rw [unE]
def strR (x : Str) : D := if (tl x).head? = some 61 then (match unE false (tl x).tail with | some l => .str (mkS l) | none => .non) else .non
theorem one_eq {s : Nat} {y : Str} {c : Nat} (e : tl y = [c]) : (({ cps := #[s] } : Str) = y) ↔ s = c := by
  rw [str_eq_iff, e]; simp [tl]
theorem look_esc (s : Nat) : List.lookup (⟨#[s]⟩ : Str) tab_ESCAPED = if s = 95 then some (.str (mkS [32])) else if s = 126 then some (.str (mkS [126])) else none := by
  have e1 : tl ("_" : Str) = [95] := by decide +kernel
  have e2 : tl ("~" : Str) = [126] := by decide +kernel
  have e3 : (" " : Str) = mkS [32] := by decide +kernel
  have e4 : ("~" : Str) = mkS [126] := by decide +kernel
  unfold tab_ESCAPED
  rw [List.lookup_cons, List.lookup_cons, List.lookup_nil]
  by_cases h1 : s = 95
  · rw [if_pos h1, show ((⟨#[s]⟩ : Str) == ("_" : Str)) = true from beq_iff_eq.2 ((one_eq e1).2 h1)]
    simp [e3]
  · rw [if_neg h1, show ((⟨#[s]⟩ : Str) == ("_" : Str)) = false from beq_eq_false_iff_ne.2 (fun z => h1 ((one_eq e1).1 z))]
    by_cases h2 : s = 126
    · rw [if_pos h2, show ((⟨#[s]⟩ : Str) == ("~" : Str)) = true from beq_iff_eq.2 ((one_eq e2).2 h2)]
      simp [e4]
    · rw [if_neg h2, show ((⟨#[s]⟩ : Str) == ("~" : Str)) = false from beq_eq_false_iff_ne.2 (fun z => h2 ((one_eq e2).1 z))]
theorem mkS_app (l m : List Nat) : mkS l ++ mkS m = mkS (l ++ m) := ext_tl (by rw [tl_append]; rfl)
theorem mkS_one (s : Nat) : (⟨#[s]⟩ : Str) = mkS [s] := rfl
theorem unE_step {acc r : List Nat} {o : Option (List Nat)} {s : Nat} (h : o = Option.map (acc ++ ·) ((unE false r).map (s :: ·))) : o = Option.map (acc ++ [s] ++ ·) (unE false r) := by
  rw [h, Option.map_map]
  congr 1
  funext z
  simp
theorem pure_string_in {a : Ad} (ds : List D) (w : Wd) (E : XDp) (Q : VKD) (h : spF1 strR ds w E Q) : t_string_in a (fun x _ w' => E x w') { nx := fun _ w' => Q .non w', rt := Q } (startD ["word", "found", "is_escaped", "sign"] ds) w := by
  obtain ⟨x, rfl, hx, q⟩ := h
  have h2 : x.length ≤ sizeLine := Nat.le_trans hx sL_line
  have h4 := tail_len x
  unfold t_string_in
  simp [h2, head_eq (show tl (Str.ofString "=") = [61] by decide +kernel), cut_tail]
  unfold strR at q
  by_cases c : (tl x).head? = some 61
  · rw [if_pos c] at q
    refine .inl ⟨c, ?_⟩
    unfold dFor
    simp [h2, cut_tail]
    generalize (tl x).tail = L at *
    have hL : (mkS L).length ≤ sizeLine := Nat.le_trans h4 h2
    refine ⟨fun i ρ w' => w' = w ∧ ∃ acc e o, ρ = [some (.str x), some (.str (mkS acc)), some (.bl e), o] ∧ unE false L = (unE e (L.drop i)).map (acc ++ ·) ∧ acc.length ≤ i, ⟨rfl, [], false, none, rfl, by simp, Nat.le_refl _⟩, fun i d ρ w' hd => ?_, fun ρ w' => ?_⟩
    · rintro ⟨rfl, acc, e, o, rfl, hu, hi⟩
      unfold strD at hd
      rw [List.getElem?_map] at hd
      obtain ⟨s, hs, rfl⟩ := Option.map_eq_some_iff.mp hd
      have hs' : L[i]? = some s := hs
      obtain ⟨hil, hg⟩ := List.getElem?_eq_some_iff.mp hs'
      have hdr : L.drop i = s :: L.drop (i + 1) := by rw [List.drop_eq_getElem_cons hil, hg]
      have hil' : i < sizeLine := Nat.lt_of_lt_of_le (by rw [len_mkS]; exact hil) hL
      have hacc : (mkS acc).length + 1 ≤ sizeLine := by rw [len_mkS]; omega
      have eT : tl (Str.ofString "~") = [126] := by decide +kernel
      rw [hdr] at hu
      cases e with
      | true =>
        simp [look_esc]
        rw [unE_t] at hu
        by_cases h1 : s = 95
        · subst h1
          rw [if_pos rfl] at hu
          simp
          refine ⟨hacc, acc ++ [32], by rw [mkS_app], unE_step hu, by simp; omega⟩
        · rw [if_neg h1] at hu
          by_cases h2 : s = 126
          · subst h2
            rw [if_pos rfl] at hu
            simp
            refine ⟨hacc, acc ++ [126], by rw [mkS_app], unE_step hu, by simp; omega⟩
          · rw [if_neg h2] at hu
            simp [h1, h2]
            refine frz_of ?_
            rw [hu] at q
            exact q
      | false =>
        simp [one_eq eT]
        rw [unE_f] at hu
        by_cases h2 : s = 126
        · rw [if_pos h2] at hu
          refine .inl ⟨h2, acc, rfl, hu, by omega⟩
        · rw [if_neg h2] at hu
          refine .inr ⟨h2, hacc, acc ++ [s], by rw [mkS_one, mkS_app], unE_step hu, by simp; omega⟩
    · rintro ⟨rfl, acc, e, o, rfl, hu, hi⟩
      have e0 : L.drop (strD (mkS L)).length = [] := by
        rw [show (strD (mkS L)).length = L.length by simp [strD, mkS], List.drop_length]
      rw [e0] at hu
      cases e with
      | true =>
        simp
        refine frz_of ?_
        rw [hu] at q
        exact q
      | false =>
        simp
        refine frz_of ?_
        rw [hu] at q
        simpa [unE] using q
  · rw [if_neg c] at q
    exact .inr ⟨c, frz_of q⟩
end K97
set_option Elab.async false
set_option linter.all false
set_option maxRecDepth 100000
set_option maxHeartbeats 1000000
namespace K97
open PySem PySem.Spec PyProof.Rows L2 DL TL NumText
def bef (c : Nat) (l : List Nat) : List Nat := l.takeWhile (· != c)
def aft (c : Nat) (l : List Nat) : List Nat := (l.dropWhile (· != c)).tail
theorem bef_free (c : Nat) (l : List Nat) : c ∉ bef c l := by
  unfold bef
  induction l with
  | nil => simp
  | cons d r ih =>
    rw [List.takeWhile_cons]
    by_cases h : d = c
    · simp [h]
    · simp [h, ih]
      exact fun e => h e.symm
theorem cut_cases (c : Nat) (l : List Nat) : (c ∉ l ∧ bef c l = l ∧ aft c l = []) ∨ l = bef c l ++ c :: aft c l := by
  have e := List.takeWhile_append_dropWhile (p := (· != c)) (l := l)
  unfold bef aft
  cases h : l.dropWhile (· != c) with
  | nil =>
    rw [h, List.append_nil] at e
    refine .inl ⟨fun hc => ?_, e, rfl⟩
    rw [← e] at hc
    exact bef_free c l hc
  | cons d r =>
    right
    have hd : d = c := by
      have := List.head?_dropWhile_not (p := (· != c)) l
      rw [h] at this
      simpa using this
    rw [h, hd] at e
    exact e.symm
theorem part_eq (x y : Str) (c : Nat) (ey : tl y = [c]) : ∃ z, Txt.partition x y = (mkS (bef c (tl x)), z, mkS (aft c (tl x))) := by
  rcases cut_cases c (tl x) with ⟨h1, h2, h3⟩ | h
  · refine ⟨Str.empty, ?_⟩
    rw [partition_none ey h1, h2, h3, mkS_tl]
    rfl
  · refine ⟨y, ?_⟩
    have ex : x = mkS (bef c (tl x)) ++ y ++ mkS (aft c (tl x)) := by
      refine ext_tl ?_
      rw [tl_append, tl_append, tl_mkS, tl_mkS, ey]
      simpa using h
    have := partition_app (y := y) (s := c) (S := []) ey (a := mkS (bef c (tl x))) (b := mkS (aft c (tl x))) (bef_free c (tl x))
    rw [← ex] at this
    exact this
theorem bef_len (c : Nat) (l : List Nat) : (bef c l).length ≤ l.length := (List.takeWhile_sublist _).length_le
theorem aft_len (c : Nat) (l : List Nat) : (aft c l).length ≤ l.length := by
  unfold aft
  rw [List.length_tail]
  have := (List.dropWhile_sublist (p := (· != c)) (l := l)).length_le
  omega
def heldR (x : Str) : D := if (tl x).head? = some 64 then (match numR (mkS (bef 58 (tl x).tail)), numR (mkS (aft 58 (tl x).tail)) with | .int i, .int j => .tup [.str "at", .int i, .int j] | _, _ => .non) else strR x
@[simp] theorem inD_tup2 {x y : D} {w : Wd} {Q : VKD} : inD false .non (.tup [x, y]) w Q ↔ flatD x = true ∧ flatD y = true ∧ Q (.bl (inV .non [toV x, toV y])) w := by
  show (∃ ds, seqD w (.tup [x, y]) = some ds ∧ _) ↔ _
  constructor
  · rintro ⟨_, h, _, k, q⟩; cases h; simp at k; exact ⟨k.1, k.2, q⟩
  · rintro ⟨a, b, q⟩; exact ⟨_, rfl, rfl, by simp [a, b], q⟩
theorem pure_held_in {a : Ad} (ds : List D) (w : Wd) (E : XDp) (Q : VKD) (h : spF1 heldR ds w E Q) : t_held_in a spNum (spF1 strR) (fun x _ w' => E x w') { nx := fun _ w' => Q .non w', rt := Q } (startD ["word", "page", "colon", "length", "numbers"] ds) w := by
  obtain ⟨x, rfl, hx, q⟩ := h
  have h2 : x.length ≤ sizeLine := Nat.le_trans hx sL_line
  have h4 := tail_len x
  unfold t_held_in spNum spF1
  simp [h2, head_eq (show tl (Str.ofString "@") = [64] by decide +kernel), cut_tail]
  unfold heldR at q
  by_cases c : (tl x).head? = some 64
  · rw [if_pos c] at q
    refine .inl ⟨c, ?_⟩
    generalize (tl x).tail = L at *
    unfold partD
    have ec : tl (Str.ofString ":") = [58] := by decide +kernel
    obtain ⟨z, hp⟩ := part_eq (mkS L) _ 58 ec
    refine ⟨_, _, rfl, rfl, by decide +kernel, Nat.le_trans h4 h2, ?_⟩
    rw [hp, tl_mkS]
    have hb : (mkS (bef 58 L)).length ≤ sL := by
      have := bef_len 58 L
      rw [len_mkS] at h4 ⊢
      omega
    have ha : (mkS (aft 58 L)).length ≤ sL := by
      have := aft_len 58 L
      rw [len_mkS] at h4 ⊢
      omega
    simp [hb, ha]
    have b2 : 2 ≤ sizeLine := by decide
    have b3 : 3 ≤ sizeLine := by decide
    refine ⟨b2, ?_⟩
    rcases numR_cases (mkS (bef 58 L)) with e1 | ⟨n, e1⟩ <;> rcases numR_cases (mkS (aft 58 L)) with e2 | ⟨m, e2⟩ <;> rw [e1, e2] at q ⊢
    · exact ⟨rfl, rfl, .inr ⟨by simp [inV, eqV, toV], frz_of q⟩⟩
    · exact ⟨rfl, rfl, .inr ⟨by simp [inV, eqV, toV], frz_of q⟩⟩
    · exact ⟨rfl, rfl, .inr ⟨by simp [inV, eqV, toV], frz_of q⟩⟩
    · exact ⟨rfl, rfl, .inl ⟨by simp [inV, eqV, toV], by simpa using b3, frz_of q⟩⟩
  · rw [if_neg c] at q
    exact .inr ⟨c, hx, frz_of q⟩
end K97
set_option Elab.async false
set_option linter.all false
set_option maxRecDepth 100000
set_option maxHeartbeats 1000000
namespace K97
open PySem PySem.Spec PyProof.Rows L2 DL TL NumText
def LnF (ws : List Str) (n k : Nat) : List (Str × D) := [("words", .lst (ws.map .str)), ("line", .int n), ("at", .int k)]
def Ln (a : Ad) (p : Addr) (ws : List Str) (n k : Nat) (w : Wd) : Prop := w p = some (.ins a.c_Line (LnF ws n k))
theorem lf_words {ws : List Str} {n k : Nat} : List.lookup ("words" : Str) (LnF ws n k) = some (.lst (ws.map .str)) := by rfl
theorem lf_line {ws : List Str} {n k : Nat} : List.lookup ("line" : Str) (LnF ws n k) = some (.int n) := by rfl
theorem lf_at {ws : List Str} {n k : Nat} : List.lookup ("at" : Str) (LnF ws n k) = some (.int k) := by rfl
theorem lf_o1 {ws : List Str} {n k : Nat} : List.lookup ("is_over" : Str) (LnF ws n k) = none := by rfl
theorem lf_o2 {ws : List Str} {n k : Nat} : List.lookup ("take_word" : Str) (LnF ws n k) = none := by rfl
theorem lf_o3 {ws : List Str} {n k : Nat} : List.lookup ("take_link" : Str) (LnF ws n k) = none := by rfl
theorem lf_o4 {ws : List Str} {n k : Nat} : List.lookup ("take_rest" : Str) (LnF ws n k) = none := by rfl
theorem lf_o5 {ws : List Str} {n k : Nat} : List.lookup ("finished" : Str) (LnF ws n k) = none := by rfl
theorem lf_put {ws : List Str} {n k : Nat} : putD "at" (.int ((k : Int) + 1)) (LnF ws n k) = LnF ws n (k + 1) := by rfl
theorem put1 {d : D} : putD "words" d [] = [(("words" : Str), d)] := by rfl
theorem put2 {d e : D} : putD "line" e [(("words" : Str), d)] = [(("words" : Str), d), (("line" : Str), e)] := by rfl
theorem put3 {d e f : D} : putD "at" f [(("words" : Str), d), (("line" : Str), e)] = [(("words" : Str), d), (("line" : Str), e), (("at" : Str), f)] := by rfl
def spInit (a : Ad) : SpD := fun ds w _ Q => ∃ (p : Addr) (ws : List Str) (n : Nat), ds = [.ref p, .lst (ws.map .str), .int n, .int 0] ∧ w p = some (.ins a.c_Line []) ∧ Q .non (wupd w p (.ins a.c_Line (LnF ws n 0)))
theorem pure_init {a : Ad} (ds : List D) (w : Wd) (E : XDp) (Q : VKD) (h : spInit a ds w E Q) : t_Line___init__ a (fun x _ w' => E x w') { nx := fun _ w' => Q .non w', rt := Q } (startD ["self", "words", "line", "start"] ds) w := by
  obtain ⟨p, ws, n, rfl, hp, q⟩ := h
  unfold t_Line___init__ dFldSet
  simp
  refine ⟨[], hp, by decide, ?_⟩
  rw [put1, put2, put3]
  exact ⟨by simp, by simp, q⟩
def spOver (a : Ad) : SpD := fun ds w _ Q => ∃ (p : Addr) (ws : List Str) (n k : Nat), ds = [.ref p] ∧ Ln a p ws n k w ∧ Q (.bl (decide (k = ws.length))) w
theorem pure_over {a : Ad} (ds : List D) (w : Wd) (E : XDp) (Q : VKD) (h : spOver a ds w E Q) : t_Line_is_over a (fun x _ w' => E x w') { nx := fun _ w' => Q .non w', rt := Q } (startD ["self"] ds) w := by
  obtain ⟨p, ws, n, k, rfl, hp, q⟩ := h
  unfold t_Line_is_over dFld
  simp
  refine ⟨_, hp, _, lf_at, _, hp, _, lf_words, ?_⟩
  simp
  refine frz_of ?_
  rw [show (decide ((k : Int) = ws.length)) = decide (k = ws.length) by rw [decide_eq_decide]; omega]
  exact q
section
variable {P : Program} {w0 : World} {K : PySem.W.Frag} {mg : Str → Option Value} {base : Heap}
def Rdr (P : Program) (w0 : World) (K : PySem.W.Frag) (mg : Str → Option Value) (base : Heap) (w : Wd) (g : Addr) (φ : Str → D) : Prop :=
  (∃ sp, Fnv P w0 K mg base 5 1 g sp ∧ ∀ x w E Q, x.length ≤ sL → Q (φ x) w → sp [.str x] w E Q) ∨ ∃ tx, LamW w qL lpL lbL lsL g tx ∧ φ = fun x => if tx.any (· == x) = true then .str x else .non
def rd (φ : Str → D) (x : Str) : Option D := if isNon (φ x) = true then none else some (φ x)
def takeR (ρ : Str → Option D) (ws : List Str) (k : Nat) : Option D := (ws[k]?).bind ρ
def Sz (ws : List Str) : Prop := ws.length ≤ sL ∧ ∀ x ∈ ws, x.length ≤ sL
def LnW (a : Ad) (p : Addr) (ws : List Str) (n k : Nat) (w : Wd) : Wd := wupd w p (.ins a.c_Line (LnF ws n k))
def onTake (a : Ad) (p : Addr) (ws : List Str) (n k : Nat) (w : Wd) (E : XDp) (Q : VKD) : Option D → Prop
  | some d => Q d (LnW a p ws n (k + 1) w)
  | none => E (errD a (.int n) (.int k)) w
def spTake (P : Program) (w0 : World) (K : PySem.W.Frag) (mg : Str → Option Value) (base : Heap) (a : Ad) : SpD := fun ds w E Q => ∃ (p g : Addr) (ws : List Str) (n k : Nat) (φ : Str → D), ds = [.ref p, .ref g] ∧ Ln a p ws n k w ∧ Sz ws ∧ k ≤ ws.length ∧ Rdr P w0 K mg base w g φ ∧ onTake a p ws n k w E Q (takeR (rd φ) ws k)
theorem atI_nat {α : Type} {l : List α} {k : Nat} {x : α} (h : l[k]? = some x) : atI l (k : Int) = some x := by
  obtain ⟨hk, _⟩ := List.getElem?_eq_some_iff.mp h
  unfold atI ixN
  rw [if_pos (by omega), if_pos (by omega)]
  simpa using h
theorem fldAt {a : Ad} {p : Addr} {ws : List Str} {n k : Nat} {w : Wd} {E : XD} {r : Rho} {Q : VKD} (h : Ln a p ws n k w) : dFld a.c_Line "at" (dVar 0) E (some (.ref p) :: r) w Q ↔ Q (.int k) w := by
  constructor
  · rintro ⟨_, h1, a', fs, d, h2, h3, h4, q⟩
    cases h1; cases h2
    cases h.symm.trans h3
    cases lf_at.symm.trans h4
    exact q
  · intro q; exact ⟨_, rfl, _, _, _, rfl, h, lf_at, q⟩
theorem fldWords {a : Ad} {p : Addr} {ws : List Str} {n k : Nat} {w : Wd} {E : XD} {r : Rho} {Q : VKD} (h : Ln a p ws n k w) : dFld a.c_Line "words" (dVar 0) E (some (.ref p) :: r) w Q ↔ Q (.lst (ws.map .str)) w := by
  constructor
  · rintro ⟨_, h1, a', fs, d, h2, h3, h4, q⟩
    cases h1; cases h2
    cases h.symm.trans h3
    cases lf_words.symm.trans h4
    exact q
  · intro q; exact ⟨_, rfl, _, _, _, rfl, h, lf_words, q⟩
theorem fldLine {a : Ad} {p : Addr} {ws : List Str} {n k : Nat} {w : Wd} {E : XD} {r : Rho} {Q : VKD} (h : Ln a p ws n k w) : dFld a.c_Line "line" (dVar 0) E (some (.ref p) :: r) w Q ↔ Q (.int n) w := by
  constructor
  · rintro ⟨_, h1, a', fs, d, h2, h3, h4, q⟩
    cases h1; cases h2
    cases h.symm.trans h3
    cases lf_line.symm.trans h4
    exact q
  · intro q; exact ⟨_, rfl, _, _, _, rfl, h, lf_line, q⟩
theorem methOver {a : Ad} {p : Addr} {ws : List Str} {n k : Nat} {w : Wd} {E : XD} {r : Rho} {Q : VKD} (h : Ln a p ws n k w) : dMeth a.c_Line "is_over" 1 (spOver a) [] (dVar 0) dNil E (some (.ref p) :: r) w Q ↔ Q (.bl (decide (k = ws.length))) w := by
  constructor
  · rintro ⟨_, h1, a', fs, h2, h3, h4, _, p', ws', n', k', e, h5, q⟩
    cases h1; cases h2; cases e
    have := h.symm.trans h5
    unfold LnF at this
    simp at this
    obtain ⟨z1, _, z2⟩ := this
    have z3 : ws = ws' := (List.map_inj_right (fun _ _ h => by injection h)).1 z1
    have z4 : k = k' := by omega
    rw [z4, z3]; exact q
  · intro q; exact ⟨_, rfl, _, _, rfl, h, lf_o1, rfl, p, ws, n, k, rfl, h, q⟩
theorem fldInc {a : Ad} {p : Addr} {ws : List Str} {n k : Nat} {w : Wd} {E : XD} {r : Rho} {De : EndsD} (h : Ln a p ws n k w) (q : De.nx (some (.ref p) :: r) (LnW a p ws n (k + 1) w)) : dFldAug a.c_Line "at" (dVar 0) (dC (.int 1)) (fun i j => i + j) E De (some (.ref p) :: r) w :=
  ⟨_, rfl, _, _, _, rfl, h, lf_at, _, _, rfl, h, (by show 3 < 1000; decide), by rw [lf_put]; exact q⟩
@[simp] theorem need_iff {a : Ad} {b : Bool} {l x : D} {w : Wd} {E : XDp} {Q : VKD} : spNeed a [.bl b, l, x] w E Q ↔ if b = true then Q .non w else E (errD a l x) w := by
  constructor
  · rintro ⟨_, _, _, e, q⟩; cases e; exact q
  · intro q; exact ⟨_, _, _, rfl, q⟩
theorem call_rdr {w : Wd} {g : Addr} {φ : Str → D} {x : Str} {i : Nat} {r : TAD} {E : XD} {ρ : Rho} {Q : VKD} (h : Rdr P w0 K mg base w g φ) (hi : ρ[i]? = some (some (.ref g))) (hr : ∀ R : List D → Wd → Prop, R [.str x] w → r E ρ w R) (hx : x.length ≤ sL) (q : Q (φ x) w) : dCallVL P w0 K mg base 5 i qL lpL lbL lsL r E ρ w Q := by
  rcases h with ⟨sp, F, hs⟩ | ⟨tx, hl, rfl⟩
  · exact .inl ⟨g, sp, hi, F, hr _ ⟨rfl, hs x w _ Q hx q⟩⟩
  · exact .inr ⟨g, tx, hi, hl, hr _ ⟨x, rfl, hl, q⟩⟩
theorem pure_take {a : Ad} (ds : List D) (w : Wd) (E : XDp) (Q : VKD) (h : spTake P w0 K mg base a ds w E Q) : t_Line_take_word a P w0 K mg base (spOver a) (spNeed a) (fun x _ w' => E x w') { nx := fun _ w' => Q .non w', rt := Q } (startD ["self", "read", "found"] ds) w := by
  obtain ⟨p, g, ws, n, k, φ, rfl, hp, ⟨hs1, hs2⟩, hk, hr, q⟩ := h
  unfold t_Line_take_word
  rw [show startD ["self", "read", "found"] [D.ref p, D.ref g] = [some (.ref p), some (.ref g), none] from rfl]
  simp only [dSeq_eq, dDrop_eq, dCall_eq, dCons_eq, dNil_eq, dNotV_eq, List.map_cons, List.map_nil, List.cons_append, List.nil_append, methOver hp]
  refine ⟨_, rfl, ?_⟩
  simp only [fldAt hp, fldLine hp, need_iff, List.append_nil]
  refine ⟨rfl, ?_⟩
  by_cases hl : k = ws.length
  · rw [decide_eq_true hl, if_neg (by decide)]
    rw [show takeR (rd φ) ws k = none by unfold takeR; rw [List.getElem?_eq_none (by omega)]; rfl] at q
    exact q
  · rw [decide_eq_false hl, if_pos (by rfl)]
    obtain ⟨x, hx⟩ : ∃ x, ws[k]? = some x := ⟨ws[k]'(by omega), List.getElem?_eq_getElem (by omega)⟩
    have hxl : x.length ≤ sL := hs2 x (List.mem_of_getElem? hx)
    have hat : atI (ws.map D.str) (k : Int) = some (.str x) := atI_nat (by rw [List.getElem?_map, hx]; rfl)
    rw [show takeR (rd φ) ws k = rd φ x by unfold takeR; rw [hx]; rfl] at q
    refine call_rdr (x := x) hr rfl (fun R h => ?_) hxl ?_
    · simp only [dCons_eq, dNil_eq, dBin_eq, fldWords hp, fldAt hp, ixD_lst]
      exact ⟨_, hat, h⟩
    · simp only [dSeq_eq, dDrop_eq, dCall_eq, dCons_eq, dNil_eq, notND_eq, dVar_eq, List.set_cons_succ, List.set_cons_zero]
      refine ⟨_, rfl, ?_⟩
      simp only [fldAt hp, fldLine hp, need_iff, List.append_nil]
      refine ⟨rfl, ?_⟩
      unfold rd at q
      by_cases hn : isNon (φ x) = true
      · rw [if_pos hn] at q
        rw [hn]
        exact q
      · rw [if_neg hn] at q
        rw [show (!isNon (φ x)) = true by simpa using hn, if_pos rfl]
        refine fldInc hp ?_
        exact ⟨_, rfl, frz_of q⟩
/-! take_link, finished -/
def lnk (x : Str) : Option D := if x = "-" then some .non else rd numR x
/-- the def at g is number_in, as a reader -/
def RdN (P : Program) (w0 : World) (K : PySem.W.Frag) (mg : Str → Option Value) (base : Heap) (g : Addr) (φ : Str → D) : Prop := ∃ sp, Fnv P w0 K mg base 5 1 g sp ∧ ∀ x w E Q, x.length ≤ sL → Q (φ x) w → sp [.str x] w E Q
theorem RdN.rdr {g : Addr} {φ : Str → D} (h : RdN P w0 K mg base g φ) (w : Wd) : Rdr P w0 K mg base w g φ := .inl h
theorem methTake {a : Ad} {p g : Addr} {ws : List Str} {n k : Nat} {w : Wd} {φ : Str → D} {E : XD} {r : Rho} {rr : TAD} {Q : VKD} (h : Ln a p ws n k w) (hs : Sz ws) (hk : k ≤ ws.length) (hr : Rdr P w0 K mg base w g φ) (hrr : ∀ R : List D → Wd → Prop, R [.ref g] w → rr E (some (.ref p) :: r) w R)
    (q : onTake a p ws n k w (fun x w' => E x (some (.ref p) :: r) w') Q (takeR (rd φ) ws k)) : dMeth a.c_Line "take_word" 2 (spTake P w0 K mg base a) [] (dVar 0) rr E (some (.ref p) :: r) w Q :=
  ⟨_, rfl, _, _, rfl, h, lf_o2, hrr _ ⟨rfl, p, g, ws, n, k, φ, rfl, h, hs, hk, hr, q⟩⟩
def spLink (a : Ad) : SpD := fun ds w E Q => ∃ (p : Addr) (ws : List Str) (n k : Nat), ds = [.ref p] ∧ Ln a p ws n k w ∧ Sz ws ∧ k ≤ ws.length ∧ onTake a p ws n k w E Q (takeR lnk ws k)
theorem pure_link {a : Ad} (hN : RdN P w0 K mg base a.f_number_in numR) (ds : List D) (w : Wd) (E : XDp) (Q : VKD) (h : spLink a ds w E Q) : t_Line_take_link a (spOver a) (spTake P w0 K mg base a) (fun x _ w' => E x w') { nx := fun _ w' => Q .non w', rt := Q } (startD ["self"] ds) w := by
  obtain ⟨p, ws, n, k, rfl, hp, hs, hk, q⟩ := h
  unfold t_Line_take_link
  rw [show startD ["self"] [D.ref p] = [some (.ref p)] from rfl]
  simp only [dSeq_eq, dIfS_eq, dAnd_eq, dNot_eq, dTru_eq, methOver hp, truD_bl]
  have go : takeR lnk ws k = takeR (rd numR) ws k → dRet (dMeth a.c_Line "take_word" 2 (spTake P w0 K mg base a) [] (dVar 0) (dCons (dC (.ref a.f_number_in)) dNil)) (fun x _ w' => E x w') { nx := fun _ w' => Q .non w', rt := Q } [some (.ref p)] w := fun e => by
    simp only [dRet_eq]
    refine methTake hp hs hk (hN.rdr w) (fun R h => h) ?_
    rw [e] at q
    cases ht : takeR (rd numR) ws k with
    | none => rw [ht] at q; exact q
    | some d => rw [ht] at q; exact frz_of q
  by_cases hl : k = ws.length
  · rw [decide_eq_true hl]
    exact go (by unfold takeR; rw [List.getElem?_eq_none (by omega)]; rfl)
  · rw [decide_eq_false hl]
    obtain ⟨x, hx⟩ : ∃ x, ws[k]? = some x := ⟨ws[k]'(by omega), List.getElem?_eq_getElem (by omega)⟩
    have hat : atI (ws.map D.str) (k : Int) = some (.str x) := atI_nat (by rw [List.getElem?_map, hx]; rfl)
    simp only [Bool.not_false, if_true, dTest_eq, dBin_eq, fldWords hp, fldAt hp, ixD_lst, dC_eq]
    refine ⟨_, hat, _, rfl, ?_⟩
    by_cases hd : x = "-"
    · rw [decide_eq_true hd, if_pos rfl]
      refine fldInc hp ?_
      rw [show takeR lnk ws k = some .non by unfold takeR; rw [hx]; show lnk x = _; unfold lnk; rw [if_pos hd]] at q
      exact frz_of q
    · rw [decide_eq_false hd, if_neg (by decide)]
      exact go (by unfold takeR; rw [hx]; show lnk x = rd numR x; unfold lnk; rw [if_neg hd])
def spFin (a : Ad) : SpD := fun ds w E Q => ∃ (p : Addr) (ws : List Str) (n k : Nat) (d : D), ds = [.ref p, d] ∧ Ln a p ws n k w ∧ if k = ws.length then Q d w else E (errD a (.int n) (.int k)) w
theorem pure_fin {a : Ad} (ds : List D) (w : Wd) (E : XDp) (Q : VKD) (h : spFin a ds w E Q) : t_Line_finished a (spOver a) (spNeed a) (fun x _ w' => E x w') { nx := fun _ w' => Q .non w', rt := Q } (startD ["self", "found"] ds) w := by
  obtain ⟨p, ws, n, k, d, rfl, hp, q⟩ := h
  unfold t_Line_finished
  rw [show startD ["self", "found"] [D.ref p, d] = [some (.ref p), some d] from rfl]
  simp only [dSeq_eq, dDrop_eq, dCall_eq, dCons_eq, dNil_eq, methOver hp, fldAt hp, fldLine hp, need_iff, List.append_nil]
  refine ⟨rfl, ?_⟩
  by_cases hl : k = ws.length
  · rw [if_pos hl] at q
    rw [decide_eq_true hl, if_pos rfl]
    exact ⟨_, rfl, frz_of q⟩
  · rw [if_neg hl] at q
    rw [decide_eq_false hl, if_neg (by decide)]
    exact q
end
end K97
set_option Elab.async false
set_option linter.all false
set_option maxRecDepth 100000
set_option maxHeartbeats 1000000
namespace K97
open PySem PySem.Spec PyProof.Rows L2 DL TL NumText
def reads (ρ : Nat → Str → Option D) : List Str → Nat → Except Nat (List D)
  | [], _ => .ok []
  | x :: r, k => match ρ k x with
    | none => .error k
    | some d => (reads ρ r (k + 1)).map (d :: ·)
theorem reads_cons {ρ : Nat → Str → Option D} {x : Str} {r : List Str} {k : Nat} : reads ρ (x :: r) k = match ρ k x with
    | none => .error k
    | some d => (reads ρ r (k + 1)).map (d :: ·) := rfl
theorem seqD_ref {w : Wd} {l : Addr} {ds : List D} (h : w l = some (.lst ds)) : seqD w (.ref l) = some ds := by
  show doLst (w l) = _
  rw [h]; rfl
def Out (p : Addr) (w w' : Wd) : Prop := ∀ b o, w b = some o → b ≠ p → w' b = some o
theorem Out.refl (p : Addr) (w : Wd) : Out p w w := fun b o h _ => h
theorem wupd_comm {w : Wd} {a b : Addr} {o u : DO} (h : a ≠ b) : wupd (wupd w a o) b u = wupd (wupd w b u) a o := by
  funext c
  unfold wupd
  by_cases h1 : c = b
  · by_cases h2 : c = a
    · exact absurd (h2.symm.trans h1) h
    · simp [h1, h2, Ne.symm h]
  · simp [h1]
theorem Ln_self {a : Ad} {p : Addr} {ws : List Str} {n k : Nat} {w : Wd} (h : Ln a p ws n k w) : LnW a p ws n k w = w := wupd_self h
theorem Ln_LnW {a : Ad} {p : Addr} {ws : List Str} {n k : Nat} {w : Wd} : Ln a p ws n k (LnW a p ws n k w) := wupd_same
theorem Ln_upd {a : Ad} {p l : Addr} {ws : List Str} {n k : Nat} {w : Wd} {o : DO} (h : Ln a p ws n k w) (hl : l ≠ p) : Ln a p ws n k (wupd w l o) := by
  show wupd w l o p = _
  rw [wupd_ne (Ne.symm hl)]; exact h
theorem LnW_LnW {a : Ad} {p : Addr} {ws : List Str} {n k j : Nat} {w : Wd} : LnW a p ws n k (LnW a p ws n j w) = LnW a p ws n k w := wupd_upd
theorem LnW_upd {a : Ad} {p l : Addr} {ws : List Str} {n k : Nat} {w : Wd} {o : DO} (hl : l ≠ p) : LnW a p ws n k (wupd w l o) = wupd (LnW a p ws n k w) l o := wupd_comm hl
theorem ne_Ln {a : Ad} {p l : Addr} {ws : List Str} {n k : Nat} {w : Wd} (h : Ln a p ws n k w) (hl : w l = none) : l ≠ p := fun z => by
  rw [z] at hl; exact absurd (hl.symm.trans h) (by simp)
theorem drop_at {ws : List Str} {j : Nat} {x : Str} (h : ws[j]? = some x) : ws.drop j = x :: ws.drop (j + 1) := by
  obtain ⟨h1, h2⟩ := List.getElem?_eq_some_iff.mp h
  rw [List.drop_eq_getElem_cons h1, h2]
theorem Out_LnW {a : Ad} {p l : Addr} {ws : List Str} {n k : Nat} {w : Wd} {o : DO} (hl : w l = none) : Out p w (wupd (LnW a p ws n k w) l o) := fun b u h hb => by
  rw [wupd_ne (fun z => by rw [z, hl] at h; cases h)]
  unfold LnW
  rw [wupd_ne hb]; exact h
section
variable {P : Program} {w0 : World} {K : PySem.W.Frag} {mg : Str → Option Value} {base : Heap}
def onReads (a : Ad) (p : Addr) (ws : List Str) (n : Nat) (w : Wd) (E : XDp) (Q : VKD) (f : List D → D) : Except Nat (List D) → Prop
  | .ok ds => Q (f ds) (LnW a p ws n ws.length w)
  | .error j => ∀ w', Out p w w' → E (errD a (.int n) (.int j)) w'
def spRest (P : Program) (w0 : World) (K : PySem.W.Frag) (mg : Str → Option Value) (base : Heap) (a : Ad) : SpD := fun ds w E Q => ∃ (p g : Addr) (ws : List Str) (n k : Nat) (φ : Str → D), ds = [.ref p, .ref g] ∧ Ln a p ws n k w ∧ Sz ws ∧ k ≤ ws.length ∧ RdN P w0 K mg base g φ ∧ onReads a p ws n w E Q .tup (reads (fun _ => rd φ) (ws.drop k) k)
theorem map_map_ex {α : Type} {e : Except Nat (List α)} {f g : List α → List α} : (e.map g).map f = e.map (fun x => f (g x)) := by cases e <;> rfl
theorem pure_rest {a : Ad} (ds : List D) (w : Wd) (E : XDp) (Q : VKD) (h : spRest P w0 K mg base a ds w E Q) : t_Line_take_rest a (spOver a) (spTake P w0 K mg base a) (fun x _ w' => E x w') { nx := fun _ w' => Q .non w', rt := Q } (startD ["self", "read", "found"] ds) w := by
  obtain ⟨p, g, ws, n, k, φ, rfl, hp, hs, hk, hr, q⟩ := h
  unfold t_Line_take_rest
  rw [show startD ["self", "read", "found"] [D.ref p, D.ref g] = [some (.ref p), some (.ref g), none] from rfl]
  simp only [dSeq_eq, dSet_eq, dLstW_eq, dNil_eq, List.set_cons_succ, List.set_cons_zero]
  refine ⟨by decide, fun l hl => ?_⟩
  have lp := ne_Ln hp hl
  refine ⟨fun m ρ w' => ∃ j acc, m = ws.length - j ∧ k ≤ j ∧ j ≤ ws.length ∧ ρ = [some (.ref p), some (.ref g), some (.ref l)] ∧ w' = wupd (LnW a p ws n j w) l (.lst acc) ∧ reads (fun _ => rd φ) (ws.drop k) k = (reads (fun _ => rd φ) (ws.drop j) j).map (acc ++ ·) ∧ acc.length ≤ j, ⟨ws.length - k, k, [], rfl, Nat.le_refl _, hk, rfl, by rw [Ln_self hp], ?_, Nat.zero_le _⟩, ?_⟩
  · cases reads (fun _ => rd φ) (ws.drop k) k <;> rfl
  rintro m ρ w' ⟨j, acc, rfl, hj, hjl, rfl, rfl, he, ha⟩
  have hp' : Ln a p ws n j (wupd (LnW a p ws n j w) l (.lst acc)) := Ln_upd Ln_LnW lp
  simp only [dNot_eq, dTru_eq, methOver hp', truD_bl]
  by_cases hl' : j = ws.length
  · rw [decide_eq_true hl', if_neg (by decide)]
    have : reads (fun _ => rd φ) (ws.drop k) k = .ok acc := by rw [he, hl', List.drop_length]; simp [reads, Except.map]
    rw [this] at q
    simp only [dRet_eq, dCB_eq, dCons_eq, dNil_eq, dVar_eq]
    refine ⟨_, rfl, _, acc, rfl, ?_, _, LnW a p ws n ws.length w, Frz.weak fun b o hb => ?_, q⟩
    · exact seqD_ref wupd_same
    · rw [← hl'] at hb
      by_cases hbl : b = l
      · exfalso
        unfold LnW at hb
        rw [hbl, wupd_ne lp, hl] at hb
        cases hb
      · rw [wupd_ne hbl]; exact hb
  · rw [decide_eq_false hl', if_pos (by rfl)]
    obtain ⟨x, hx⟩ : ∃ x, ws[j]? = some x := ⟨ws[j]'(by omega), List.getElem?_eq_getElem (by omega)⟩
    simp only [dDrop_eq]
    refine ⟨_, rfl, l, acc, rfl, wupd_same, ?_⟩
    refine methTake hp' hs hjl (hr.rdr _) (fun R h => ⟨_, rfl, h⟩) ?_
    rw [show takeR (rd φ) ws j = rd φ x by unfold takeR; rw [hx]; rfl]
    rw [drop_at hx] at he
    rw [reads_cons] at he
    cases hd : rd φ x with
    | none =>
      rw [hd] at he
      dsimp only at he
      rw [he] at q
      exact q _ (Out_LnW hl)
    | some d =>
      rw [hd] at he
      dsimp only at he
      have hz : acc.length < sizeLine := Nat.lt_of_lt_of_le (Nat.lt_of_le_of_lt ha (by omega)) (Nat.le_trans hs.1 sL_line)
      refine ⟨acc, by rw [LnW_upd lp, LnW_LnW]; exact wupd_same, hz, _, by omega, j + 1, acc ++ [d], rfl, by omega, by omega, trivial, by rw [LnW_upd lp, LnW_LnW, wupd_upd], ?_, by simp; omega⟩
      rw [he, map_map_ex]
      congr 1
      funext z
      simp
end
end K97
set_option Elab.async false
set_option linter.all false
set_option maxRecDepth 100000
set_option maxHeartbeats 1000000
namespace K97
open PySem PySem.Spec PyProof.Rows L2 DL TL NumText
inductive Kd where | head | space | leaf | inner | piece | free
def rho : Kd → Nat → Str → Option D
  | .head, k => if k < 3 then rd numR else fun _ => none
  | .space, _ => rd numR
  | .leaf, k => if k = 1 then lnk else if k % 2 = 0 then rd keyR else rd heldR
  | .inner, k => if k % 2 = 0 then rd keyR else rd numR
  | .piece, k => if k = 1 then lnk else if k = 2 then rd strR else fun _ => none
  | .free, _ => fun _ => none
theorem rhoL {k : Nat} : rho .leaf k = if k = 1 then lnk else if k % 2 = 0 then rd keyR else rd heldR := rfl
theorem rhoI {k : Nat} : rho .inner k = if k % 2 = 0 then rd keyR else rd numR := rfl
def short : Kd → Nat → Bool
  | .head, n => decide (n < 3)
  | .space, n => decide (n < 3)
  | .leaf, n => decide (n < 2) || decide (n % 2 = 1)
  | .inner, n => decide (n < 4) || decide (n % 2 = 1)
  | .piece, n => decide (n < 3)
  | .free, _ => false
def pairs : List D → List D
  | x :: y :: r => .tup [x, y] :: pairs r
  | _ => []
def evens : List D → List D
  | x :: _ :: r => x :: evens r
  | [x] => [x]
  | [] => []
def odds : List D → List D
  | _ :: y :: r => y :: odds r
  | _ => []
def build : Kd → List D → D
  | .head, ds => .tup (.str "head" :: ds)
  | .space, d1 :: d2 :: r => .tup [.str "space", d1, .tup r, d2]
  | .leaf, d :: r => .tup [.str "leaf", .tup (pairs r), d]
  | .inner, ds => .tup [.str "inner", .tup (odds ds), .tup (evens ds)]
  | .piece, [d1, d2] => .tup [.str "piece", d2, d1]
  | .free, _ => .tup [.str "free"]
  | _, _ => .non
def body (kd : Kd) (ws : List Str) : Except Nat D := match reads (rho kd) (ws.drop 1) 1 with
  | .error j => .error j
  | .ok ds => if short kd ws.length then .error ws.length else .ok (build kd ds)
def onImg (a : Ad) (p : Addr) (ws : List Str) (n : Nat) (w : Wd) (E : XDp) (Q : VKD) : Except Nat D → Prop
  | .ok d => Q d (LnW a p ws n ws.length w)
  | .error j => ∀ w', Out p w w' → E (errD a (.int n) (.int j)) w'
def spBody (a : Ad) (kd : Kd) : SpD := fun ds w E Q => ∃ (p : Addr) (ws : List Str) (n : Nat), ds = [.ref p] ∧ Ln a p ws n 1 w ∧ Sz ws ∧ 1 ≤ ws.length ∧ onImg a p ws n w E Q (body kd ws)
section
variable {P : Program} {w0 : World} {K : PySem.W.Frag} {mg : Str → Option Value} {base : Heap}
def flat : List (D × D) → List D
  | [] => []
  | p :: r => p.1 :: p.2 :: flat r
theorem flat_app (l m : List (D × D)) : flat (l ++ m) = flat l ++ flat m := by
  induction l with
  | nil => rfl
  | cons p r ih => show p.1 :: p.2 :: flat (r ++ m) = _; rw [ih]; rfl
theorem pairs_flat (l : List (D × D)) : pairs (flat l) = l.map fun p => .tup [p.1, p.2] := by
  induction l with
  | nil => rfl
  | cons p r ih => show _ :: pairs (flat r) = _; rw [ih]; rfl
theorem methLink {a : Ad} {p : Addr} {ws : List Str} {n k : Nat} {w : Wd} {E : XD} {r : Rho} {Q : VKD} (h : Ln a p ws n k w) (hs : Sz ws) (hk : k ≤ ws.length) (q : onTake a p ws n k w (fun x w' => E x (some (.ref p) :: r) w') Q (takeR lnk ws k)) :
    dMeth a.c_Line "take_link" 1 (spLink a) [] (dVar 0) dNil E (some (.ref p) :: r) w Q :=
  ⟨_, rfl, _, _, rfl, h, lf_o3, rfl, p, ws, n, k, rfl, h, hs, hk, q⟩
theorem pure_leaf {a : Ad} (hK : RdN P w0 K mg base a.f_key_in keyR) (hH : RdN P w0 K mg base a.f_held_in heldR) (ds : List D) (w : Wd) (E : XDp) (Q : VKD) (h : spBody a .leaf ds w E Q) : t_leaf_image_in a (spOver a) (spLink a) (spTake P w0 K mg base a) (fun x _ w' => E x w') { nx := fun _ w' => Q .non w', rt := Q } (startD ["line", "right", "records"] ds) w := by
  obtain ⟨p, ws, n, rfl, hp, hs, hn, q⟩ := h
  unfold t_leaf_image_in
  rw [show startD ["line", "right", "records"] [D.ref p] = [some (.ref p), none, none] from rfl]
  simp only [dSeq_eq, dSet_eq, dLstW_eq, dNil_eq, List.set_cons_succ, List.set_cons_zero]
  refine methLink hp hs hn ?_
  unfold body at q
  by_cases h1 : ws.length = 1
  · rw [show takeR lnk ws 1 = none by unfold takeR; rw [List.getElem?_eq_none (by omega)]; rfl]
    rw [List.drop_of_length_le (by omega)] at q
    rw [h1] at q
    exact q _ (Out.refl _ _)
  obtain ⟨x, hx⟩ : ∃ x, ws[1]? = some x := ⟨ws[1]'(by omega), List.getElem?_eq_getElem (by omega)⟩
  rw [show takeR lnk ws 1 = lnk x by unfold takeR; rw [hx]; rfl]
  have hfirst := reads_cons (ρ := rho .leaf) (x := x) (r := ws.drop 2) (k := 1)
  rw [drop_at hx] at q
  rw [show rho .leaf 1 x = lnk x from rfl] at hfirst
  cases hd : lnk x with
  | none =>
    rw [hd] at hfirst
    rw [hfirst] at q
    exact q _ (Out.refl _ _)
  | some d =>
    rw [hd] at hfirst
    dsimp only at hfirst
    refine ⟨by decide, fun l hl => ?_⟩
    have lp : l ≠ p := ne_Ln Ln_LnW hl
    have hlw : w l = none := by unfold LnW at hl; rw [wupd_ne lp] at hl; exact hl
    refine ⟨fun m ρ w' => ∃ j acc, m = ws.length - j ∧ 2 ≤ j ∧ j % 2 = 0 ∧ j ≤ ws.length ∧ ρ = [some (.ref p), some d, some (.ref l)] ∧ w' = wupd (LnW a p ws n j w) l (.lst (acc.map fun p => .tup [p.1, p.2])) ∧ reads (rho .leaf) (x :: ws.drop 2) 1 = (reads (rho .leaf) (ws.drop j) j).map (fun z => d :: (flat acc ++ z)) ∧ acc.length ≤ j, ⟨ws.length - 2, 2, [], rfl, Nat.le_refl _, rfl, by omega, rfl, rfl, hfirst, Nat.zero_le _⟩, ?_⟩
    rintro m ρ w' ⟨j, acc, rfl, hj, hj2, hjl, rfl, rfl, he, ha⟩
    have hp' : Ln a p ws n j (wupd (LnW a p ws n j w) l (.lst (acc.map fun p => .tup [p.1, p.2]))) := Ln_upd Ln_LnW lp
    simp only [dNot_eq, dTru_eq, methOver hp', truD_bl]
    by_cases hl' : j = ws.length
    · rw [decide_eq_true hl', if_neg (by decide)]
      have e : reads (rho .leaf) (x :: ws.drop 2) 1 = .ok (d :: flat acc) := by rw [he, hl', List.drop_length]; simp [reads, Except.map]
      rw [e] at q
      dsimp only at q
      rw [show short .leaf ws.length = false by unfold short; simp; omega] at q
      rw [if_neg (by decide)] at q
      simp only [build, pairs_flat] at q
      simp only [dRet_eq, dTup_eq, dCB_eq, dCons_eq, dNil_eq, dVar_eq, dC_eq]
      refine ⟨_, rfl, _, _, rfl, seqD_ref wupd_same, _, rfl, (by show 3 ≤ sizeLine; decide), _, LnW a p ws n ws.length w, Frz.weak fun b o hb => ?_, q⟩
      rw [← hl'] at hb
      by_cases hbl : b = l
      · exfalso
        unfold LnW at hb
        rw [hbl, wupd_ne lp, hlw] at hb
        cases hb
      · rw [wupd_ne hbl]; exact hb
    · rw [decide_eq_false hl', if_pos (by rfl)]
      obtain ⟨y, hy⟩ : ∃ y, ws[j]? = some y := ⟨ws[j]'(by omega), List.getElem?_eq_getElem (by omega)⟩
      simp only [dDrop_eq]
      refine ⟨_, rfl, l, _, rfl, wupd_same, ?_⟩
      simp only [dTup_eq, dCons_eq, dNil_eq]
      refine methTake hp' hs hjl (hK.rdr _) (fun R h => h) ?_
      rw [show takeR (rd keyR) ws j = rd keyR y by unfold takeR; rw [hy]; rfl]
      rw [drop_at hy, reads_cons (x := y), show rho .leaf j y = rd keyR y by rw [rhoL, if_neg (by omega), if_pos hj2]] at he
      cases hd1 : rd keyR y with
      | none =>
        rw [hd1] at he
        dsimp only at he
        rw [he] at q
        exact q _ (Out_LnW hlw)
      | some d1 =>
        rw [hd1] at he
        dsimp only at he
        have e1 : LnW a p ws n (j + 1) (wupd (LnW a p ws n j w) l (.lst (acc.map fun p => .tup [p.1, p.2]))) = wupd (LnW a p ws n (j + 1) w) l (.lst (acc.map fun p => .tup [p.1, p.2])) := by rw [LnW_upd lp, LnW_LnW]
        have hp2 : Ln a p ws n (j + 1) (LnW a p ws n (j + 1) (wupd (LnW a p ws n j w) l (.lst (acc.map fun p => .tup [p.1, p.2])))) := Ln_LnW
        refine methTake hp2 hs (by omega) (hH.rdr _) (fun R h => h) ?_
        by_cases hl2 : j + 1 = ws.length
        · rw [show takeR (rd heldR) ws (j + 1) = none by unfold takeR; rw [List.getElem?_eq_none (by omega)]; rfl]
          have e : reads (rho .leaf) (x :: ws.drop 2) 1 = .ok (d :: (flat acc ++ [d1])) := by rw [he, hl2, List.drop_length]; simp [reads, Except.map]
          rw [e] at q
          dsimp only at q
          rw [show short .leaf ws.length = true by unfold short; simp; omega, if_pos rfl] at q
          rw [e1, hl2]
          exact q _ (Out_LnW hlw)
        obtain ⟨z, hz⟩ : ∃ z, ws[j + 1]? = some z := ⟨ws[j + 1]'(by omega), List.getElem?_eq_getElem (by omega)⟩
        rw [show takeR (rd heldR) ws (j + 1) = rd heldR z by unfold takeR; rw [hz]; rfl]
        rw [drop_at hz, reads_cons (x := z), show rho .leaf (j + 1) z = rd heldR z by rw [rhoL, if_neg (by omega), if_neg (by omega)]] at he
        cases hd2 : rd heldR z with
        | none =>
          rw [hd2] at he
          dsimp only at he
          rw [he] at q
          rw [e1]
          exact q _ (Out_LnW hlw)
        | some d2 =>
          rw [hd2] at he
          dsimp only at he
          have hz' : acc.length < sizeLine := Nat.lt_of_lt_of_le (Nat.lt_of_le_of_lt ha (by omega)) (Nat.le_trans hs.1 sL_line)
          refine ⟨(by show 2 ≤ sizeLine; decide), _, by rw [e1, LnW_upd lp, LnW_LnW]; exact wupd_same, by simpa using hz', _, by omega, j + 2, acc ++ [(d1, d2)], rfl, by omega, by omega, by omega, trivial, ?_, ?_, by simp; omega⟩
          · rw [e1, LnW_upd lp, LnW_LnW, wupd_upd, List.map_append]; rfl
          · rw [he, map_map_ex, map_map_ex]
            congr 1
            funext u
            simp [flat_app, flat]
end
end K97
set_option Elab.async false
set_option linter.all false
set_option maxRecDepth 100000
set_option maxHeartbeats 1000000
namespace K97
open PySem PySem.Spec PyProof.Rows L2 DL TL NumText
theorem toPyL_ints : ∀ (is : List Int), toPyL (is.map .int) = some (is.map PyData.int)
  | [] => rfl
  | i :: is => by
    show (toPy (.int i)).bind _ = _
    rw [toPyL_ints is]; rfl
theorem lay_ints : ∀ (is : List Int), PyData.canLayAll0 (is.map PyData.int) = true
  | [] => rfl
  | i :: is => by
    show (PyData.canLay0 (.int i) && PyData.canLayAll0 (is.map PyData.int)) = true
    rw [lay_ints is]; rfl
theorem depth_ints : ∀ (is : List Int), PyData.depthAll (is.map PyData.int) = 0
  | [] => rfl
  | i :: is => by
    show max (PyData.depth (.int i)) (PyData.depthAll (is.map PyData.int)) = 0
    rw [depth_ints is]; rfl
theorem eq_empty {w : Wd} {l : Addr} {is : List Int} {Q : VKD} (h : w l = some (.lst (is.map .int))) (q : Q (.bl is.isEmpty) w) : eqRD (.ref l) (.lst []) w Q := by
  refine ⟨.list (is.map PyData.int), .list [], ?_, rfl, ?_, by decide, ?_⟩
  · show (doLst (w l)).bind (fun ds => (toPyL ds).map PyData.list) = _
    rw [h]
    show (some (is.map D.int)).bind _ = _
    rw [Option.bind_some, toPyL_ints]; rfl
  · show (PyData.canLayAll0 (is.map PyData.int) && decide (PyData.depthAll (is.map PyData.int) + 1 ≤ 64)) = true
    rw [lay_ints, depth_ints]; rfl
  · have : PyData.eqv (.list (is.map PyData.int)) (.list []) = is.isEmpty := by cases is <;> rfl
    rw [this]; exact q
def flatI (l : List (Int × D)) : List D := flat (l.map fun p => (.int p.1, p.2))
theorem flatI_app (l m : List (Int × D)) : flatI (l ++ m) = flatI l ++ flatI m := by unfold flatI; rw [List.map_append, flat_app]
theorem flatI_cons (i : Int) (d : D) (r : List (Int × D)) : flatI ((i, d) :: r) = .int i :: d :: flatI r := rfl
theorem evens_flat : ∀ (l : List (Int × D)) (d : D), evens (d :: flatI l) = d :: l.map (·.2)
  | [], d => rfl
  | (i, e) :: r, d => by
    rw [flatI_cons]
    show d :: evens (e :: flatI r) = _
    rw [evens_flat r e]; rfl
theorem odds_flat : ∀ (l : List (Int × D)) (d : D), odds (d :: flatI l) = (l.map (·.1)).map .int
  | [], d => rfl
  | (i, e) :: r, d => by
    rw [flatI_cons]
    show .int i :: odds (e :: flatI r) = _
    rw [odds_flat r e]; rfl
theorem keyR_cases (x : Str) : keyR x = .non ∨ ∃ i, keyR x = .int i := by
  unfold keyR
  split
  · split
    · split
      · exact .inr ⟨_, rfl⟩
      · exact .inl rfl
    · exact .inl rfl
  · rcases numR_cases x with e | ⟨n, e⟩
    · exact .inl e
    · exact .inr ⟨_, e⟩
theorem rd_key {x : Str} {d : D} (h : rd keyR x = some d) : ∃ i, d = .int i := by
  unfold rd at h
  rcases keyR_cases x with e | ⟨n, e⟩
  · rw [e] at h; simp at h
  · rw [e] at h; simp at h; exact ⟨_, h.symm⟩
section
variable {P : Program} {w0 : World} {K : PySem.W.Frag} {mg : Str → Option Value} {base : Heap}
theorem Out_two {a : Ad} {p l1 l2 : Addr} {ws : List Str} {n k : Nat} {w : Wd} {o u : DO} (h1 : w l1 = none) (h2 : w l2 = none) : Out p w (wupd (wupd (LnW a p ws n k w) l1 o) l2 u) := fun b v h hb => by
  rw [wupd_ne (fun z => by rw [z, h2] at h; cases h)]
  exact Out_LnW h1 b v h hb
theorem pure_inner {a : Ad} (hN : RdN P w0 K mg base a.f_number_in numR) (hK : RdN P w0 K mg base a.f_key_in keyR) (ds : List D) (w : Wd) (E : XDp) (Q : VKD) (h : spBody a .inner ds w E Q) : t_inner_image_in a (spOver a) (spTake P w0 K mg base a) (fun x _ w' => E x w') { nx := fun _ w' => Q .non w', rt := Q } (startD ["line", "lower", "separators"] ds) w := by
  obtain ⟨p, ws, n, rfl, hp, hs, hn, q⟩ := h
  unfold t_inner_image_in
  rw [show startD ["line", "lower", "separators"] [D.ref p] = [some (.ref p), none, none] from rfl]
  simp only [dSeq_eq, dSet_eq, dLstW_eq, dNil_eq, dCons_eq, List.set_cons_succ, List.set_cons_zero]
  refine methTake hp hs hn (hN.rdr _) (fun R h => h) ?_
  unfold body at q
  by_cases h1 : ws.length = 1
  · rw [show takeR (rd numR) ws 1 = none by unfold takeR; rw [List.getElem?_eq_none (by omega)]; rfl]
    rw [List.drop_of_length_le (by omega)] at q
    rw [h1] at q
    exact q _ (Out.refl _ _)
  obtain ⟨x, hx⟩ : ∃ x, ws[1]? = some x := ⟨ws[1]'(by omega), List.getElem?_eq_getElem (by omega)⟩
  rw [show takeR (rd numR) ws 1 = rd numR x by unfold takeR; rw [hx]; rfl]
  have hfirst := reads_cons (ρ := rho .inner) (x := x) (r := ws.drop 2) (k := 1)
  rw [drop_at hx] at q
  rw [show rho .inner 1 x = rd numR x from rfl] at hfirst
  cases hd : rd numR x with
  | none =>
    rw [hd] at hfirst
    rw [hfirst] at q
    exact q _ (Out.refl _ _)
  | some d =>
    rw [hd] at hfirst
    dsimp only at hfirst
    refine ⟨by show 1 ≤ sizeLine; decide, fun l1 hl1 => ⟨by decide, fun l2 hl2 => ?_⟩⟩
    have lp1 : l1 ≠ p := ne_Ln Ln_LnW hl1
    have l12 : l1 ≠ l2 := fun z => by rw [← z, wupd_same] at hl2; cases hl2
    rw [wupd_ne (Ne.symm l12)] at hl2
    have lp2 : l2 ≠ p := ne_Ln Ln_LnW hl2
    have hw1 : w l1 = none := by unfold LnW at hl1; rw [wupd_ne lp1] at hl1; exact hl1
    have hw2 : w l2 = none := by unfold LnW at hl2; rw [wupd_ne lp2] at hl2; exact hl2
    generalize hT : reads (rho .inner) (x :: ws.drop 2) 1 = T at *
    let W2 : Nat → List (Int × D) → List (Int × D) → Wd := fun j acc se => wupd (wupd (LnW a p ws n j w) l1 (.lst (d :: acc.map (·.2)))) l2 (.lst ((se.map (·.1)).map .int))
    have W2L : ∀ {j k acc se}, LnW a p ws n k (W2 j acc se) = W2 k acc se := fun {j k acc se} => by
      show LnW a p ws n k (wupd (wupd _ _ _) _ _) = _
      rw [LnW_upd lp2, LnW_upd lp1, LnW_LnW]
    have W2p : ∀ {j acc se}, Ln a p ws n j (W2 j acc se) := fun {j acc se} => Ln_upd (Ln_upd Ln_LnW lp1) lp2
    have W2o : ∀ {j acc se}, Out p w (W2 j acc se) := fun {j acc se} => Out_two hw1 hw2
    have W21 : ∀ {j acc se}, W2 j acc se l1 = some (.lst (d :: acc.map (·.2))) := fun {j acc se} => by
      show wupd (wupd _ _ _) _ _ _ = _
      rw [wupd_ne l12, wupd_same]
    have W22 : ∀ {j acc se}, W2 j acc se l2 = some (.lst ((se.map (·.1)).map .int)) := wupd_same
    refine ⟨fun m ρ w' => ∃ j acc, m = ws.length - j ∧ 2 ≤ j ∧ j = acc.length * 2 + 2 ∧ j ≤ ws.length ∧ ρ = [some (.ref p), some (.ref l1), some (.ref l2)] ∧ w' = W2 j acc acc ∧ T = (reads (rho .inner) (ws.drop j) j).map (fun z => d :: (flatI acc ++ z)), ⟨ws.length - 2, 2, [], rfl, Nat.le_refl _, rfl, by omega, rfl, rfl, hfirst⟩, ?_⟩
    rintro m ρ w' ⟨j, acc, rfl, hj, hj2, hjl, rfl, rfl, he⟩
    have hover : (acc = [] ∨ j ≠ ws.length) ∨ (acc ≠ [] ∧ j = ws.length) := by
      by_cases c : acc = [] <;> by_cases c2 : j = ws.length <;> simp [c, c2]
    have hcond : ∀ (B : Bool → Wd → Prop), B (acc.isEmpty || !decide (j = ws.length)) (W2 j acc acc) → dOr (dTest (dBin eqRD (dVar 2) (dLst dNil))) (dNot (dTru (dMeth a.c_Line "is_over" 1 (spOver a) [] (dVar 0) dNil))) (fun x _ w' => E x w') [some (.ref p), some (.ref l1), some (.ref l2)] (W2 j acc acc) B := fun B hB => by
      simp only [dOr_eq, dTest_eq, dBin_eq, dVar_eq, dLst_eq, dNil_eq, dNot_eq, dTru_eq]
      refine ⟨_, rfl, by decide, eq_empty W22 ⟨_, rfl, ?_⟩⟩
      rw [methOver W2p, truD_bl]
      cases acc with
      | nil => exact hB
      | cons _ _ => exact hB
    refine hcond _ ?_
    have hz' : acc.length + 2 < sizeLine := Nat.lt_of_lt_of_le (by have := hs.1; omega : acc.length + 2 < sL + 10) (by decide)
    rcases hover with c | ⟨c1, c2⟩
    · have : (acc.isEmpty || !decide (j = ws.length)) = true := by
        rcases c with c | c
        · rw [c]; rfl
        · simp [c]
      rw [this, if_pos rfl]
      simp only [dDrop_eq]
      refine ⟨_, rfl, l2, _, rfl, W22, ?_⟩
      refine methTake W2p hs hjl (hK.rdr _) (fun R h => h) ?_
      by_cases hl' : j = ws.length
      · rw [show takeR (rd keyR) ws j = none by unfold takeR; rw [List.getElem?_eq_none (by omega)]; rfl]
        have ha : acc = [] := c.resolve_right (fun h => h hl')
        have e : T = .ok [d] := by rw [he, hl', List.drop_length, ha]; rfl
        rw [e] at q
        dsimp only at q
        rw [ha] at hj2
        rw [show short .inner ws.length = true by unfold short; simp; simp at hj2; omega, if_pos rfl, ← hl'] at q
        exact q _ W2o
      obtain ⟨y, hy⟩ : ∃ y, ws[j]? = some y := ⟨ws[j]'(by omega), List.getElem?_eq_getElem (by omega)⟩
      rw [show takeR (rd keyR) ws j = rd keyR y by unfold takeR; rw [hy]; rfl]
      rw [drop_at hy, reads_cons (x := y), show rho .inner j y = rd keyR y by rw [rhoI, if_pos (by omega)]] at he
      cases hd1 : rd keyR y with
      | none =>
        rw [hd1] at he
        dsimp only at he
        rw [he] at q
        exact q _ W2o
      | some d1 =>
        obtain ⟨i1, rfl⟩ := rd_key hd1
        rw [hd1] at he
        dsimp only at he
        refine ⟨_, by rw [W2L]; exact W22, by simp; omega, ?_⟩
        have e1 : wupd (LnW a p ws n (j + 1) (W2 j acc acc)) l2 (.lst ((acc.map (·.1)).map .int ++ [D.int i1])) = W2 (j + 1) acc (acc ++ [(i1, .non)]) := by
          rw [W2L]
          show wupd (wupd _ _ _) _ _ = wupd _ _ _
          rw [wupd_upd]
          simp
        rw [e1]
        refine ⟨_, rfl, l1, _, rfl, W21, ?_⟩
        refine methTake W2p hs (by omega) (hN.rdr _) (fun R h => h) ?_
        by_cases hl2 : j + 1 = ws.length
        · rw [show takeR (rd numR) ws (j + 1) = none by unfold takeR; rw [List.getElem?_eq_none (by omega)]; rfl]
          have e : T = .ok (d :: (flatI acc ++ [.int i1])) := by rw [he, hl2, List.drop_length]; rfl
          rw [e] at q
          dsimp only at q
          rw [show short .inner ws.length = true by unfold short; simp; omega, if_pos rfl, ← hl2] at q
          exact q _ W2o
        obtain ⟨z, hz⟩ : ∃ z, ws[j + 1]? = some z := ⟨ws[j + 1]'(by omega), List.getElem?_eq_getElem (by omega)⟩
        rw [show takeR (rd numR) ws (j + 1) = rd numR z by unfold takeR; rw [hz]; rfl]
        rw [drop_at hz, reads_cons (x := z), show rho .inner (j + 1) z = rd numR z by rw [rhoI, if_neg (by omega)]] at he
        cases hd2 : rd numR z with
        | none =>
          rw [hd2] at he
          dsimp only at he
          rw [he] at q
          exact q _ W2o
        | some d2 =>
          rw [hd2] at he
          dsimp only at he
          refine ⟨_, by rw [W2L]; exact W21, by simp; omega, _, by omega, j + 2, acc ++ [(i1, d2)], rfl, by omega, by simp; omega, by omega, rfl, ?_, ?_⟩
          · rw [W2L]
            show wupd (wupd (wupd _ _ _) _ _) _ _ = wupd (wupd _ _ _) _ _
            rw [wupd_comm (Ne.symm l12), wupd_upd]
            simp
          · rw [he, map_map_ex, map_map_ex]
            congr 1
            funext u
            rw [flatI_app, show flatI [(i1, d2)] = [.int i1, d2] from rfl]
            simp
    · have : (acc.isEmpty || !decide (j = ws.length)) = false := by
        rw [decide_eq_true c2]
        cases acc with
        | nil => exact absurd rfl c1
        | cons _ _ => rfl
      rw [this, if_neg (by decide)]
      have e : T = .ok (d :: flatI acc) := by rw [he, c2, List.drop_length]; simp [reads, Except.map]
      rw [e] at q
      dsimp only at q
      have hne : acc.length ≠ 0 := fun z => c1 (List.length_eq_zero_iff.1 z)
      rw [show short .inner ws.length = false by unfold short; simp; omega] at q
      rw [if_neg (by decide)] at q
      simp only [build, evens_flat, odds_flat] at q
      simp only [dRet_eq, dTup_eq, dCB_eq, dCons_eq, dNil_eq, dVar_eq, dC_eq]
      refine ⟨_, rfl, _, _, rfl, seqD_ref W22, _, rfl, _, _, rfl, seqD_ref W21, (by show 3 ≤ sizeLine; decide), _, LnW a p ws n ws.length w, Frz.weak fun b o hb => ?_, q⟩
      rw [← c2] at hb
      have hb1 : b ≠ l1 := fun z => by unfold LnW at hb; rw [z, wupd_ne lp1, hw1] at hb; cases hb
      have hb2 : b ≠ l2 := fun z => by unfold LnW at hb; rw [z, wupd_ne lp2, hw2] at hb; cases hb
      show wupd (wupd _ _ _) _ _ _ = _
      rw [wupd_ne hb2, wupd_ne hb1]; exact hb
end
end K97
set_option Elab.async false
set_option linter.all false
set_option maxRecDepth 100000
set_option maxHeartbeats 1000000
namespace K97
open PySem PySem.Spec PyProof.Rows L2 DL TL NumText
def kindOf (x : Str) : Option Kd :=
  if x = "head" then some .head else if x = "space" then some .space else if x = "leaf" then some .leaf else if x = "inner" then some .inner else if x = "piece" then some .piece else if x = "free" then some .free else none
def imgR (ws : List Str) : Except Nat D := match ws[0]? with
  | none => .error 0
  | some x => match kindOf x with
    | none => .error 0
    | some kd => body kd ws
def AtK (kd : Kd) (ws : List Str) (k : Nat) (acc : List D) : Prop := reads (rho kd) (ws.drop 1) 1 = (reads (rho kd) (ws.drop k) k).map (acc ++ ·)
theorem AtK.zero {kd : Kd} {ws : List Str} : AtK kd ws 1 [] := by
  unfold AtK
  cases reads (rho kd) (ws.drop 1) 1 <;> rfl
theorem AtK.next {kd : Kd} {ws : List Str} {k : Nat} {acc : List D} {x : Str} {d : D} (h : AtK kd ws k acc) (hx : ws[k]? = some x) (hd : rho kd k x = some d) : AtK kd ws (k + 1) (acc ++ [d]) := by
  unfold AtK at h ⊢
  rw [h, drop_at hx, reads_cons (x := x), hd]
  dsimp only
  rw [map_map_ex]
  congr 1
  funext u
  simp
theorem AtK.bad {kd : Kd} {ws : List Str} {k : Nat} {acc : List D} {x : Str} (h : AtK kd ws k acc) (hx : ws[k]? = some x) (hd : rho kd k x = none) : body kd ws = .error k := by
  unfold AtK at h
  rw [drop_at hx, reads_cons (x := x), hd] at h
  unfold body
  rw [h]; rfl
theorem AtK.over {kd : Kd} {ws : List Str} {k : Nat} {acc : List D} (h : AtK kd ws k acc) (hk : k = ws.length) (hs : short kd ws.length = true) : body kd ws = .error k := by
  unfold AtK at h
  rw [hk, List.drop_length] at h
  unfold body
  rw [h]
  show (if short kd ws.length = true then _ else _) = _
  rw [if_pos hs, hk]
theorem AtK.done {kd : Kd} {ws : List Str} {k : Nat} {acc : List D} (h : AtK kd ws k acc) (hk : k = ws.length) (hs : short kd ws.length = false) : body kd ws = .ok (build kd acc) := by
  unfold AtK at h
  rw [hk, List.drop_length] at h
  unfold body
  rw [h]
  show (if short kd ws.length = true then _ else _) = _
  rw [hs, if_neg (by decide)]
  show Except.ok (build kd (acc ++ [])) = _
  rw [List.append_nil]
/-- what a call may have done to the world -/
structure Fut (a : Ad) (p : Addr) (w w' : Wd) : Prop where
  old : ∀ b o, w b = some o → b ≠ p → b ≠ a.tL → w' b = some o
  tb : TbW w' a.tL qL
theorem tb_out {p Pt : Addr} {w w' : Wd} {C : Addr} {fs : List (Str × D)} {q : Str} (t : TbW w Pt q) (h : w p = some (.ins C fs)) (o : Out p w w') : TbW w' Pt q := by
  obtain ⟨ps, h1, h2, h3⟩ := t
  refine ⟨ps, o _ _ h1 (fun z => by rw [z, h] at h1; cases h1), h2, fun pos cv hc => ?_⟩
  obtain ⟨c, e, hc'⟩ := h3 pos cv hc
  exact ⟨c, e, o _ _ hc' (fun z => by rw [z, h] at hc'; cases hc')⟩
theorem Fut.out {a : Ad} {p : Addr} {w w2 w' : Wd} {C : Addr} {fs : List (Str × D)} (f : Fut a p w w2) (h : w2 p = some (.ins C fs)) (o : Out p w2 w') : Fut a p w w' :=
  ⟨fun b u hb n1 n2 => o b u (f.old b u hb n1 n2) n1, tb_out f.tb h o⟩
theorem Out.trans {p : Addr} {a b c : Wd} (x : Out p a b) (y : Out p b c) : Out p a c := fun d o h n => y d o (x d o h n) n
theorem Out.ln {a : Ad} {p : Addr} {ws : List Str} {n k : Nat} {w : Wd} : Out p w (LnW a p ws n k w) := fun b o h n => by
  unfold LnW; rw [wupd_ne n]; exact h
def onFut (a : Ad) (p : Addr) (n : Nat) (w : Wd) (E : XDp) (Q : VKD) : Except Nat D → Prop
  | .ok d => ∀ w', Fut a p w w' → Q d w'
  | .error j => ∀ w', Fut a p w w' → E (errD a (.int n) (.int j)) w'
def spImg (a : Ad) : SpD := fun ds w E Q => ∃ (p : Addr) (ws : List Str) (n : Nat), ds = [.ref p] ∧ Ln a p ws n 0 w ∧ Sz ws ∧ 1 ≤ ws.length ∧ TbW w a.tL qL ∧ onFut a p n w E Q (imgR ws)
section
variable {P : Program} {w0 : World} {K : PySem.W.Frag} {mg : Str → Option Value} {base : Heap}
theorem take_step {a : Ad} {p g : Addr} {ws : List Str} {n k : Nat} {w : Wd} {φ : Str → D} {E : XD} {r : Rho} {rr : TAD} {Q : VKD} (h : Ln a p ws n k w) (hs : Sz ws) (hk : k ≤ ws.length) (hr : Rdr P w0 K mg base w g φ) (hrr : ∀ R : List D → Wd → Prop, R [.ref g] w → rr E (some (.ref p) :: r) w R)
    (over : k = ws.length → E (errD a (.int n) (.int k)) (some (.ref p) :: r) w) (bad : ∀ x, ws[k]? = some x → rd φ x = none → E (errD a (.int n) (.int k)) (some (.ref p) :: r) w) (ok : ∀ x d, ws[k]? = some x → rd φ x = some d → Q d (LnW a p ws n (k + 1) w)) :
    dMeth a.c_Line "take_word" 2 (spTake P w0 K mg base a) [] (dVar 0) rr E (some (.ref p) :: r) w Q := by
  refine methTake h hs hk hr hrr ?_
  unfold takeR
  cases hx : ws[k]? with
  | none => exact over (by have := List.getElem?_eq_none_iff.1 hx; omega)
  | some x =>
    show onTake _ _ _ _ _ _ _ _ (rd φ x)
    cases hd : rd φ x with
    | none => exact bad x hx hd
    | some d => exact ok x d hx hd
theorem link_step {a : Ad} {p : Addr} {ws : List Str} {n k : Nat} {w : Wd} {E : XD} {r : Rho} {Q : VKD} (h : Ln a p ws n k w) (hs : Sz ws) (hk : k ≤ ws.length)
    (over : k = ws.length → E (errD a (.int n) (.int k)) (some (.ref p) :: r) w) (bad : ∀ x, ws[k]? = some x → lnk x = none → E (errD a (.int n) (.int k)) (some (.ref p) :: r) w) (ok : ∀ x d, ws[k]? = some x → lnk x = some d → Q d (LnW a p ws n (k + 1) w)) :
    dMeth a.c_Line "take_link" 1 (spLink a) [] (dVar 0) dNil E (some (.ref p) :: r) w Q := by
  refine methLink h hs hk ?_
  unfold takeR
  cases hx : ws[k]? with
  | none => exact over (by have := List.getElem?_eq_none_iff.1 hx; omega)
  | some x =>
    show onTake _ _ _ _ _ _ _ _ (lnk x)
    cases hd : lnk x with
    | none => exact bad x hx hd
    | some d => exact ok x d hx hd
theorem methFin {a : Ad} {p : Addr} {ws : List Str} {n k : Nat} {w : Wd} {t : TED} {E : XD} {r : Rho} {Q : VKD} (h : Ln a p ws n k w) (ht : t E (some (.ref p) :: r) w fun d w1 => ([D.ref p, d] ++ []).length = 2 ∧ spFin a ([D.ref p, d] ++ []) w1 (fun x w' => E x (some (.ref p) :: r) w') Q) :
    dMeth a.c_Line "finished" 2 (spFin a) [] (dVar 0) (dCons t dNil) E (some (.ref p) :: r) w Q :=
  ⟨_, rfl, _, _, rfl, h, lf_o5, ht⟩
theorem fin_of {a : Ad} {p : Addr} {ws : List Str} {n k : Nat} {w : Wd} {d : D} {E : XDp} {Q : VKD} (h : Ln a p ws n k w) (h1 : k = ws.length → Q d w) (h2 : k ≠ ws.length → E (errD a (.int n) (.int k)) w) : ([D.ref p, d] ++ []).length = 2 ∧ spFin a ([D.ref p, d] ++ []) w E Q := by
  refine ⟨rfl, p, ws, n, k, d, rfl, h, ?_⟩
  by_cases c : k = ws.length
  · rw [if_pos c]; exact h1 c
  · rw [if_neg c]; exact h2 c
def kTx : List Str := ["head", "space", "leaf", "inner", "piece", "free"]
theorem kTx_mem (x : Str) : kTx.any (· == x) = (kindOf x).isSome := by
  unfold kTx kindOf
  by_cases h1 : x = "head"
  · subst h1; decide +kernel
  by_cases h2 : x = "space"
  · subst h2; decide +kernel
  by_cases h3 : x = "leaf"
  · subst h3; decide +kernel
  by_cases h4 : x = "inner"
  · subst h4; decide +kernel
  by_cases h5 : x = "piece"
  · subst h5; decide +kernel
  by_cases h6 : x = "free"
  · subst h6; decide +kernel
  simp [h1, h2, h3, h4, h5, h6, Ne.symm h1, Ne.symm h2, Ne.symm h3, Ne.symm h4, Ne.symm h5, Ne.symm h6]
def kStr : Kd → Str
  | .head => "head" | .space => "space" | .leaf => "leaf" | .inner => "inner" | .piece => "piece" | .free => "free"
theorem kind_str {x : Str} {kd : Kd} (h : kindOf x = some kd) : x = kStr kd := by
  unfold kindOf at h
  split at h
  · cases h; assumption
  split at h
  · cases h; assumption
  split at h
  · cases h; assumption
  split at h
  · cases h; assumption
  split at h
  · cases h; assumption
  split at h
  · cases h; assumption
  cases h
theorem dm_hit {m x : Str} {s : TSD} {r : TMD} {E : XD} {De : EndsD} {ρ : Rho} {w : Wd} (h : x = m) (q : s E De ρ w) : dmStr m s r (.str x) E De ρ w := ⟨x, rfl, by rw [if_pos h]; exact q⟩
theorem dm_miss {m x : Str} {s : TSD} {r : TMD} {E : XD} {De : EndsD} {ρ : Rho} {w : Wd} (h : x ≠ m) (q : r (.str x) E De ρ w) : dmStr m s r (.str x) E De ρ w := ⟨x, rfl, by rw [if_neg h]; exact q⟩
def phiK (x : Str) : D := if kTx.any (· == x) = true then .str x else .non
theorem pure_image {a : Ad} (hN : RdN P w0 K mg base a.f_number_in numR) (hS : RdN P w0 K mg base a.f_string_in strR) (ds : List D) (w : Wd) (E : XDp) (Q : VKD) (h : spImg a ds w E Q) : t_image_in a (spFin a) (spLink a) (spRest P w0 K mg base a) (spTake P w0 K mg base a) (spBody a .inner) (spBody a .leaf) (fun x _ w' => E x w') { nx := fun _ w' => Q .non w', rt := Q } (startD ["line", "pages", "commit", "following"] ds) w := by
  obtain ⟨p, ws, n, rfl, hp, hs, hn, ht, q⟩ := h
  unfold t_image_in
  rw [show startD ["line", "pages", "commit", "following"] [D.ref p] = [some (.ref p), none, none, none] from rfl]
  have pne : p ≠ a.tL := fun z => by
    obtain ⟨ps, h1, _⟩ := ht
    rw [← z, hp] at h1; cases h1
  simp only [dSeq_eq]
  unfold dMatch
  -- the first word
  refine ⟨_, rfl, _, _, rfl, hp, lf_o2, ?_⟩
  refine ⟨kTx, rfl, by decide, ht, fun g w2 hx t2 hlam hg => ⟨rfl, p, g, ws, n, 0, phiK, rfl, ?_⟩⟩
  have hp2 : Ln a p ws n 0 w2 := hx _ _ hp pne
  refine ⟨hp2, hs, Nat.zero_le _, .inr ⟨kTx, hlam, rfl⟩, ?_⟩
  have f2 : Fut a p w w2 := ⟨fun b o hb _ n2 => hx b o hb n2, t2⟩
  obtain ⟨x, hx0⟩ : ∃ x, ws[0]? = some x := ⟨ws[0]'(by omega), List.getElem?_eq_getElem (by omega)⟩
  rw [show takeR (rd phiK) ws 0 = rd phiK x by unfold takeR; rw [hx0]; rfl]
  unfold imgR at q
  rw [hx0] at q
  dsimp only at q
  unfold rd phiK
  rw [kTx_mem]
  cases hk : kindOf x with
  | none =>
    rw [hk] at q
    exact q _ (f2.out hp2 (Out.refl _ _))
  | some kd =>
    rw [hk] at q
    dsimp only at q
    have hp3 : Ln a p ws n 1 (LnW a p ws n 1 w2) := Ln_LnW
    have err : ∀ {j w'}, Out p w2 w' → body kd ws = .error j → E (errD a (.int n) (.int j)) w' := fun {j w'} o e => by
      rw [e] at q; exact q _ (f2.out hp2 o)
    have okk : ∀ {d w'}, Out p w2 w' → body kd ws = .ok d → Q d w' := fun {d w'} o e => by
      rw [e] at q; exact q _ (f2.out hp2 o)
    have o3 : Out p w2 (LnW a p ws n 1 w2) := Out.ln
    have hx' := kind_str hk
    show dmStr _ _ _ (.str x) _ _ _ (LnW a p ws n 1 w2)
    have k0 : AtK kd ws 1 [] := AtK.zero
    have l2 : ∀ {k j}, LnW a p ws n k (LnW a p ws n j w2) = LnW a p ws n k w2 := LnW_LnW
    generalize hw3 : LnW a p ws n 1 w2 = w3 at *
    have l3 : ∀ {k}, LnW a p ws n k w3 = LnW a p ws n k w2 := fun {k} => by rw [← hw3, LnW_LnW]
    have pk : ∀ {k}, Ln a p ws n k (LnW a p ws n k w2) := Ln_LnW
    have ok : ∀ {k}, Out p w2 (LnW a p ws n k w2) := Out.ln
    cases kd with
    | head =>
      refine dm_hit hx' ?_
      simp only [dRet_eq]
      refine methFin hp3 ?_
      simp only [dTup_eq, dCons_eq, dNil_eq, dC_eq]
      refine take_step hp3 hs hn (hN.rdr _) (fun R h => h) (fun e => err o3 (k0.over e (by rw [← e]; rfl))) (fun y hy hd => err o3 (k0.bad hy hd)) fun y d1 hy hd => ?_
      rw [l3]
      have k2 := k0.next hy (show rho .head 1 y = some d1 from hd)
      refine take_step pk hs (by have := List.getElem?_eq_some_iff.1 hy; obtain ⟨z, _⟩ := this; omega) (hN.rdr _) (fun R h => h) (fun e => err ok (k2.over e (by rw [← e]; rfl))) (fun y hy hd => err ok (k2.bad hy hd)) fun y d2 hy hd => ?_
      rw [l2]
      have k3 := k2.next hy (show rho .head 2 y = some d2 from hd)
      refine ⟨by show 3 ≤ sizeLine; decide, fin_of pk (fun e => frz_of (okk ok (k3.done e (by rw [← e]; rfl)))) fun e => ?_⟩
      have hl : 3 < ws.length := by have := List.getElem?_eq_some_iff.1 hy; obtain ⟨z, _⟩ := this; omega
      exact err ok (k3.bad (List.getElem?_eq_getElem hl) rfl)
    | space =>
      refine dm_miss (by rw [hx']; decide +kernel) (dm_hit hx' ?_)
      simp only [dSeq_eq, dPar_eq, dRet_eq, dTup_eq, dCons_eq, dNil_eq, dC_eq]
      refine take_step hp3 hs hn (hN.rdr _) (fun R h => h) (fun e => err o3 (k0.over e (by rw [← e]; rfl))) (fun y hy hd => err o3 (k0.bad hy hd)) fun y d1 hy hd => ?_
      rw [l3]
      have k2 := k0.next hy (show rho .space 1 y = some d1 from hd)
      refine take_step pk hs (by have := List.getElem?_eq_some_iff.1 hy; obtain ⟨z, _⟩ := this; omega) (hN.rdr _) (fun R h => h) (fun e => err ok (k2.over e (by rw [← e]; rfl))) (fun y hy hd => err ok (k2.bad hy hd)) fun y d2 hy hd => ?_
      rw [l2]
      have k3 := k2.next hy (show rho .space 2 y = some d2 from hd)
      have hl : 3 ≤ ws.length := by have := List.getElem?_eq_some_iff.1 hy; obtain ⟨z, _⟩ := this; omega
      refine ⟨_, _, rfl, _, rfl, _, rfl, _, _, rfl, pk, lf_o4, ⟨rfl, p, a.f_number_in, ws, n, 3, numR, rfl, pk, hs, hl, hN, ?_⟩⟩
      unfold AtK at k3
      rw [show rho .space = fun _ => rd numR from rfl] at k3
      cases hr : reads (fun _ => rd numR) (ws.drop 3) 3 with
      | error j =>
        rw [hr] at k3
        exact fun w' o => err (ok.trans o) (by unfold body; rw [show rho .space = fun _ => rd numR from rfl, k3]; rfl)
      | ok r =>
        rw [hr] at k3
        refine ⟨_, rfl, by show 4 ≤ sizeLine; decide, ?_⟩
        refine frz_of (okk (ok.trans Out.ln) ?_)
        unfold body
        rw [show rho .space = fun _ => rd numR from rfl, k3]
        show (if short .space ws.length = true then _ else _) = _
        rw [if_neg (by unfold short; simp; omega)]
        rfl
    | leaf =>
      refine dm_miss (by rw [hx']; decide +kernel) (dm_miss (by rw [hx']; decide +kernel) (dm_hit hx' ?_))
      simp only [dRet_eq, dCall_eq, dCons_eq, dNil_eq, dVar_eq]
      refine ⟨_, rfl, rfl, p, ws, n, rfl, hp3, hs, hn, ?_⟩
      cases hb : body .leaf ws with
      | error j => exact fun w' o => err (o3.trans o) hb
      | ok d => exact frz_of (okk (o3.trans Out.ln) hb)
    | inner =>
      refine dm_miss (by rw [hx']; decide +kernel) (dm_miss (by rw [hx']; decide +kernel) (dm_miss (by rw [hx']; decide +kernel) (dm_hit hx' ?_)))
      simp only [dRet_eq, dCall_eq, dCons_eq, dNil_eq, dVar_eq]
      refine ⟨_, rfl, rfl, p, ws, n, rfl, hp3, hs, hn, ?_⟩
      cases hb : body .inner ws with
      | error j => exact fun w' o => err (o3.trans o) hb
      | ok d => exact frz_of (okk (o3.trans Out.ln) hb)
    | piece =>
      refine dm_miss (by rw [hx']; decide +kernel) (dm_miss (by rw [hx']; decide +kernel) (dm_miss (by rw [hx']; decide +kernel) (dm_miss (by rw [hx']; decide +kernel) (dm_hit hx' ?_))))
      simp only [dSeq_eq, dSet_eq, dRet_eq]
      refine link_step hp3 hs hn (fun e => err o3 (k0.over e (by rw [← e]; rfl))) (fun y hy hd => err o3 (k0.bad hy hd)) fun y d1 hy hd => ?_
      rw [l3]
      have k2 := k0.next hy (show rho .piece 1 y = some d1 from hd)
      simp only [List.set_cons_succ, List.set_cons_zero]
      refine methFin pk ?_
      simp only [dTup_eq, dCons_eq, dNil_eq, dC_eq, dVar_eq]
      refine take_step pk hs (by have := List.getElem?_eq_some_iff.1 hy; obtain ⟨z, _⟩ := this; omega) (hS.rdr _) (fun R h => h) (fun e => err ok (k2.over e (by rw [← e]; rfl))) (fun y hy hd => err ok (k2.bad hy hd)) fun y d2 hy hd => ?_
      rw [l2]
      have k3 := k2.next hy (show rho .piece 2 y = some d2 from hd)
      refine ⟨_, rfl, by show 3 ≤ sizeLine; decide, fin_of pk (fun e => frz_of (okk ok (k3.done e (by rw [← e]; rfl)))) fun e => ?_⟩
      have hl : 3 < ws.length := by have := List.getElem?_eq_some_iff.1 hy; obtain ⟨z, _⟩ := this; omega
      exact err ok (k3.bad (List.getElem?_eq_getElem hl) rfl)
    | free =>
      refine dm_miss (by rw [hx']; decide +kernel) (dm_miss (by rw [hx']; decide +kernel) (dm_miss (by rw [hx']; decide +kernel) (dm_miss (by rw [hx']; decide +kernel) (dm_miss (by rw [hx']; decide +kernel) ?_))))
      simp only [dRet_eq]
      refine methFin hp3 ?_
      simp only [dTup_eq, dCons_eq, dNil_eq, dC_eq]
      refine ⟨by show 1 ≤ sizeLine; decide, fin_of hp3 (fun e => frz_of (okk o3 (k0.done e rfl))) fun e => ?_⟩
      have hl : 1 < ws.length := by omega
      exact err o3 (k0.bad (List.getElem?_eq_getElem hl) rfl)
end
end K97
set_option Elab.async false
set_option linter.all false
set_option maxRecDepth 100000
set_option maxHeartbeats 1000000
namespace K97
open PySem PySem.Spec PyProof.Rows L2 DL TL NumText
theorem joinL_mem (S : List Nat) : ∀ (ps : List (List Nat)) (p : List Nat), p ∈ ps → p.length ≤ (joinL S ps).length
  | [q], p, h => by
    cases List.mem_singleton.1 h
    exact Nat.le_refl _
  | q :: r :: t, p, h => by
    have e : joinL S (q :: r :: t) = q ++ (S ++ joinL S (r :: t)) := by simp [joinL]
    rw [e]
    rcases List.mem_cons.1 h with h | h
    · subst h; simp
    · have := joinL_mem S (r :: t) p h
      simp
      omega
theorem split_mem {x y p : Str} (h : p ∈ Txt.split x y) : p.length ≤ x.length := by
  have e := PySem.StrLaws.join_split x y
  have e2 := tl_join y (Txt.split x y)
  rw [e] at e2
  rw [len_tl, len_tl, e2]
  exact joinL_mem _ _ _ (List.mem_map_of_mem h)
theorem spl_ne (S : List Nat) : ∀ (l : List Nat) (k : Nat) (acc : List Nat), spl S k acc l ≠ []
  | [], k, acc => by rw [spl_nil]; simp
  | c :: r, 0, acc => by
    cases h : pre S (c :: r) with
    | true => rw [spl_hit h]; simp
    | false => rw [spl_miss h]; exact spl_ne S r _ _
  | c :: r, k + 1, acc => spl_ne S r k acc
theorem split_pos (x y : Str) (hy : tl y ≠ []) (hk : y.cps.all (· < 256) = true) : 1 ≤ (Txt.split x y).length := by
  have h := split_spl x y hy (kind_ok hk)
  have h2 := spl_ne (tl y) (tl x) 0 []
  rw [← h] at h2
  cases e : Txt.split x y with
  | nil => rw [e] at h2; exact absurd rfl h2
  | cons _ _ => simp
def isThing : D → Prop
  | .non => True | .bl _ => True | .int _ => True | .lst _ => True | _ => False
def rowsOf (x : Str) : List (List Str) := (Txt.split x "\n").map fun l => Txt.split l " "
def rowD (r : List Str) : D := .lst (r.map .str)
def spLines (a : Ad) : SpD := fun ds w E Q => (∃ x, ds = [.str x] ∧ x.length + 2 ≤ sL ∧ Q (.lst ((rowsOf x).map rowD)) w) ∨ ∃ d, ds = [d] ∧ isThing d ∧ E (errD a (.int 0) (.int 0)) w
theorem pure_lines {a : Ad} (ds : List D) (w : Wd) (E : XDp) (Q : VKD) (h : spLines a ds w E Q) : t_lines_in a (fun x _ w' => E x w') { nx := fun _ w' => Q .non w', rt := Q } (startD ["text", "line"] ds) w := by
  unfold t_lines_in
  rcases h with ⟨x, rfl, hx, q⟩ | ⟨d, rfl, hd, q⟩
  · rw [show startD ["text", "line"] [D.str x] = [some (.str x), none] from rfl]
    simp only [dSeq_eq, dIfS_eq, dNot_eq, dTru_eq, dCB_eq, dCons_eq, dNil_eq, dVar_eq, dC_eq]
    refine ⟨_, rfl, .str x, "str", "str", true, rfl, rfl, by decide, ?_⟩
    simp only [truD_bl, Bool.not_true, if_neg (show ¬ (false = true) by decide), dNext_eq, dRet_eq]
    have hz : x.length + 2 ≤ sizeLine := Nat.le_trans hx sL_line
    refine lc_map1 (w1 := w) ((Txt.split x "\n").map .str) (fun d => match d with | .str l => rowD (Txt.split l " ") | _ => .non) (fun R h => ?_) ?_ ?_ ?_
    · simp only [iSeqL_eq, dM1_eq, dVar_eq, dC_eq]
      refine ⟨_, rfl, x, rfl, x, _, rfl, rfl, by decide +kernel, hz, _, .inl rfl, h⟩
    · rw [List.length_map]
      exact Nat.le_trans (split_le x "\n") hz
    · intro i d w' Q' hd hq
      rw [List.getElem?_map] at hd
      obtain ⟨l, hl, rfl⟩ := Option.map_eq_some_iff.mp hd
      have := split_mem (List.mem_of_getElem? hl)
      simp only [gdName_eq, dM1_eq, dVar_eq, dC_eq]
      exact ⟨_, rfl, l, rfl, l, _, rfl, rfl, by decide +kernel, by omega, hq⟩
    · refine frz_of ?_
      rw [List.map_map]
      unfold rowsOf at q
      rw [List.map_map] at q
      exact q
  · rw [show startD ["text", "line"] [d] = [some d, none] from rfl]
    simp only [dSeq_eq, dIfS_eq, dNot_eq, dTru_eq, dCB_eq, dCons_eq, dNil_eq, dVar_eq, dC_eq]
    refine ⟨_, rfl, ?_⟩
    obtain ⟨t, h1, h2⟩ : ∃ t, tyD w d = some t ∧ kitB t "str" = some false := by
      cases d with
      | non => exact ⟨"NoneType", rfl, by decide⟩
      | bl _ => exact ⟨"bool", rfl, by decide⟩
      | int _ => exact ⟨"int", rfl, by decide⟩
      | lst _ => exact ⟨"list", rfl, by decide⟩
      | _ => exact hd.elim
    exact ⟨d, "str", t, false, rfl, h1, h2, rfl, q⟩
def fileR : List (List Str) → Nat → Except (Nat × Nat) (List D)
  | [], _ => .ok []
  | r :: rest, i => match imgR r with
    | .error j => .error (i, j)
    | .ok d => (fileR rest (i + 1)).map (d :: ·)
theorem fileR_cons {r : List Str} {rest : List (List Str)} {i : Nat} : fileR (r :: rest) i = match imgR r with
    | .error j => .error (i, j)
    | .ok d => (fileR rest (i + 1)).map (d :: ·) := rfl
structure Fut0 (a : Ad) (w w' : Wd) : Prop where
  old : ∀ b o, w b = some o → b ≠ a.tL → w' b = some o
  tb : TbW w' a.tL qL
def onFile (a : Ad) (w : Wd) (E : XDp) (Q : VKD) : Except (Nat × Nat) (List D) → Prop
  | .ok ds => ∀ w', Fut0 a w w' → Q (.tup ds) w'
  | .error (i, j) => ∀ w', Fut0 a w w' → E (errD a (.int i) (.int j)) w'
def spRead (a : Ad) : SpD := fun ds w E Q => TbW w a.tL qL ∧ ((∃ x, ds = [.str x] ∧ x.length + 2 ≤ sL ∧ onFile a w E Q (fileR (rowsOf x) 0)) ∨ ∃ d, ds = [d] ∧ isThing d ∧ E (errD a (.int 0) (.int 0)) w)
theorem rows_sz {x : Str} {r : List Str} (h : r ∈ rowsOf x) (hx : x.length + 2 ≤ sL) : Sz r ∧ 1 ≤ r.length := by
  unfold rowsOf at h
  obtain ⟨l, hl, rfl⟩ := List.mem_map.1 h
  have h1 := split_mem hl
  refine ⟨⟨?_, fun y hy => ?_⟩, split_pos l " " (by decide +kernel) (by decide +kernel)⟩
  · have := split_le l " "
    omega
  · have := split_mem hy
    omega
theorem drop_atR {α : Type} {ws : List α} {j : Nat} {x : α} (h : ws[j]? = some x) : ws.drop j = x :: ws.drop (j + 1) := by
  obtain ⟨h1, h2⟩ := List.getElem?_eq_some_iff.mp h
  rw [List.drop_eq_getElem_cons h1, h2]
theorem map_map_fx {e : Except (Nat × Nat) (List D)} {f g : List D → List D} : (e.map g).map f = e.map (fun x => f (g x)) := by cases e <;> rfl
theorem tb_new {w : Wd} {Pt p : Addr} {q : Str} {o : DO} (t : TbW w Pt q) (h : w p = none) : TbW (wupd w p o) Pt q := by
  obtain ⟨ps, h1, h2, h3⟩ := t
  refine ⟨ps, by rw [wupd_ne (fun z => by rw [z, h] at h1; cases h1)]; exact h1, h2, fun pos cv hc => ?_⟩
  obtain ⟨c, e, hc'⟩ := h3 pos cv hc
  exact ⟨c, e, by rw [wupd_ne (fun z => by rw [z, h] at hc'; cases hc')]; exact hc'⟩
theorem tb_lst {w : Wd} {Pt p : Addr} {q : Str} {o : DO} {l : List D} (t : TbW w Pt q) (h : w p = some (.lst l)) : TbW (wupd w p o) Pt q := by
  obtain ⟨ps, h1, h2, h3⟩ := t
  refine ⟨ps, by rw [wupd_ne (fun z => by rw [z, h] at h1; cases h1)]; exact h1, h2, fun pos cv hc => ?_⟩
  obtain ⟨c, e, hc'⟩ := h3 pos cv hc
  exact ⟨c, e, by rw [wupd_ne (fun z => by rw [z, h] at hc'; cases hc')]; exact hc'⟩
theorem tb_del {w : Wd} {Pt p : Addr} {q : Str} {l : List D} (t : TbW w Pt q) (h : w p = some (.lst l)) : TbW (wdel w p) Pt q := by
  obtain ⟨ps, h1, h2, h3⟩ := t
  refine ⟨ps, by rw [wdel_ne (fun z => by rw [z, h] at h1; cases h1)]; exact h1, h2, fun pos cv hc => ?_⟩
  obtain ⟨c, e, hc'⟩ := h3 pos cv hc
  exact ⟨c, e, by rw [wdel_ne (fun z => by rw [z, h] at hc'; cases hc')]; exact hc'⟩
theorem enum_len (ds : List D) : (enumD ds).length = ds.length := by unfold enumD; simp
theorem pure_read {a : Ad} (ds : List D) (w : Wd) (E : XDp) (Q : VKD) (h : spRead a ds w E Q) : t_read_file a (spInit a) (spImg a) (spLines a) (fun x _ w' => E x w') { nx := fun _ w' => Q .non w', rt := Q } (startD ["text", "page", "words"] ds) w := by
  unfold t_read_file
  obtain ⟨ht, ⟨x, rfl, hx, q⟩ | ⟨d, rfl, hd, q⟩⟩ := h
  · rw [show startD ["text", "page", "words"] [D.str x] = [some (.str x), none, none] from rfl]
    simp only [dRet_eq, dCB_eq, dCons_eq, dNil_eq]
    unfold dLcX iEnumD
    simp only [dCons_eq, dNil_eq, dCall_eq, dVar_eq]
    refine ⟨_, rfl, rfl, .inl ⟨x, rfl, hx, ?_⟩⟩
    refine ⟨_, .inl rfl, fun l hl => ?_⟩
    have hz : x.length + 2 ≤ sizeLine := Nat.le_trans hx sL_line
    have hrl : (rowsOf x).length ≤ sizeLine := by
      unfold rowsOf
      rw [List.length_map]
      exact Nat.le_trans (split_le x "\n") hz
    have lt : l ≠ a.tL := fun z => by
      obtain ⟨ps, h1, _⟩ := ht
      rw [← z, hl] at h1; cases h1
    refine ⟨fun i w' => Fut0 a w w' ∧ ∃ acc : List D, w' l = some (.lst acc) ∧ acc.length = i ∧ i ≤ (rowsOf x).length ∧ fileR (rowsOf x) 0 = (fileR ((rowsOf x).drop i) i).map (acc ++ ·), ⟨⟨fun b o hb _ => by rw [wupd_ne (fun z => by rw [z, hl] at hb; cases hb)]; exact hb, tb_new ht hl⟩, [], wupd_same, rfl, Nat.zero_le _, ?_⟩, ?_, ?_⟩
    · rw [List.drop_zero]
      cases fileR (rowsOf x) 0 <;> rfl
    · rintro i d w' hd ⟨f, acc, hacc, rfl, hi, he⟩
      obtain ⟨d', hd', rfl⟩ := enumD_at hd
      rw [List.getElem?_map] at hd'
      obtain ⟨row, hrow, rfl⟩ := Option.map_eq_some_iff.mp hd'
      obtain ⟨hil, _⟩ := List.getElem?_eq_some_iff.mp hrow
      obtain ⟨sz, pos⟩ := rows_sz (List.mem_of_getElem? hrow) hx
      rw [drop_atR hrow, fileR_cons] at he
      simp only [gdTup_tup, gdCons_cons, gdNil_nil, gdName_eq, dYes_eq]
      refine ⟨rfl, ?_⟩
      rw [if_pos trivial]
      unfold dMake
      simp only [dCons_eq, dNil_eq, dVar_eq]
      refine ⟨_, rfl, _, rfl, fun p hp => ⟨rfl, p, row, acc.length, rfl, wupd_same, rfl, rfl, ?_⟩⟩
      rw [wupd_upd]
      have lp : l ≠ p := fun z => by rw [← z, hacc] at hp; cases hp
      have hp4 : Ln a p row acc.length 0 (LnW a p row acc.length 0 w') := Ln_LnW
      refine ⟨p, row, acc.length, rfl, hp4, sz, pos, tb_new f.tb hp, ?_⟩
      have back : ∀ {w''}, Fut a p (LnW a p row acc.length 0 w') w'' → Fut0 a w w'' ∧ w'' l = some (.lst acc) := fun {w''} g => by
        refine ⟨⟨fun b o hb n1 => ?_, g.tb⟩, ?_⟩
        · have hb' := f.old b o hb n1
          have nbp : b ≠ p := fun z => by rw [z, hp] at hb'; cases hb'
          exact g.old b o (by unfold LnW; rw [wupd_ne nbp]; exact hb') nbp n1
        · exact g.old l _ (by unfold LnW; rw [wupd_ne lp]; exact hacc) lp lt
      cases hr : imgR row with
      | error j =>
        rw [hr] at he
        dsimp only at he
        rw [he] at q
        exact fun w'' g => q _ (back g).1
      | ok d =>
        rw [hr] at he
        dsimp only at he
        intro w'' g
        obtain ⟨g1, g2⟩ := back g
        refine ⟨acc, g2, by omega, ⟨fun b o hb n1 => ?_, tb_lst g1.tb g2⟩, acc ++ [d], wupd_same, by simp, by omega, ?_⟩
        · rw [wupd_ne (fun z => by rw [z, hl] at hb; cases hb)]
          exact g1.old b o hb n1
        · rw [he, map_map_fx]
          congr 1
          funext u
          simp
    · rintro w' ⟨f, acc, hacc, ha, hi, he⟩
      rw [enum_len, List.length_map] at he
      refine ⟨_, _, Frz.lst hacc, ?_⟩
      rw [tupCD_lst]
      refine frz_of ?_
      have e : fileR (rowsOf x) 0 = .ok acc := by rw [he, List.drop_length]; simp [fileR, Except.map]
      rw [e] at q
      refine q _ ⟨fun b o hb n1 => ?_, tb_del f.tb hacc⟩
      rw [wdel_ne (fun z => by rw [z, hl] at hb; cases hb)]
      exact f.old b o hb n1
  · rw [show startD ["text", "page", "words"] [d] = [some d, none, none] from rfl]
    simp only [dRet_eq, dCB_eq, dCons_eq, dNil_eq]
    unfold dLcX iEnumD
    simp only [dCons_eq, dNil_eq, dCall_eq, dVar_eq]
    exact ⟨_, rfl, rfl, .inr ⟨d, rfl, hd, q⟩⟩
end K97
set_option Elab.async false
set_option linter.all false
set_option maxRecDepth 100000
set_option maxHeartbeats 1000000
/-! K97L1: what is read is what was written: numbers, keys. -/
namespace K97
open PySem PySem.Spec PyProof.Rows L2 DL TL NumText
theorem val_snoc (l : List Nat) (c : Nat) : digitsVal (l ++ [c]) = digitsVal l * 10 + (c - 48) := by
  unfold digitsVal
  rw [List.foldl_append]; rfl
theorem snoc_of {l : List Nat} (h : l ≠ []) : ∃ m c, l = m ++ [c] := ⟨l.dropLast, l.getLast h, (List.dropLast_concat_getLast h).symm⟩
theorem canon : ∀ (k : Nat) (l : List Nat), l.length = k → l ≠ [] → AllDigits l → (l.head? ≠ some 48 → numL (digitsVal l) = l ∧ 1 ≤ digitsVal l) ∧ digitsVal l < 10 ^ k
  | 0, l, hl, hn, _ => absurd (List.length_eq_zero_iff.1 hl) hn
  | k + 1, l, hl, hn, hd => by
    obtain ⟨m, c, rfl⟩ := snoc_of hn
    have hc := hd c (by simp)
    rw [val_snoc]
    by_cases hm : m = []
    · subst hm
      simp at hl
      subst hl
      have v0 : digitsVal [] = 0 := rfl
      rw [v0]
      refine ⟨fun h => ?_, by simp; omega⟩
      have : c ≠ 48 := by simpa using h
      refine ⟨?_, by omega⟩
      rw [show 0 * 10 + (c - 48) = c - 48 by omega, numL_lt (by omega)]
      simp; omega
    · have hlm : m.length = k := by simpa using hl
      obtain ⟨h1, h2⟩ := canon k m hlm hm (fun d h => hd d (by simp [h]))
      have hp : 10 ^ (k + 1) = 10 ^ k * 10 := by rw [Nat.pow_succ]
      refine ⟨fun h => ?_, by rw [hp]; omega⟩
      have hh : m.head? ≠ some 48 := by
        cases m with
        | nil => exact absurd rfl hm
        | cons a r => simpa using h
      obtain ⟨e1, e2⟩ := h1 hh
      refine ⟨?_, by omega⟩
      rw [numL_step (by omega), show (digitsVal m * 10 + (c - 48)) / 10 = digitsVal m by omega, show (digitsVal m * 10 + (c - 48)) % 10 = c - 48 by omega, e1, show 48 + (c - 48) = c by omega]
theorem num_ok {l : List Nat} (h : numOk l = true) : numL (digitsVal l) = l ∧ digitsVal l < 10 ^ 15 := by
  unfold numOk at h
  rw [Bool.and_eq_true, Bool.and_eq_true, Bool.or_eq_true] at h
  obtain ⟨⟨h1, h2⟩, h3⟩ := h
  have h1 := of_decide_eq_true h1
  have hn : l ≠ [] := fun z => by rw [z] at h1; simp at h1
  obtain ⟨c1, c2⟩ := canon l.length l rfl hn (allDig.1 h2)
  refine ⟨?_, Nat.lt_of_lt_of_le c2 (Nat.pow_le_pow_right (by omega) h1.2)⟩
  rcases h3 with h3 | h3
  · have := of_decide_eq_true h3
    rw [this]
    decide +kernel
  · exact (c1 (of_decide_eq_true h3)).1
theorem log_small {n : Nat} (h : n < 10 ^ 15) : n.log2 < 1920 := by
  by_cases h0 : n = 0
  · subst h0; decide
  · rw [Nat.log2_lt h0]
    exact Nat.lt_of_lt_of_le h (Nat.le_trans (show 10 ^ 15 ≤ 2 ^ 50 by decide) (Nat.pow_le_pow_right (by omega) (by omega)))
theorem num_back {x : Str} {d : D} (h : rd numR x = some d) : ∃ n : Nat, d = .int n ∧ (toString (n : Int) : Str) = x ∧ n < 10 ^ 15 := by
  unfold rd numR at h
  by_cases c : numOk (tl x) = true
  · rw [if_pos c] at h
    simp at h
    obtain ⟨e1, e2⟩ := num_ok c
    refine ⟨digitsVal (tl x), h.symm, ext_tl ?_, e2⟩
    rw [tl_num, e1]
  · rw [if_neg c] at h; simp at h
theorem tl_neg (n : Nat) (h : 0 < n) : tl (Str.ofString (toString (-(n : Int)))) = 45 :: numL n := by
  obtain ⟨m, rfl⟩ : ∃ m, n = m + 1 := ⟨n - 1, by omega⟩
  have e : toString (-((m + 1 : Nat) : Int)) = "-" ++ toString (((m + 1 : Nat)) : Int) := rfl
  rw [e, tl_ofString, String.toList_append, List.map_append, ← tl_ofString (toString ((m + 1 : Nat) : Int)), tl_num]
  rfl
theorem key_back {x : Str} {d : D} (h : rd keyR x = some d) : ∃ i : Int, d = .int i ∧ (toString i : Str) = x ∧ i.natAbs < 10 ^ 15 := by
  unfold rd keyR at h
  by_cases c : (tl x).head? = some 45
  · simp only [if_pos c] at h
    rcases numR_cases (mkS (tl x).tail) with e | ⟨n, e⟩
    · rw [e] at h; simp at h
    · have hr : rd numR (mkS (tl x).tail) = some (.int n) := by unfold rd; rw [e]; rfl
      obtain ⟨m, e1, e2, e3⟩ := num_back hr
      have hmn : (n : Int) = m := by injection e1
      have hmn' : n = m := by omega
      subst hmn'
      rw [e] at h
      by_cases hn : 0 < n
      · simp [hn] at h
        refine ⟨-(n : Int), h.symm, ext_tl ?_, by omega⟩
        have e4 : tl (Str.ofString (toString ((n : Nat) : Int))) = (tl x).tail := by
          rw [show Str.ofString (toString ((n : Nat) : Int)) = _ from e2, tl_mkS]
        rw [tl_num] at e4
        rw [tl_neg n hn, e4]
        cases hx : tl x with
        | nil => rw [hx] at c; cases c
        | cons a r =>
          rw [hx] at c
          simp at c
          rw [c]; rfl
      · simp [hn] at h
  · simp only [if_neg c] at h
    obtain ⟨n, e1, e2, e3⟩ := num_back (show rd numR x = some d from h)
    exact ⟨n, e1, e2, by simpa using e3⟩
end K97
set_option Elab.async false
set_option linter.all false
set_option maxRecDepth 100000
set_option maxHeartbeats 1000000
/-! K97L2: what is read is what was written: texts, holdings, links. -/
namespace K97
open PySem PySem.Spec PyProof.Rows L2 DL TL NumText
def repL (c : Nat) (z l : List Nat) : List Nat := l.flatMap fun a => if a = c then z else [a]
theorem pre_one (c a : Nat) (r : List Nat) : pre [c] (a :: r) = decide (a = c) := by
  unfold pre; simp; rfl
theorem join_spl (c : Nat) (z : List Nat) : ∀ (l acc : List Nat), joinL z (spl [c] 0 acc l) = acc ++ repL c z l
  | [], acc => by rw [spl_nil]; simp [joinL, repL]
  | a :: r, acc => by
    by_cases h : a = c
    · rw [spl_hit (by rw [pre_one]; exact decide_eq_true h)]
      show joinL z (acc :: spl [c] 0 [] r) = _
      have ih := join_spl c z r []
      cases hs : spl [c] 0 [] r with
      | nil => exact absurd hs (spl_ne _ _ _ _)
      | cons p q =>
        rw [hs] at ih
        show acc ++ (z ++ joinL z (p :: q)) = _
        rw [ih]
        simp [repL, h]
    · rw [spl_miss (by rw [pre_one]; exact decide_eq_false h), join_spl c z r (acc ++ [a])]
      simp [repL, h]
theorem tl_replace (x z : Str) (c : Nat) (hc : c < 256) : tl (Txt.replace x ⟨#[c]⟩ z) = repL c (tl z) (tl x) := by
  rw [PySem.StrLaws.replace_one, tl_join]
  rw [split_spl x ⟨#[c]⟩ (by simp [tl]) (kind_ok (by simpa using hc))]
  show joinL (tl z) (spl [c] 0 [] (tl x)) = _
  rw [join_spl]; rfl
def escL (l : List Nat) : List Nat := repL 32 [126, 95] (repL 126 [126, 126] l)
theorem escL_cons (a : Nat) (r : List Nat) : escL (a :: r) = (if a = 126 then [126, 126] else if a = 32 then [126, 95] else [a]) ++ escL r := by
  unfold escL repL
  by_cases h1 : a = 126
  · subst h1; simp
  · by_cases h2 : a = 32
    · subst h2; simp
    · simp [h1, h2]
theorem un_esc : ∀ (l m : List Nat), 32 ∉ l → (unE false l = some m → escL m = l) ∧ (unE true l = some m → escL m = 126 :: l)
  | [], m, _ => ⟨fun h => by simp [unE] at h; rw [h]; rfl, fun h => by simp [unE] at h⟩
  | c :: r, m, hs => by
    have hc : c ≠ 32 := fun z => hs (by simp [z])
    have hr : 32 ∉ r := fun z => hs (by simp [z])
    refine ⟨fun h => ?_, fun h => ?_⟩
    · rw [unE_f] at h
      by_cases h1 : c = 126
      · rw [if_pos h1] at h
        rw [(un_esc r m hr).2 h, h1]
      · rw [if_neg h1] at h
        obtain ⟨m', hm, rfl⟩ := Option.map_eq_some_iff.1 h
        rw [escL_cons, if_neg h1, if_neg hc, (un_esc r m' hr).1 hm]; rfl
    · rw [unE_t] at h
      by_cases h1 : c = 95
      · rw [if_pos h1] at h
        obtain ⟨m', hm, rfl⟩ := Option.map_eq_some_iff.1 h
        rw [escL_cons, if_neg (by decide), if_pos rfl, (un_esc r m' hr).1 hm, h1]; rfl
      · rw [if_neg h1] at h
        by_cases h2 : c = 126
        · rw [if_pos h2] at h
          obtain ⟨m', hm, rfl⟩ := Option.map_eq_some_iff.1 h
          rw [escL_cons, if_pos rfl, (un_esc r m' hr).1 hm, h2]; rfl
        · rw [if_neg h2] at h; cases h
theorem esc_len : ∀ (l : List Nat), l.length ≤ (escL l).length
  | [] => Nat.zero_le _
  | a :: r => by
    have := esc_len r
    rw [escL_cons, List.length_append]
    by_cases h1 : a = 126
    · simp [h1]; omega
    · by_cases h2 : a = 32
      · simp [h2]; omega
      · simp [h1, h2]; omega
theorem str_back {x : Str} {d : D} (hx : 32 ∉ tl x) (h : rd strR x = some d) : ∃ y : Str, d = .str y ∧ tl x = 61 :: escL (tl y) ∧ y.length ≤ x.length := by
  unfold rd strR at h
  by_cases c : (tl x).head? = some 61
  · simp only [if_pos c] at h
    cases hm : unE false (tl x).tail with
    | none => rw [hm] at h; simp at h
    | some m =>
      rw [hm] at h
      simp at h
      have e0 : tl x = 61 :: (tl x).tail := by
        cases hl : tl x with
        | nil => rw [hl] at c; cases c
        | cons a r => rw [hl] at c; simp at c; rw [c]; rfl
      have e1 := (un_esc (tl x).tail m (fun z => hx (by rw [e0]; simp [z]))).1 hm
      refine ⟨mkS m, h.symm, by rw [tl_mkS, e1]; exact e0, ?_⟩
      rw [len_mkS, len_tl, e0, ← e1]
      have := esc_len m
      simp
      omega
  · simp only [if_neg c] at h
    simp at h
theorem held_back {x : Str} {d : D} (hx : 32 ∉ tl x) (h : rd heldR x = some d) : (rd strR x = some d) ∨ ∃ i j : Nat, d = .tup [.str "at", .int i, .int j] ∧ tl x = 64 :: (numL i ++ 58 :: numL j) ∧ i < 10 ^ 15 ∧ j < 10 ^ 15 := by
  unfold rd heldR at h
  by_cases c : (tl x).head? = some 64
  · right
    simp only [if_pos c] at h
    rcases numR_cases (mkS (bef 58 (tl x).tail)) with e1 | ⟨n, e1⟩ <;> rcases numR_cases (mkS (aft 58 (tl x).tail)) with e2 | ⟨m, e2⟩ <;> rw [e1, e2] at h
    · simp at h
    · simp at h
    · simp at h
    · simp at h
      have hr1 : rd numR (mkS (bef 58 (tl x).tail)) = some (.int n) := by unfold rd; rw [e1]; rfl
      have hr2 : rd numR (mkS (aft 58 (tl x).tail)) = some (.int m) := by unfold rd; rw [e2]; rfl
      obtain ⟨n', a1, a2, a3⟩ := num_back hr1
      obtain ⟨m', b1, b2, b3⟩ := num_back hr2
      have hn : n = n' := by injection a1; omega
      have hm : m = m' := by injection b1; omega
      subst hn; subst hm
      refine ⟨n, m, h.symm, ?_, a3, b3⟩
      have a4 := congrArg tl a2
      have b4 := congrArg tl b2
      rw [tl_num, tl_mkS] at a4 b4
      have e0 : tl x = 64 :: (tl x).tail := by
        cases hl : tl x with
        | nil => rw [hl] at c; cases c
        | cons a r => rw [hl] at c; simp at c; rw [c]; rfl
      rw [e0, a4, b4]
      rcases cut_cases 58 (tl x).tail with ⟨_, _, h3⟩ | hh
      · rw [h3] at b4
        exact absurd b4 (numL_ne m)
      · rw [← hh]
  · left
    simp only [if_neg c] at h
    exact h
theorem lnk_back {x : Str} {d : D} (h : lnk x = some d) : (d = .non ∧ x = "-") ∨ ∃ n : Nat, d = .int n ∧ (toString (n : Int) : Str) = x ∧ n < 10 ^ 15 := by
  unfold lnk at h
  by_cases c : x = "-"
  · rw [if_pos c] at h; cases h; exact .inl ⟨rfl, c⟩
  · rw [if_neg c] at h; exact .inr (num_back h)
end K97
set_option Elab.async false
set_option linter.all false
set_option maxRecDepth 100000
set_option maxHeartbeats 1000000
/-! K97P10: what shows one word. -/
namespace K97
open PySem PySem.Spec PyProof.Rows L2 DL TL NumText
theorem repL_len (c : Nat) (z : List Nat) (hz : z.length = 2) : ∀ l : List Nat, (repL c z l).length ≤ 2 * l.length
  | [] => Nat.le_refl _
  | a :: r => by
    have := repL_len c z hz r
    unfold repL at this ⊢
    rw [List.flatMap_cons, List.length_append]
    by_cases h : a = c
    · rw [if_pos h, hz, List.length_cons]; omega
    · rw [if_neg h, List.length_cons, List.length_cons, List.length_nil]; omega
theorem dRepl_eq {to : TED} {y z : Str} {E : XD} {ρ : Rho} {w : Wd} {Q : VKD} : dRepl to y z E ρ w Q = to E ρ w fun v w1 => ∃ x, v = .str x ∧ x.length + (x.length + 1) * z.length ≤ 16777216 ∧ Q (.str (Txt.replace x y z)) w1 := rfl
def escS (y : Str) : Str := mkS (61 :: escL (tl y))
def spShS : SpD := fun ds w _ Q => ∃ y : Str, ds = [.str y] ∧ y.length ≤ sL ∧ Q (.str (escS y)) w
theorem pure_show_string {a : Ad} (ds : List D) (w : Wd) (E : XDp) (Q : VKD) (h : spShS ds w E Q) : t_show_string a (fun x _ w' => E x w') { nx := fun _ w' => Q .non w', rt := Q } (startD ["value"] ds) w := by
  obtain ⟨y, rfl, hy, q⟩ := h
  unfold t_show_string
  rw [show startD ["value"] [D.str y] = [some (.str y)] from rfl]
  simp only [dRet_eq, dBin_eq, dC_eq, dRepl_eq, dVar_eq]
  have l2 : (Str.ofString "~~").length = 2 := by decide +kernel
  have l3 : (Str.ofString "~_").length = 2 := by decide +kernel
  have e1 : tl (Txt.replace y (Str.ofString "~") (Str.ofString "~~")) = repL 126 [126, 126] (tl y) := by
    rw [show Str.ofString "~" = ⟨#[126]⟩ by decide +kernel, tl_replace _ _ _ (by decide), show tl (Str.ofString "~~") = [126, 126] by decide +kernel]
  have e2 : tl (Txt.replace (Txt.replace y (Str.ofString "~") (Str.ofString "~~")) (Str.ofString " ") (Str.ofString "~_")) = escL (tl y) := by
    rw [show Str.ofString " " = ⟨#[32]⟩ by decide +kernel, tl_replace _ _ _ (by decide), show tl (Str.ofString "~_") = [126, 95] by decide +kernel, e1]; rfl
  have b1 := repL_len 126 [126, 126] rfl (tl y)
  have b2 := repL_len 32 [126, 95] rfl (repL 126 [126, 126] (tl y))
  have hyl := len_tl y
  have hs : sL = 1000000 := rfl
  refine ⟨_, rfl, y, rfl, by rw [l2]; omega, _, rfl, ?_, ?_⟩
  · rw [l3, len_tl, e1]; omega
  · rw [addD_str]
    refine ⟨?_, frz_of ?_⟩
    · rw [len_tl (Txt.replace _ _ _), e2, show (Str.ofString "=").length = 1 by decide +kernel]
      unfold escL
      have : sizeLine = 16777216 := rfl
      omega
    · have : Str.ofString "=" ++ Txt.replace (Txt.replace y (Str.ofString "~") (Str.ofString "~~")) (Str.ofString " ") (Str.ofString "~_") = escS y := by
        refine ext_tl ?_
        rw [tl_append, e2, show tl (Str.ofString "=") = [61] by decide +kernel]; rfl
      rw [this]; exact q
/-- x is a word without spaces that reads as d -/
def spShHeld : SpD := fun ds w _ Q => ∃ (x : Str) (d : D), ds = [d] ∧ 32 ∉ tl x ∧ x.length ≤ sL ∧ rd heldR x = some d ∧ Q (.str x) w
theorem num_len {n : Nat} (h : n < 10 ^ 15) : (numL n).length ≤ 15 := numL_len (by decide) h
theorem pure_show_held {a : Ad} (ds : List D) (w : Wd) (E : XDp) (Q : VKD) (h : spShHeld ds w E Q) : t_show_held a spShS (fun x _ w' => E x w') { nx := fun _ w' => Q .non w', rt := Q } (startD ["held"] ds) w := by
  obtain ⟨x, d, rfl, h32, hx, hr, q⟩ := h
  unfold t_show_held
  rw [show startD ["held"] [d] = [some d] from rfl]
  simp only [dSeq_eq, dIfS_eq, dTru_eq, dCB_eq, dCons_eq, dNil_eq, dVar_eq, dC_eq]
  rcases held_back h32 hr with hs | ⟨i, j, rfl, e, hi, hj⟩
  · obtain ⟨y, rfl, e, hy⟩ := str_back h32 hs
    refine ⟨_, rfl, .str y, "str", "str", true, rfl, rfl, by decide, ?_⟩
    dsimp only
    rw [truD_bl, if_pos rfl]
    simp only [dRet_eq, dCall_eq, dCons_eq, dNil_eq, dVar_eq]
    refine ⟨_, rfl, rfl, y, rfl, Nat.le_trans hy hx, frz_of ?_⟩
    rw [show escS y = x from ext_tl e.symm]; exact q
  · refine ⟨_, rfl, _, "str", "tuple", false, rfl, rfl, by decide, ?_⟩
    dsimp only
    rw [truD_bl, if_neg (by decide)]
    simp only [dNext_eq, dRet_eq]
    have n1 := num_len hi
    have n2 := num_len hj
    have t1 : (toString ((i : Nat) : Int) : Str).length = (numL i).length := by rw [len_tl, tl_num]
    have t2 : (toString ((j : Nat) : Int) : Str).length = (numL j).length := by rw [len_tl, tl_num]
    have sz : sizeLine = 16777216 := rfl
    unfold dJoined
    refine ⟨"@", rfl, by decide +kernel, ?_⟩
    refine ⟨_, rfl, 1, rfl, _, _, rfl, rfl, log_small hi, _, rfl, ?_, ?_⟩
    · rw [Str.length_append, Str.length_append, t1, show (Str.empty).length = 0 from rfl, show (Str.ofString "@").length = 1 by decide +kernel]; omega
    refine ⟨":", rfl, ?_, ?_⟩
    · rw [Str.length_append, Str.length_append, Str.length_append, t1, show (Str.empty).length = 0 from rfl, show (Str.ofString "@").length = 1 by decide +kernel, show (Str.ofString ":").length = 1 by decide +kernel]; omega
    refine ⟨_, rfl, 2, rfl, _, _, rfl, rfl, log_small hj, _, rfl, ?_, ?_⟩
    · rw [Str.length_append, Str.length_append, Str.length_append, Str.length_append, t1, t2, show (Str.empty).length = 0 from rfl, show (Str.ofString "@").length = 1 by decide +kernel, show (Str.ofString ":").length = 1 by decide +kernel]; omega
    refine frz_of ?_
    have : Str.empty ++ "@" ++ toString ((i : Nat) : Int) ++ ":" ++ toString ((j : Nat) : Int) = x := by
      refine ext_tl ?_
      rw [tl_append, tl_append, tl_append, tl_append, tl_num, tl_num, e, show tl Str.empty = [] from rfl, show tl (Str.ofString "@") = [64] by decide +kernel, show tl (Str.ofString ":") = [58] by decide +kernel]
      simp
    rw [this]; exact q
def spShLink : SpD := fun ds w _ Q => ∃ (x : Str) (d : D), ds = [d] ∧ lnk x = some d ∧ Q (.str x) w
theorem pure_show_link {a : Ad} (ds : List D) (w : Wd) (E : XDp) (Q : VKD) (h : spShLink ds w E Q) : t_show_link a (fun x _ w' => E x w') { nx := fun _ w' => Q .non w', rt := Q } (startD ["number"] ds) w := by
  obtain ⟨x, d, rfl, hr, q⟩ := h
  unfold t_show_link
  rw [show startD ["number"] [d] = [some d] from rfl]
  simp only [dRet_eq, dIf_eq, isNT_eq, dVar_eq]
  rcases lnk_back hr with ⟨rfl, rfl⟩ | ⟨n, rfl, e, hn⟩
  · exact ⟨_, rfl, by rw [isNon_non, if_pos rfl]; exact frz_of q⟩
  · refine ⟨_, rfl, ?_⟩
    rw [isNon_int, if_neg (by decide)]
    simp only [dCB_eq, dCons_eq, dNil_eq, dVar_eq]
    refine ⟨_, rfl, strCD_int.2 ⟨by simpa using log_small hn, frz_of ?_⟩⟩
    rw [show (toString (n : Int) : Str) = x from e]; exact q
end K97
set_option Elab.async false
set_option linter.all false
set_option maxRecDepth 100000
set_option maxHeartbeats 1000000
/-! K97P11: what shows rows of words. -/
namespace K97
open PySem PySem.Spec PyProof.Rows L2 DL TL NumText
theorem lc2_map1 {ti : TID} {g : TGD} {ti1 : TID} {g1 : TGD} {te : TED} {vs vs1 : List Nat} {E : XD} {ρ : Rho} {w w1 : Wd} {Q : VKD} (ds : List D) (f : D → List D) (hti : ∀ R : List D → Wd → Prop, R ds w1 → ti E ρ w R) (hl : (ds.flatMap f).length ≤ sizeLine)
    (hs : ∀ (i : Nat) d w' (B : List D → Rho → Wd → Prop), ds[i]? = some d → (∀ ρ2 : Rho, (∀ (j : Nat) d1 w5 Q', (f d)[j]? = some d1 → Q' d1 w5 → g1 d1 (wipeD ρ2 vs1) w5 fun ρ3 w6 => te E0D ρ3 w6 Q') → B (f d) ρ2 w') → g d (wipeD ρ vs) w' fun ρ2 w2 => ti1 E0D ρ2 w2 fun ds1 w4 => B ds1 ρ2 w4)
    (hq : Q (.lst (ds.flatMap f)) w1) : dLc2 ti g dYes ti1 g1 dYes te vs vs1 E ρ w Q := by
  refine hti _ fun D hD => ?_
  refine ⟨fun i w' => w' = wupd w1 D (.lst ((ds.take i).flatMap f)), by simp, fun i d w' hd e => ?_, fun w' e => ?_⟩
  · subst e
    have hi : i < ds.length := (List.getElem?_eq_some_iff.mp hd).1
    have ht : (ds.take (i + 1)).flatMap f = (ds.take i).flatMap f ++ f d := by rw [List.take_add_one, hd]; simp
    have hlen : (ds.take i).flatMap f ++ f d = (ds.take (i + 1)).flatMap f := ht.symm
    have hle : ((ds.take i).flatMap f ++ f d).length ≤ (ds.flatMap f).length := by
      rw [hlen]
      conv => rhs; rw [← List.take_append_drop (i + 1) ds, List.flatMap_append, List.length_append]
      omega
    simp only [dYes_eq]
    show g d (wipeD ρ vs) _ fun ρ2 w2 => if True then _ else _
    simp only [if_true]
    refine hs i d _ (fun ds1 ρ2 w4 => ∃ Pw : Nat → Wd → Prop, Pw 0 w4 ∧ (∀ j d1 w, ds1[j]? = some d1 → Pw j w → g1 d1 (wipeD ρ2 vs1) w fun ρ3 w5 => te E0D ρ3 w5 fun y w7 => ∃ acc, w7 D = some (.lst acc) ∧ acc.length < sizeLine ∧ Pw (j + 1) (wupd w7 D (.lst (acc ++ [y])))) ∧ ∀ w, Pw ds1.length w → w = wupd w1 D (.lst ((ds.take (i + 1)).flatMap f))) hd fun ρ2 hin => ?_
    refine ⟨fun j w'' => w'' = wupd w1 D (.lst ((ds.take i).flatMap f ++ (f d).take j)), by simp, fun j d1 w'' hd1 e => ?_, fun w'' e => by rw [e, List.take_length, ht]⟩
    subst e
    have hj : j < (f d).length := (List.getElem?_eq_some_iff.mp hd1).1
    refine hin j d1 _ _ hd1 ⟨_, wupd_same, ?_, ?_⟩
    · rw [List.length_append] at hle ⊢
      rw [List.length_take]
      omega
    · show wupd (wupd _ _ _) _ _ = _
      rw [wupd_upd, List.take_add_one, hd1]
      simp
  · subst e
    refine ⟨_, _, Frz.lst wupd_same, ?_⟩
    rw [wdel_upd hD, List.take_length]
    exact hq
/-- the words and what they read as -/
def RdL (ρ : Nat → Str → Option D) : Nat → List Str → List D → Prop
  | _, [], ds => ds = []
  | k, x :: r, ds => ∃ d e, ds = d :: e ∧ ρ k x = some d ∧ RdL ρ (k + 1) r e
theorem rdl_of {ρ : Nat → Str → Option D} : ∀ {ws : List Str} {k : Nat} {ds : List D}, reads ρ ws k = .ok ds → RdL ρ k ws ds
  | [], k, ds, h => by cases h; rfl
  | x :: r, k, ds, h => by
    rw [reads_cons] at h
    cases hd : ρ k x with
    | none => rw [hd] at h; cases h
    | some d =>
      rw [hd] at h
      dsimp only at h
      cases he : reads ρ r (k + 1) with
      | error j => rw [he] at h; cases h
      | ok e =>
        rw [he] at h
        cases h
        exact ⟨d, e, rfl, hd, rdl_of he⟩
def NumW (d : D) (x : Str) : Prop := ∃ i : Int, d = .int i ∧ (toString i : Str) = x ∧ i.natAbs < 10 ^ 15
def Wt (ws : List Str) : Prop := (ws.map (·.length)).sum + ws.length ≤ 2 * sL
def shF : D → D
  | .int i => .str (toString i)
  | _ => .non
theorem rdl_map {ρ : Nat → Str → Option D} (hn : ∀ k x d, ρ k x = some d → NumW d x) : ∀ {ws : List Str} {k : Nat} {ds : List D}, RdL ρ k ws ds → ds.map shF = ws.map .str ∧ (∀ d ∈ ds, ∃ i : Int, d = .int i ∧ i.natAbs < 10 ^ 15) ∧ ds.length = ws.length
  | [], k, ds, h => by cases h; exact ⟨rfl, fun _ h => by simp at h, rfl⟩
  | x :: r, k, ds, ⟨d, e, e1, hd, h⟩ => by
    subst e1
    obtain ⟨i, rfl, hi, hb⟩ := hn _ _ _ hd
    obtain ⟨h1, h2, h3⟩ := rdl_map hn h
    refine ⟨?_, fun d' hd' => ?_, by simp [h3]⟩
    · rw [List.map_cons, List.map_cons, h1]
      show D.str (toString i) :: _ = _
      rw [show (toString i : Str) = x from hi]
    · rcases List.mem_cons.1 hd' with z | z
      · exact ⟨i, z, hb⟩
      · exact h2 d' z
def spShN : SpD := fun ds w _ Q => ∃ (ρ : Nat → Str → Option D) (k : Nat) (xs : List Str) (es : List D), ds = [.tup es] ∧ RdL ρ k xs es ∧ (∀ k x d, ρ k x = some d → NumW d x) ∧ Wt xs ∧ Q (.str (Txt.join " " xs)) w
theorem pure_show_numbers {a : Ad} (ds : List D) (w : Wd) (E : XDp) (Q : VKD) (h : spShN ds w E Q) : t_show_numbers a (fun x _ w' => E x w') { nx := fun _ w' => Q .non w', rt := Q } (startD ["numbers", "number"] ds) w := by
  obtain ⟨ρ, k, xs, es, rfl, hr, hn, hw, q⟩ := h
  obtain ⟨m1, m2, m3⟩ := rdl_map hn hr
  unfold t_show_numbers
  rw [show startD ["numbers", "number"] [D.tup es] = [some (.tup es), none] from rfl]
  simp only [dRet_eq, dM1_eq, dC_eq]
  have sz : sizeLine = 16777216 := rfl
  have hs : sL = 1000000 := rfl
  unfold Wt at hw
  refine ⟨_, rfl, lc_map1 (w1 := w) es shF (fun R h => ?_) (by omega) (fun i d w' Q' hd hq => ?_) ?_⟩
  · simp only [iSeqT_eq, dVar_eq]
    exact ⟨_, rfl, _, rfl, h⟩
  · obtain ⟨i', rfl, hi⟩ := m2 d (List.mem_of_getElem? hd)
    simp only [gdName_eq, dCB_eq, dCons_eq, dNil_eq, dVar_eq]
    exact ⟨_, rfl, strCD_int.2 ⟨log_small hi, hq⟩⟩
  · refine ⟨_, _, xs, rfl, rfl, by rw [m1]; rfl, ?_, frz_of q⟩
    rw [show (Str.ofString " ").length = 1 by decide +kernel]
    omega
end K97
set_option Elab.async false
set_option linter.all false
set_option maxRecDepth 100000
set_option maxHeartbeats 1000000
/-! K97P12: show_leaf. -/
namespace K97
open PySem PySem.Spec PyProof.Rows L2 DL TL NumText
def shH : D → Str
  | .str y => escS y
  | .tup [.str _, .int i, .int j] => mkS (64 :: (tl (toString i : Str) ++ 58 :: tl (toString j : Str)))
  | _ => mkS []
theorem shH_back {x : Str} {d : D} (h32 : 32 ∉ tl x) (h : rd heldR x = some d) : shH d = x := by
  rcases held_back h32 h with hs | ⟨i, j, rfl, e, hi, hj⟩
  · obtain ⟨y, rfl, e, _⟩ := str_back h32 hs
    exact ext_tl e.symm
  · refine ext_tl ?_
    show (64 :: (tl (Str.ofString (toString ((i : Nat) : Int))) ++ 58 :: tl (Str.ofString (toString ((j : Nat) : Int))))) = _
    rw [tl_num, tl_num, e]
def fP : D → List D
  | .tup [.int i, h] => [.str (toString i), .str (shH h)]
  | _ => []
def GoodP (d : D) : Prop := ∃ (i : Int) (x : Str) (h : D), d = .tup [.int i, h] ∧ i.natAbs < 10 ^ 15 ∧ 32 ∉ tl x ∧ x.length ≤ sL ∧ rd heldR x = some h
theorem leaf_rows : ∀ (rest : List Str) (k : Nat) (r : List D), 2 ≤ k → k % 2 = 0 → rest.length % 2 = 0 → (∀ x ∈ rest, 32 ∉ tl x ∧ x.length ≤ sL) → RdL (rho .leaf) k rest r → (pairs r).flatMap fP = rest.map .str ∧ ∀ d ∈ pairs r, GoodP d
  | [], k, r, _, _, _, _, h => by cases h; exact ⟨rfl, fun _ h => by simp [pairs] at h⟩
  | [x], k, r, _, _, hl, _, _ => by simp at hl
  | x :: y :: rest, k, r, hk2, hk, hl, hg, ⟨d, e, e1, hd, d2, e2, e3, hd2, h⟩ => by
    subst e1; subst e3
    have hk0 : k ≠ 1 := by omega
    rw [rhoL, if_neg hk0, if_pos hk] at hd
    rw [rhoL, if_neg (show ¬ (k + 1 = 1) by omega), if_neg (show ¬ ((k + 1) % 2 = 0) by omega)] at hd2
    obtain ⟨i, rfl, hi, hb⟩ := key_back hd
    obtain ⟨gx, gl⟩ := hg y (by simp)
    have hl' : rest.length % 2 = 0 := by rw [List.length_cons, List.length_cons] at hl; omega
    obtain ⟨h1, h2⟩ := leaf_rows rest (k + 1 + 1) e2 (by omega) (by omega) hl' (fun z hz => hg z (by simp [hz])) h
    refine ⟨?_, fun d' hd' => ?_⟩
    · show [D.str (toString i), D.str (shH d2)] ++ (pairs e2).flatMap fP = _
      rw [h1, shH_back gx hd2, show (toString i : Str) = x from hi]; rfl
    · rcases List.mem_cons.1 (show d' ∈ D.tup [.int i, d2] :: pairs e2 from hd') with z | z
      · exact ⟨i, y, d2, z, hb, gx, gl, hd2⟩
      · exact h2 d' z
/-- the row ws of kind kd reads as d -/
def spShB (kd : Kd) : SpD := fun ds w _ Q => ∃ (d : D) (ws : List Str), ds = [d] ∧ ws[0]? = some (kStr kd) ∧ (∀ x ∈ ws, 32 ∉ tl x ∧ x.length ≤ sL) ∧ Wt ws ∧ body kd ws = .ok d ∧ Q (.str (Txt.join " " ws)) w
theorem body_ok {kd : Kd} {ws : List Str} {d : D} (h0 : ws[0]? = some (kStr kd)) (h : body kd ws = .ok d) : ∃ r es, ws = kStr kd :: r ∧ RdL (rho kd) 1 r es ∧ short kd ws.length = false ∧ d = build kd es := by
  cases ws with
  | nil => cases h0
  | cons x r =>
    simp at h0
    subst h0
    unfold body at h
    rw [show (kStr kd :: r).drop 1 = r from rfl] at h
    cases hr : reads (rho kd) r 1 with
    | error j => rw [hr] at h; cases h
    | ok es =>
      rw [hr] at h
      dsimp only at h
      cases hs : short kd (kStr kd :: r).length with
      | true => rw [hs, if_pos rfl] at h; cases h
      | false =>
        rw [hs, if_neg (by decide)] at h
        cases h
        exact ⟨r, es, rfl, rdl_of hr, rfl, rfl⟩
theorem sum_le_map {ws : List Str} : ∀ x ∈ ws, x.length ≤ (ws.map (·.length)).sum := by
  intro x hx
  induction ws with
  | nil => simp at hx
  | cons a r ih =>
    rcases List.mem_cons.1 hx with z | z
    · subst z; simp
    · have := ih z; simp at this ⊢; omega
theorem pure_show_leaf {a : Ad} (ds : List D) (w : Wd) (E : XDp) (Q : VKD) (h : spShB .leaf ds w E Q) : t_show_leaf a spShHeld spShLink (fun x _ w' => E x w') { nx := fun _ w' => Q .non w', rt := Q } (startD ["image", "words", "key", "held", "word"] ds) w := by
  obtain ⟨d, ws, rfl, h0, hg, hw, hb, q⟩ := h
  obtain ⟨r, es, rfl, hr, hs, rfl⟩ := body_ok h0 hb
  unfold short at hs
  simp at hs
  cases r with
  | nil => simp at hs
  | cons x1 rest =>
    obtain ⟨d1, e, rfl, hd1, hr2⟩ := hr
    have hd1 : lnk x1 = some d1 := hd1
    have hev : rest.length % 2 = 0 := by simp at hs; omega
    obtain ⟨f1, f2⟩ := leaf_rows rest 2 e (Nat.le_refl _) rfl hev (fun x hx => hg x (by simp [hx])) hr2
    have sz : sizeLine = 16777216 := rfl
    have hsl : sL = 1000000 := rfl
    unfold Wt at hw
    unfold t_show_leaf
    rw [show build .leaf (d1 :: e) = .tup [.str "leaf", .tup (pairs e), d1] from rfl]
    rw [show startD ["image", "words", "key", "held", "word"] [D.tup [.str "leaf", .tup (pairs e), d1]] = [some (D.tup [.str "leaf", .tup (pairs e), d1]), none, none, none, none] from rfl]
    simp only [dSeq_eq, dSet_eq]
    refine lc2_map1 (w1 := w) (pairs e) fP (fun R h => ?_) (by rw [f1, List.length_map]; simp at hw; omega) (fun i d w' B hd hB => ?_) ?_
    · simp only [iSeqT_eq, dBin_eq, dVar_eq, dC_eq]
      exact ⟨_, rfl, 1, rfl, _, _, rfl, rfl, _, rfl, h⟩
    · obtain ⟨i', x, hh, rfl, hi, h32, hxl, hrd⟩ := f2 d (List.mem_of_getElem? hd)
      simp only [gdTup_tup, gdCons_cons, gdNil_nil, gdName_eq, iSeqT_eq, dTup_eq, dCons_eq, dNil_eq, dCB_eq, dVar_eq, dCall_eq]
      refine ⟨rfl, _, rfl, strCD_int.2 ⟨log_small hi, _, rfl, rfl, x, hh, rfl, h32, hxl, hrd, by show 2 ≤ sizeLine; decide, _, rfl, ?_⟩⟩
      have := hB ((List.set (wipeD [some (D.tup [.str "leaf", .tup (pairs e), d1]), none, none, none, none] [2, 3, 4]) 2 (some (.int i'))).set 3 (some hh)) (fun j d1 w5 Q' _ hq => by
        simp only [gdName_eq, dVar_eq]
        exact ⟨_, rfl, hq⟩)
      rw [show fP (.tup [.int i', hh]) = [D.str (toString i'), D.str (shH hh)] from rfl, shH_back h32 hrd] at this
      exact this
    · rw [f1]
      simp only [dRet_eq, dM1_eq, dC_eq, dLst_eq, dCons_eq, dNil_eq, dCall_eq, dBin_eq, dVar_eq, dStar_eq]
      refine ⟨_, rfl, _, rfl, 2, rfl, _, _, rfl, rfl, rfl, x1, d1, rfl, hd1, _, rfl, _, rfl, ?_, ?_⟩
      · simp at hw ⊢
        omega
      · refine ⟨_, _, kStr .leaf :: x1 :: rest, rfl, rfl, by simp [kStr], ?_, frz_of q⟩
        rw [show (Str.ofString " ").length = 1 by decide +kernel]
        omega
end K97
set_option Elab.async false
set_option linter.all false
set_option maxRecDepth 100000
set_option maxHeartbeats 1000000
/-! K97P13: show_inner. -/
namespace K97
open PySem PySem.Spec PyProof.Rows L2 DL TL NumText
theorem cutD_tail (xs : List D) : cutD xs (some 1) none = xs.tail := by
  unfold DL.cutD
  rw [HT.sIx_none, show (some (1 : Int)) = some ((1 : Nat) : Int) from rfl, HT.sIx_nat]
  cases xs <;> simp
def fZ : D → List D
  | .tup [x, y] => [x, y]
  | _ => []
theorem zl : ∀ (k : Nat) (e : List D) (d : D), e.length = 2 * k → (odds (d :: e)).length = (evens (d :: e)).tail.length ∧ (zipD (odds (d :: e)) (evens (d :: e)).tail).flatMap fZ = e ∧ (∀ p ∈ zipD (odds (d :: e)) (evens (d :: e)).tail, ∃ x y, p = .tup [x, y]) ∧ evens (d :: e) = d :: (evens (d :: e)).tail
  | 0, [], d, _ => ⟨rfl, rfl, fun p h => by simp [odds, zipD] at h, rfl⟩
  | k + 1, [x], d, h => by simp at h; omega
  | k + 1, x :: y :: e, d, h => by
    obtain ⟨h1, h2, h3, h4⟩ := zl k e y (by simp at h; omega)
    have o : odds (d :: x :: y :: e) = x :: odds (y :: e) := rfl
    have v : evens (d :: x :: y :: e) = d :: evens (y :: e) := rfl
    rw [o, v]
    show _ ∧ (zipD (x :: odds (y :: e)) (evens (y :: e))).flatMap fZ = _ ∧ (∀ p ∈ zipD (x :: odds (y :: e)) (evens (y :: e)), _) ∧ _
    rw [h4]
    have z : zipD (x :: odds (y :: e)) (y :: (evens (y :: e)).tail) = .tup [x, y] :: zipD (odds (y :: e)) (evens (y :: e)).tail := rfl
    rw [z]
    refine ⟨by simp [h1], ?_, fun p hp => ?_, rfl⟩
    · show [x, y] ++ (zipD (odds (y :: e)) (evens (y :: e)).tail).flatMap fZ = _
      rw [h2]; rfl
    · rcases List.mem_cons.1 hp with q | q
      · exact ⟨x, y, q⟩
      · exact h3 p q
theorem joinL_len (S : List Nat) (hS : S.length = 1) : ∀ ls : List (List Nat), (joinL S ls).length ≤ (ls.map List.length).sum + ls.length
  | [] => Nat.le_refl _
  | [p] => by simp [joinL]
  | p :: q :: r => by
    have := joinL_len S hS (q :: r)
    show (p ++ (S ++ joinL S (q :: r))).length ≤ _
    simp [hS] at this ⊢
    omega
theorem join_len {ws : List Str} : (Txt.join " " ws).length ≤ (ws.map (·.length)).sum + ws.length := by
  rw [len_tl, join_eq, tl_join]
  have h := joinL_len (tl " ") (by decide +kernel) (ws.map tl)
  rw [List.map_map, List.length_map] at h
  have : (List.length ∘ tl) = fun x : Str => x.length := by funext x; exact (len_tl x).symm
  rw [this] at h
  exact h
theorem join_cons {k z : Str} {r : List Str} : Txt.join " " (k :: z :: r) = k ++ " " ++ Txt.join " " (z :: r) := by
  rw [join_eq, join_eq]; rfl
theorem rho_inner_num : ∀ k x d, rho .inner k x = some d → NumW d x := by
  intro k x d h
  rw [rhoI] at h
  by_cases c : k % 2 = 0
  · rw [if_pos c] at h
    exact key_back h
  · rw [if_neg c] at h
    obtain ⟨n, e1, e2, e3⟩ := num_back h
    exact ⟨n, e1, e2, by simpa using e3⟩
theorem pure_show_inner {a : Ad} (ds : List D) (w : Wd) (E : XDp) (Q : VKD) (h : spShB .inner ds w E Q) : t_show_inner a spShN (fun x _ w' => E x w') { nx := fun _ w' => Q .non w', rt := Q } (startD ["image", "separators", "lower", "words", "pair", "word"] ds) w := by
  obtain ⟨d, ws, rfl, h0, hg, hw, hb, q⟩ := h
  obtain ⟨r, es, rfl, hr, hs, rfl⟩ := body_ok h0 hb
  unfold short at hs
  simp at hs
  obtain ⟨m1, m2, m3⟩ := rdl_map rho_inner_num hr
  have sz : sizeLine = 16777216 := rfl
  have hsl : sL = 1000000 := rfl
  unfold Wt at hw
  have hr0 := hr
  cases r with
  | nil => simp at hs
  | cons x1 rest =>
    obtain ⟨d1, e, rfl, hd1, hr2⟩ := hr
    have hlen : e.length = rest.length := by simpa using m3
    obtain ⟨z1, z2, z3, z4⟩ := zl (rest.length / 2) e d1 (by simp at hs; omega)
    unfold t_show_inner
    rw [show build .inner (d1 :: e) = .tup [.str "inner", .tup (odds (d1 :: e)), .tup (evens (d1 :: e))] from rfl]
    rw [show startD ["image", "separators", "lower", "words", "pair", "word"] [D.tup [.str "inner", .tup (odds (d1 :: e)), .tup (evens (d1 :: e))]] = [some (D.tup [.str "inner", .tup (odds (d1 :: e)), .tup (evens (d1 :: e))]), none, none, none, none, none] from rfl]
    simp only [dSeq_eq, dAsg_eq, dSl_eq, dVar_eq, dPart_eq, dNoPart_eq, dC_eq]
    refine ⟨_, rfl, 1, rfl, ?_⟩
    simp only [slD_tup, cutD_tail, List.tail_cons, gdTup_tup, gdCons_cons, gdNil_nil, gdName_eq, List.set_cons_succ, List.set_cons_zero, dSet_eq]
    refine ⟨rfl, ?_⟩
    refine lc2_map1 (w1 := w) (zipD (odds (d1 :: e)) (evens (d1 :: e)).tail) fZ (fun R h => ?_) (by rw [z2, hlen]; simp at hw; omega) (fun i d w' B hd hB => ?_) ?_
    · unfold iZipSD
      simp only [dCons_eq, dNil_eq, dVar_eq, dSl_eq, dPart_eq, dNoPart_eq, dC_eq]
      refine ⟨_, rfl, _, rfl, 1, rfl, ?_⟩
      simp only [slD_tup, cutD_tail]
      exact ⟨_, _, rfl, z1, h⟩
    · obtain ⟨x, y, rfl⟩ := z3 d (List.mem_of_getElem? hd)
      simp only [gdName_eq, iSeqT_eq, dVar_eq]
      refine ⟨_, rfl, _, rfl, hB _ (fun j d1 w5 Q' _ hq => ?_)⟩
      simp only [gdName_eq, dVar_eq]
      exact ⟨_, rfl, hq⟩
    · rw [z2]
      simp only [dRet_eq, List.set_cons_succ, List.set_cons_zero]
      have hj := join_len (ws := x1 :: rest)
      simp at hw hj
      unfold dJoined
      refine ⟨"inner ", rfl, by decide +kernel, ?_⟩
      refine ⟨_, rfl, 0, rfl, _, d1, rfl, (by rw [z4]; exact atI_zero _ _), ?_⟩
      refine ⟨_, rfl, e, rfl, ?_⟩
      refine ⟨by simp; omega, rfl, rho .inner, 1, x1 :: rest, d1 :: e, by simp, hr0, rho_inner_num, by unfold Wt; simp; omega, ?_⟩
      have hi : (Str.ofString "inner ").length = 6 := by decide +kernel
      have h0 : Str.empty.length = 0 := rfl
      refine ⟨by omega, _, rfl, ?_, ?_⟩
      · rw [Str.length_append, Str.length_append, hi, h0]; omega
      · refine frz_of ?_
        have : Str.empty ++ "inner " ++ Txt.join " " (x1 :: rest) = Txt.join " " (kStr .inner :: x1 :: rest) := by
          rw [join_cons, Str.empty_append]
          congr 1
        rw [this]; exact q
end K97
set_option Elab.async false
set_option linter.all false
set_option maxRecDepth 100000
set_option maxHeartbeats 1000000
/-! K97P14: show_image. -/
namespace K97
open PySem PySem.Spec PyProof.Rows L2 DL TL NumText
def spShI : SpD := fun ds w _ Q => ∃ (d : D) (ws : List Str), ds = [d] ∧ (∀ x ∈ ws, 32 ∉ tl x ∧ x.length ≤ sL) ∧ Wt ws ∧ imgR ws = .ok d ∧ Q (.str (Txt.join " " ws)) w
theorem img_ok {ws : List Str} {d : D} (h : imgR ws = .ok d) : ∃ kd, ws[0]? = some (kStr kd) ∧ body kd ws = .ok d := by
  unfold imgR at h
  cases hx : ws[0]? with
  | none => rw [hx] at h; cases h
  | some x =>
    rw [hx] at h
    dsimp only at h
    cases hk : kindOf x with
    | none => rw [hk] at h; cases h
    | some kd =>
      rw [hk] at h
      exact ⟨kd, by rw [kind_str hk], h⟩
theorem is_kind {m k : Str} {r : List D} {E : XD} {w : Wd} {B : Bool → Wd → Prop} (h : B (decide (k = m)) w) : dTest (dBin eqRD (dBin ixD (dVar 0) (dC (.int 0))) (dC (.str m))) E [some (.tup (.str k :: r))] w B :=
  ⟨_, rfl, 0, rfl, _, _, rfl, atI_zero _ _, _, rfl, h⟩
theorem if_hit {m k : Str} {r : List D} {E : XD} {w : Wd} {De : EndsD} {s u : TSD} (h : k = m) (q : s E De [some (.tup (.str k :: r))] w) : dIfS (dTest (dBin eqRD (dBin ixD (dVar 0) (dC (.int 0))) (dC (.str m)))) s u E De [some (.tup (.str k :: r))] w :=
  is_kind (by rw [decide_eq_true h, if_pos rfl]; exact q)
theorem if_miss {m k : Str} {r : List D} {E : XD} {w : Wd} {De : EndsD} {s : TSD} (h : k ≠ m) (q : De.nx [some (.tup (.str k :: r))] w) : dIfS (dTest (dBin eqRD (dBin ixD (dVar 0) (dC (.int 0))) (dC (.str m)))) s dNext E De [some (.tup (.str k :: r))] w :=
  is_kind (by rw [decide_eq_false h, if_neg (by decide)]; exact q)
theorem pure_show_image {a : Ad} (ds : List D) (w : Wd) (E : XDp) (Q : VKD) (h : spShI ds w E Q) : t_show_image a (spShB .inner) (spShB .leaf) spShLink spShN spShS (fun x _ w' => E x w') { nx := fun _ w' => Q .non w', rt := Q } (startD ["image"] ds) w := by
  obtain ⟨d, ws, rfl, hg, hw, hi, q⟩ := h
  obtain ⟨kd, h0, hb⟩ := img_ok hi
  have hb0 := hb
  obtain ⟨r, es, rfl, hr, hs, rfl⟩ := body_ok h0 hb
  have sz : sizeLine = 16777216 := rfl
  have hsl : sL = 1000000 := rfl
  unfold t_show_image
  rw [show startD ["image"] [build kd es] = [some (build kd es)] from rfl]
  simp only [dSeq_eq]
  cases kd with
  | leaf =>
    obtain ⟨x1, rest, rfl⟩ : ∃ x1 rest, r = x1 :: rest := by
      cases r with
      | nil => simp [short] at hs
      | cons a b => exact ⟨a, b, rfl⟩
    obtain ⟨d1, e, rfl, hd1, hr2⟩ := hr
    refine if_miss (by decide +kernel) (if_miss (by decide +kernel) (if_hit rfl ?_))
    simp only [dRet_eq, dCall_eq, dCons_eq, dNil_eq, dVar_eq]
    exact ⟨_, rfl, rfl, _, _, rfl, rfl, hg, hw, hb0, frz_of q⟩
  | inner =>
    refine if_miss (by decide +kernel) (if_miss (by decide +kernel) (if_miss (by decide +kernel) (if_hit rfl ?_)))
    simp only [dRet_eq, dCall_eq, dCons_eq, dNil_eq, dVar_eq]
    exact ⟨_, rfl, rfl, _, _, rfl, rfl, hg, hw, hb0, frz_of q⟩
  | free =>
    cases r with
    | cons x1 rest =>
      obtain ⟨d1, e, rfl, hd1, hr2⟩ := hr
      cases hd1
    | nil =>
      refine if_miss (by decide +kernel) (if_miss (by decide +kernel) (if_miss (by decide +kernel) (if_miss (by decide +kernel) ?_)))
      simp only [dRet_eq, dIf_eq]
      refine is_kind ?_
      rw [decide_eq_false (by decide +kernel), if_neg (by decide)]
      simp only [dC_eq]
      refine frz_of ?_
      exact q
  | piece =>
    cases r with
    | nil => simp [short] at hs
    | cons x1 r =>
      cases r with
      | nil => simp [short] at hs
      | cons x2 r =>
        obtain ⟨d1, e, rfl, hd1, d2, e2, rfl, hd2, hr2⟩ := hr
        have hd1 : lnk x1 = some d1 := hd1
        have hd2 : rd strR x2 = some d2 := hd2
        cases r with
        | cons x3 r =>
          obtain ⟨d3, e3, rfl, hd3, _⟩ := hr2
          cases hd3
        | nil =>
          cases hr2
          obtain ⟨g1, l1⟩ := hg x1 (by simp)
          obtain ⟨g2, l2⟩ := hg x2 (by simp)
          obtain ⟨y, rfl, ey, hy⟩ := str_back g2 hd2
          have ex : escS y = x2 := ext_tl ey.symm
          refine if_miss (by decide +kernel) (if_miss (by decide +kernel) (if_miss (by decide +kernel) (if_miss (by decide +kernel) ?_)))
          simp only [dRet_eq, dIf_eq]
          refine is_kind ?_
          rw [decide_eq_true (show ("piece" : Str) = "piece" from rfl), if_pos rfl]
          have hp : (Str.ofString "piece ").length = 6 := by decide +kernel
          have hsp : (Str.ofString " ").length = 1 := by decide +kernel
          have he : Str.empty.length = 0 := rfl
          unfold dJoined
          refine ⟨"piece ", rfl, by decide +kernel, ?_⟩
          refine ⟨_, rfl, 2, rfl, _, d1, rfl, rfl, rfl, x1, d1, rfl, hd1, by omega, _, rfl, ?_, ?_⟩
          · rw [Str.length_append, Str.length_append, hp, he]; omega
          refine ⟨" ", rfl, ?_, ?_⟩
          · rw [Str.length_append, Str.length_append, Str.length_append, hp, he, hsp]; omega
          refine ⟨_, rfl, 1, rfl, _, .str y, rfl, rfl, rfl, y, rfl, by omega, ?_⟩
          rw [ex]
          refine ⟨by omega, _, rfl, ?_, ?_⟩
          · rw [Str.length_append, Str.length_append, Str.length_append, Str.length_append, hp, he, hsp]; omega
          refine frz_of ?_
          have : Str.empty ++ "piece " ++ x1 ++ " " ++ x2 = Txt.join " " (kStr .piece :: [x1, x2]) := by
            rw [join_cons, join_cons, Str.empty_append]
            refine ext_tl ?_
            rw [join_eq]
            simp only [tl_append]
            rw [show tl (Str.ofString "piece ") = tl (kStr .piece) ++ tl (Str.ofString " ") by decide +kernel]
            show _ = _ ++ _ ++ (_ ++ _ ++ tl x2)
            simp
          rw [this]; exact q
  | head =>
    cases r with
    | nil => simp [short] at hs
    | cons x1 r =>
      cases r with
      | nil => simp [short] at hs
      | cons x2 r =>
        obtain ⟨d1, e, rfl, hd1, d2, e2, rfl, hd2, hr2⟩ := hr
        obtain ⟨n1, rfl, a1, b1⟩ := num_back (show rd numR x1 = some d1 from hd1)
        obtain ⟨n2, rfl, a2, b2⟩ := num_back (show rd numR x2 = some d2 from hd2)
        cases r with
        | cons x3 r =>
          obtain ⟨d3, e3, rfl, hd3, _⟩ := hr2
          cases hd3
        | nil =>
          cases hr2
          obtain ⟨g1, l1⟩ := hg x1 (by simp)
          obtain ⟨g2, l2⟩ := hg x2 (by simp)
          refine if_hit rfl ?_
          simp only [dRet_eq]
          have hp : (Str.ofString "head ").length = 5 := by decide +kernel
          have hsp : (Str.ofString " ").length = 1 := by decide +kernel
          have he : Str.empty.length = 0 := rfl
          have a1' : Str.ofString (toString (n1 : Int)) = x1 := a1
          have a2' : Str.ofString (toString (n2 : Int)) = x2 := a2
          unfold dJoined
          refine ⟨"head ", rfl, by decide +kernel, ?_⟩
          refine ⟨_, rfl, 1, rfl, _, _, rfl, rfl, log_small b1, _, rfl, ?_, ?_⟩
          · rw [a1', Str.length_append, Str.length_append, hp, he]; omega
          refine ⟨" ", rfl, ?_, ?_⟩
          · rw [a1', Str.length_append, Str.length_append, Str.length_append, hp, he, hsp]; omega
          refine ⟨_, rfl, 2, rfl, _, _, rfl, rfl, log_small b2, _, rfl, ?_, ?_⟩
          · rw [a1', a2', Str.length_append, Str.length_append, Str.length_append, Str.length_append, hp, he, hsp]; omega
          refine frz_of ?_
          rw [a1', a2']
          have : Str.empty ++ "head " ++ x1 ++ " " ++ x2 = Txt.join " " (kStr .head :: [x1, x2]) := by
            rw [join_cons, join_cons, Str.empty_append]
            refine ext_tl ?_
            rw [join_eq]
            simp only [tl_append]
            rw [show tl (Str.ofString "head ") = tl (kStr .head) ++ tl (Str.ofString " ") by decide +kernel]
            show _ = _ ++ _ ++ (_ ++ _ ++ tl x2)
            simp
          rw [this]; exact q
  | space =>
    cases r with
    | nil => simp [short] at hs
    | cons x1 r =>
      cases r with
      | nil => simp [short] at hs
      | cons x2 r =>
        have hr0 := hr
        obtain ⟨m1, m2, m3⟩ := rdl_map (fun k x d h => by
          obtain ⟨n, e1, e2, e3⟩ := num_back (show rd numR x = some d from h)
          exact ⟨n, e1, e2, by simpa using e3⟩) hr
        obtain ⟨d1, e, rfl, hd1, d2, e2, rfl, hd2, hr2⟩ := hr
        have hlen : e2.length = r.length := by simpa using m3
        refine if_miss (by decide +kernel) (if_hit rfl ?_)
        simp only [dRet_eq]
        have hp : (Str.ofString "space ").length = 6 := by decide +kernel
        have he : Str.empty.length = 0 := rfl
        have hj := join_len (ws := x1 :: x2 :: r)
        unfold Wt at hw
        simp at hw hj
        unfold dJoined
        refine ⟨"space ", rfl, by decide +kernel, ?_⟩
        refine ⟨_, rfl, 1, rfl, _, d1, rfl, rfl, ?_⟩
        refine ⟨_, rfl, 3, rfl, _, d2, rfl, rfl, ?_⟩
        refine ⟨_, rfl, 2, rfl, _, .tup e2, rfl, rfl, e2, rfl, ?_⟩
        refine ⟨by simp; omega, rfl, rho .space, 1, x1 :: x2 :: r, d1 :: d2 :: e2, by simp, hr0, fun k x d h => by
          obtain ⟨n, e1, e2, e3⟩ := num_back (show rd numR x = some d from h)
          exact ⟨n, e1, e2, by simpa using e3⟩, by unfold Wt; simp; omega, ?_⟩
        refine ⟨by omega, _, rfl, ?_, ?_⟩
        · rw [Str.length_append, Str.length_append, hp, he]; omega
        · refine frz_of ?_
          have : Str.empty ++ "space " ++ Txt.join " " (x1 :: x2 :: r) = Txt.join " " (kStr .space :: x1 :: x2 :: r) := by
            rw [join_cons (k := kStr .space), Str.empty_append]
            congr 1
          rw [this]; exact q
end K97
set_option Elab.async false
set_option linter.all false
set_option maxRecDepth 100000
set_option maxHeartbeats 1000000
/-! K97P15: show_file; what is read is shown as it was. -/
namespace K97
open PySem PySem.Spec PyProof.Rows L2 DL TL NumText
/-- [.. for x in xs]: the results ys, place by place -/
theorem lc_mapI {ti : TID} {g : TGD} {te : TED} {vs : List Nat} {E : XD} {ρ : Rho} {w w1 : Wd} {Q : VKD} (ds ys : List D) (hy : ys.length = ds.length) (hti : ∀ R : List D → Wd → Prop, R ds w1 → ti E ρ w R) (hl : ds.length ≤ sizeLine)
    (hte : ∀ (i : Nat) d y w' Q', ds[i]? = some d → ys[i]? = some y → Q' y w' → g d (wipeD ρ vs) w' fun ρ2 w2 => te E0D ρ2 w2 Q') (hq : Q (.lst ys) w1) : dLc ti g dYes te vs E ρ w Q := by
  refine hti _ fun D hD => ?_
  refine ⟨fun i w' => w' = wupd w1 D (.lst (ys.take i)), ?_, fun i d w' hd e => ?_, fun w' e => ?_⟩
  · simp
  · subst e
    have hi : i < ds.length := (List.getElem?_eq_some_iff.mp hd).1
    obtain ⟨y, hyi⟩ : ∃ y, ys[i]? = some y := ⟨ys[i]'(by omega), List.getElem?_eq_getElem (by omega)⟩
    refine hte i d y _ _ hd hyi ?_
    refine ⟨_, wupd_same, by simp; omega, ?_⟩
    show wupd (wupd _ _ _) _ _ = _
    rw [wupd_upd, List.take_add_one, hyi]
    simp
  · subst e
    refine ⟨_, _, Frz.lst wupd_same, ?_⟩
    rw [wdel_upd hD, ← hy, List.take_length]
    exact hq
theorem file_at : ∀ {rows : List (List Str)} {i : Nat} {es : List D}, fileR rows i = .ok es → es.length = rows.length ∧ ∀ (j : Nat) d ws, es[j]? = some d → rows[j]? = some ws → imgR ws = .ok d
  | [], i, es, h => by cases h; exact ⟨rfl, fun j d ws h => by simp at h⟩
  | r :: rest, i, es, h => by
    rw [fileR_cons] at h
    cases hr : imgR r with
    | error j => rw [hr] at h; cases h
    | ok d =>
      rw [hr] at h
      dsimp only at h
      cases he : fileR rest (i + 1) with
      | error j => rw [he] at h; cases h
      | ok e =>
        rw [he] at h
        cases h
        obtain ⟨h1, h2⟩ := file_at he
        refine ⟨by simp [h1], fun j d' ws a b => ?_⟩
        cases j with
        | zero => simp at a b; rw [← a, ← b]; exact hr
        | succ j => exact h2 j d' ws (by simpa using a) (by simpa using b)
def spShF : SpD := fun ds w _ Q => ∃ (es : List D) (rows : List (List Str)) (i : Nat), ds = [.tup es] ∧ fileR rows i = .ok es ∧ (∀ ws ∈ rows, (∀ x ∈ ws, 32 ∉ tl x ∧ x.length ≤ sL) ∧ Wt ws) ∧ ((rows.map (Txt.join " ")).map (·.length)).sum + rows.length ≤ 2 * sL ∧ Q (.str (Txt.join "\n" (rows.map (Txt.join " ")))) w
theorem pure_show_file {a : Ad} (ds : List D) (w : Wd) (E : XDp) (Q : VKD) (h : spShF ds w E Q) : t_show_file a spShI (fun x _ w' => E x w') { nx := fun _ w' => Q .non w', rt := Q } (startD ["file", "image"] ds) w := by
  obtain ⟨es, rows, i0, rfl, hf, hg, hw, q⟩ := h
  obtain ⟨h1, h2⟩ := file_at hf
  have sz : sizeLine = 16777216 := rfl
  have hsl : sL = 1000000 := rfl
  unfold t_show_file
  rw [show startD ["file", "image"] [D.tup es] = [some (.tup es), none] from rfl]
  simp only [dRet_eq, dM1_eq, dC_eq]
  refine ⟨_, rfl, lc_mapI (w1 := w) es ((rows.map (Txt.join " ")).map .str) (by simp [h1]) (fun R h => ?_) (by omega) (fun i d y w' Q' hd hy hq => ?_) ?_⟩
  · simp only [iSeqT_eq, dVar_eq]
    exact ⟨_, rfl, _, rfl, h⟩
  · rw [List.getElem?_map, List.getElem?_map] at hy
    obtain ⟨z, hz, rfl⟩ := Option.map_eq_some_iff.1 hy
    obtain ⟨ws, hws, rfl⟩ := Option.map_eq_some_iff.1 hz
    obtain ⟨g1, g2⟩ := hg ws (List.mem_of_getElem? hws)
    simp only [gdName_eq, dCall_eq, dCons_eq, dNil_eq, dVar_eq]
    exact ⟨_, rfl, rfl, d, ws, rfl, g1, g2, h2 i d ws hd hws, hq⟩
  · refine ⟨_, _, _, rfl, rfl, rfl, ?_, frz_of q⟩
    rw [show (Str.ofString "\n").length = 1 by decide +kernel]
    rw [List.length_map]
    omega
end K97
set_option Elab.async false
set_option linter.all false
set_option maxRecDepth 100000
set_option maxHeartbeats 1000000
/-! K97L3: a right text is shown as it was. -/
namespace K97
open PySem PySem.Spec PyProof.Rows L2 DL TL NumText
theorem joinL_sum (S : List Nat) (hS : S.length = 1) : ∀ ls : List (List Nat), ls ≠ [] → (ls.map List.length).sum + ls.length = (joinL S ls).length + 1
  | [p], _ => by simp [joinL]
  | p :: q :: r, _ => by
    have := joinL_sum S hS (q :: r) (by simp)
    show _ = (p ++ (S ++ joinL S (q :: r))).length + 1
    simp [hS] at this ⊢
    omega
theorem split_sum (x : Str) (y : Str) (c : Nat) (ey : tl y = [c]) (hk : y.cps.all (· < 256) = true) : ((Txt.split x y).map (·.length)).sum + (Txt.split x y).length = x.length + 1 := by
  have hp := split_pos x y (by rw [ey]; simp) hk
  have e := PySem.StrLaws.join_split x y
  have e2 := tl_join y (Txt.split x y)
  rw [e] at e2
  have h := joinL_sum (tl y) (by rw [ey]; rfl) ((Txt.split x y).map tl) (by
    intro z
    have := congrArg List.length z
    simp at this
    rw [this] at hp
    simp at hp)
  rw [← e2, List.map_map, List.length_map] at h
  have h3 : (List.length ∘ tl) = fun x : Str => x.length := by funext x; exact (len_tl x).symm
  rw [h3, ← len_tl] at h
  exact h
theorem join_rows (x : Str) : (rowsOf x).map (Txt.join " ") = Txt.split x "\n" := by
  unfold rowsOf
  rw [List.map_map]
  conv => rhs; rw [← List.map_id (Txt.split x "\n")]
  refine List.map_congr_left fun l _ => ?_
  show Txt.join " " (Txt.split l " ") = l
  rw [join_eq]
  exact PySem.StrLaws.join_split l " "
theorem told_ok {x : Str} {es : List D} {w : Wd} {E : XDp} {Q : VKD} (hx : x.length + 2 ≤ sL) (h : fileR (rowsOf x) 0 = .ok es) (q : Q (.str x) w) : spShF [.tup es] w E Q := by
  have hsl : sL = 1000000 := rfl
  refine ⟨es, rowsOf x, 0, rfl, h, fun ws hws => ?_, ?_, ?_⟩
  · unfold rowsOf at hws
    obtain ⟨l, hl, rfl⟩ := List.mem_map.1 hws
    have h1 := split_mem hl
    refine ⟨fun y hy => ⟨?_, ?_⟩, ?_⟩
    · have := PySem.StrLaws.split_free l 32 y (by rw [show (⟨#[32]⟩ : Str) = Str.ofString " " by decide +kernel]; exact hy)
      exact this
    · have := split_mem hy
      omega
    · unfold Wt
      rw [split_sum l " " 32 (by decide +kernel) (by decide +kernel)]
      omega
  · rw [join_rows]
    have := split_sum x "\n" 10 (by decide +kernel) (by decide +kernel)
    have e : (rowsOf x).length = (Txt.split x "\n").length := by unfold rowsOf; rw [List.length_map]
    rw [e, this]
    omega
  · rw [join_rows, join_eq, PySem.StrLaws.join_split]
    exact q
end K97
set_option Elab.async false
set_option linter.all false
set_option maxRecDepth 100000
set_option maxHeartbeats 1000000
/-! K97P16: the law's own words. -/
namespace K97
open PySem PySem.Spec PyProof.Rows L2 DL TL NumText
def OkS (x : Str) : Prop := ∀ c ∈ tl x, c < 0x110000
theorem toPyL_strs : ∀ (is : List Str), toPyL (is.map .str) = some (is.map PyData.str)
  | [] => rfl
  | i :: is => by
    show (toPy (.str i)).bind _ = _
    rw [toPyL_strs is]; rfl
theorem okS_all {x : Str} (h : OkS x) : PyData.canLay0 (.str x) = true := by
  show x.cps.all (· < 0x110000) = true
  rw [← Array.all_toList]
  exact List.all_eq_true.2 fun c hc => decide_eq_true (h c hc)
theorem lay_strs : ∀ (is : List Str), (∀ x ∈ is, OkS x) → PyData.canLayAll0 (is.map PyData.str) = true
  | [], _ => rfl
  | i :: is, h => by
    show (PyData.canLay0 (.str i) && PyData.canLayAll0 (is.map PyData.str)) = true
    rw [lay_strs is (fun x hx => h x (by simp [hx])), okS_all (h i (by simp))]; rfl
theorem depth_strs : ∀ (is : List Str), PyData.depthAll (is.map PyData.str) = 0
  | [] => rfl
  | i :: is => by
    show max (PyData.depth (.str i)) (PyData.depthAll (is.map PyData.str)) = 0
    rw [depth_strs is]; rfl
theorem eq_strs_nil {w : Wd} {is : List Str} {Q : Bool → Prop} (h : ∀ x ∈ is, OkS x) (q : Q is.isEmpty) : eqD (.lst (is.map .str)) (.lst []) w Q := by
  refine ⟨.list (is.map PyData.str), .list [], ?_, rfl, ?_, by decide, ?_⟩
  · show (toPyL (is.map D.str)).map PyData.list = _
    rw [toPyL_strs]; rfl
  · show (PyData.canLayAll0 (is.map PyData.str) && decide (PyData.depthAll (is.map PyData.str) + 1 ≤ 64)) = true
    rw [lay_strs _ h, depth_strs]; rfl
  · have : PyData.eqv (.list (is.map PyData.str)) (.list []) = is.isEmpty := by cases is <;> rfl
    rw [this]; exact q
def spB1 (b : Str → Bool) : SpD := fun ds w _ Q => ∃ x : Str, ds = [.str x] ∧ x.length ≤ sL ∧ OkS x ∧ Q (.bl (b x)) w
def numB (x : Str) : Bool := numOk (tl x)
theorem pure_law_number {a : Ad} (ds : List D) (w : Wd) (E : XDp) (Q : VKD) (h : spB1 numB ds w E Q) : t__law_number a (fun x _ w' => E x w') { nx := fun _ w' => Q .non w', rt := Q } (startD ["word", "sign"] ds) w := by
  obtain ⟨x, rfl, hx, hok, q⟩ := h
  have h1 := len_tl x
  have h2 : x.length ≤ sizeLine := Nat.le_trans hx sL_line
  unfold t__law_number
  rw [show startD ["word", "sign"] [D.str x] = [some (.str x), none] from rfl]
  simp only [dSeq_eq, dIfS_eq, dOr_eq, dNot_eq, dTest_eq, dChain_eq, dC_eq, dCB_eq, dCons_eq, dNil_eq, dVar_eq, dBin_eq, dLst_eq]
  refine ⟨_, rfl, lenD_str.2 ⟨h2, ?_⟩⟩
  have hfalse : numB x = false → ∃ x' w2, Frz (D.bl false) w x' w2 ∧ Q x' w2 := fun e => frz_of (by rw [e] at q; exact q)
  refine ⟨_, _, rfl, rfl, decide ((0 : Int) < x.length), rfl, ?_⟩
  by_cases c1 : (0 : Int) < x.length
  · rw [decide_eq_true c1, if_pos rfl]
    refine ⟨_, _, rfl, rfl, decide ((x.length : Int) < 16), rfl, ?_⟩
    by_cases c2 : (x.length : Int) < 16
    · rw [decide_eq_true c2, if_neg (by decide)]
      refine DL.lc_map ?_ (fun R R' hR h => ?_)
      · refine ⟨_, rfl, x, rfl, fun d => match d with | .str y => if decide (y.cps.toList.head?.getD 0 ∈ (Str.ofString "0123456789").cps.toList) = true then none else some (.str y) | _ => none, ?_, ?_, ?_⟩
        · simp [strD]; show x.length ≤ _; omega
        · intro i d w' Q1 Q2 hd _ hq1 hq2
          unfold strD at hd
          rw [List.getElem?_map] at hd
          obtain ⟨c, hc, rfl⟩ := Option.map_eq_some_iff.mp hd
          simp only [gdName_eq, dTest_eq, dBin_eq, dVar_eq, dC_eq]
          refine ⟨_, rfl, inD_str.2 ⟨_, rfl, ?_⟩⟩
          by_cases hc2 : decide (c ∈ (Str.ofString "0123456789").cps.toList) = true
          · rw [if_pos rfl, hc2]
            exact hq2 (if_pos hc2)
          · rw [if_pos rfl, show decide (c ∈ (Str.ofString "0123456789").cps.toList) = false by simpa using hc2]
            exact ⟨_, rfl, hq1 _ (if_neg hc2)⟩
        · have e : (strD x).filterMap (fun d => match d with | .str y => if decide (y.cps.toList.head?.getD 0 ∈ (Str.ofString "0123456789").cps.toList) = true then none else some (.str y) | _ => none) = (((tl x).filter (fun c => !isDig c)).map fun c => (⟨#[c]⟩ : Str)).map D.str := by
            unfold strD
            show (List.map _ (tl x)).filterMap _ = _
            generalize tl x = l
            induction l with
            | nil => rfl
            | cons c r ih =>
              rw [List.map_cons, List.filterMap_cons]
              dsimp only
              have hd := dig_mem c
              by_cases hc : isDig c = true
              · rw [hc] at hd
                rw [show (if decide (({ cps := #[c] } : Str).cps.toList.head?.getD 0 ∈ (Str.ofString "0123456789").cps.toList) = true then none else some (D.str { cps := #[c] })) = none from if_pos hd]
                simp only [ih]
                rw [List.filter_cons, hc]; rfl
              · have hc' : isDig c = false := by simpa using hc
                rw [hc'] at hd
                rw [show (if decide (({ cps := #[c] } : Str).cps.toList.head?.getD 0 ∈ (Str.ofString "0123456789").cps.toList) = true then none else some (D.str { cps := #[c] })) = some (D.str { cps := #[c] }) from if_neg (by rw [show decide (({ cps := #[c] } : Str).cps.toList.head?.getD 0 ∈ (Str.ofString "0123456789").cps.toList) = false from hd]; decide)]
                simp only [ih]
                rw [List.filter_cons, hc']; rfl
          rw [e]
          refine ⟨by decide, eq_strs_nil (fun s hs => ?_) ⟨_, rfl, ?_⟩⟩
          · obtain ⟨c, hc, rfl⟩ := List.mem_map.1 hs
            intro c' hc'
            simp [tl] at hc'
            subst hc'
            exact hok _ (List.mem_filter.1 hc).1
          · have em : (((tl x).filter fun c => !isDig c).map fun c => (⟨#[c]⟩ : Str)).isEmpty = (tl x).all isDig := by
              generalize tl x = l
              induction l with
              | nil => rfl
              | cons c r ih =>
                rw [List.filter_cons]
                cases hc : isDig c with
                | true =>
                  rw [List.all_cons, hc]
                  simpa using ih
                | false =>
                  rw [List.all_cons, hc]; rfl
            rw [em]
            have l1 : decide (1 ≤ (tl x).length ∧ (tl x).length ≤ 15) = true := decide_eq_true (by omega)
            by_cases c3 : (tl x).all isDig = true
            · rw [c3, if_neg (by decide)]
              have ne : tl x ≠ [] := fun z => by rw [h1, z] at c1; simp at c1
              obtain ⟨s, r, e3⟩ : ∃ s r, tl x = s :: r := by
                cases h : tl x with
                | nil => exact absurd h ne
                | cons s r => exact ⟨s, r, rfl⟩
              have e0 : tl (Str.ofString "0") = [48] := by decide +kernel
              have es : (({ cps := #[s] } : Str) = Str.ofString "0") ↔ s = 48 := by
                rw [str_eq_iff, e0]; simp [tl]
              have en : numB x = (decide (x = Str.ofString "0") || !decide (({ cps := #[s] } : Str) = Str.ofString "0")) := by
                unfold numB numOk
                rw [l1, c3, show decide (x = Str.ofString "0") = decide (tl x = [48]) by rw [decide_eq_decide, str_eq_iff, e0], e3]
                simp [es]
              simp only [dNext_eq, dRet_eq, dOrV_eq, dBin_eq, dVar_eq, dC_eq]
              refine ⟨_, rfl, eqRD_str.2 ⟨decide (x = Str.ofString "0"), rfl, ?_⟩⟩
              by_cases z : x = Str.ofString "0"
              · rw [decide_eq_true z, if_pos rfl]
                refine frz_of ?_
                rw [en, decide_eq_true z] at q
                exact q
              · rw [decide_eq_false z, if_neg (by decide)]
                refine ⟨_, rfl, ixD_str.2 ⟨h2, s, by rw [show x.cps.toList = tl x from rfl, e3, atI_zero], neRD_str.2 ?_⟩⟩
                refine frz_of ?_
                rw [en, decide_eq_false z] at q
                exact q
            · have c3' : (tl x).all isDig = false := by simpa using c3
              rw [c3', if_pos (by rfl)]
              exact hfalse (by unfold numB numOk; rw [l1, c3']; rfl)
      · obtain ⟨d, g1, z, g2, g3⟩ := h
        exact ⟨d, g1, z, g2, hR _ _ g3⟩
    · rw [decide_eq_false c2, if_pos (by rfl), if_pos trivial]
      exact hfalse (by unfold numB numOk; rw [show decide (1 ≤ (tl x).length ∧ (tl x).length ≤ 15) = false from decide_eq_false (by omega)]; rfl)
  · rw [decide_eq_false c1, if_neg (by decide)]
    refine ⟨false, rfl, ?_⟩
    rw [if_pos (by rfl), if_pos trivial]
    exact hfalse (by unfold numB numOk; rw [show decide (1 ≤ (tl x).length ∧ (tl x).length ≤ 15) = false from decide_eq_false (by omega)]; rfl)
end K97
set_option Elab.async false
set_option linter.all false
set_option maxRecDepth 100000
set_option maxHeartbeats 1000000
/-! K97P17: _law_is_key. -/
namespace K97
open PySem PySem.Spec PyProof.Rows L2 DL TL NumText
theorem rd_num_some {x : Str} : (rd numR x).isSome = numB x := by
  unfold rd numR numB
  by_cases c : numOk (tl x) = true
  · rw [if_pos c, c]; rfl
  · rw [if_neg c]
    simp at c
    rw [c]; rfl
def keyB (x : Str) : Bool := (rd keyR x).isSome
theorem keyB_eq (x : Str) : keyB x = if (tl x).head? = some 45 then (numB (mkS (tl x).tail) && !decide (x = "-0")) else numB x := by
  unfold keyB
  by_cases c : (tl x).head? = some 45
  · rw [if_pos c]
    have e0 : tl x = 45 :: (tl x).tail := by
      cases hl : tl x with
      | nil => rw [hl] at c; cases c
      | cons a r => rw [hl] at c; simp at c; rw [c]; rfl
    have e1 : (x = "-0") ↔ (tl x).tail = [48] := by
      rw [str_eq_iff, show tl (Str.ofString "-0") = [45, 48] by decide +kernel, e0]
      simp
    unfold rd keyR
    simp only [if_pos c]
    unfold numR numB
    rw [tl_mkS]
    by_cases ok : numOk (tl x).tail = true
    · simp only [if_pos ok, ok, Bool.true_and]
      have hz : digitsVal (tl x).tail = 0 ↔ (tl x).tail = [48] := by
        constructor
        · intro z
          have := (num_ok ok).1
          rw [z] at this
          rw [← this]; decide +kernel
        · intro z; rw [z]; rfl
      by_cases z : x = "-0"
      · have z2 := hz.2 (e1.1 z)
        rw [z2, decide_eq_true z]; rfl
      · have z2 : digitsVal (tl x).tail ≠ 0 := fun h => z (e1.2 (hz.1 h))
        rw [decide_eq_false z]
        have h3 : 0 < digitsVal (tl x).tail := by omega
        simp [h3]
    · have ok' : numOk (tl x).tail = false := by simpa using ok
      simp [ok']
  · rw [if_neg c]
    unfold rd keyR
    simp only [if_neg c]
    exact rd_num_some
theorem pure_law_key {a : Ad} (ds : List D) (w : Wd) (E : XDp) (Q : VKD) (h : spB1 keyB ds w E Q) : t__law_is_key a (spB1 numB) (fun x _ w' => E x w') { nx := fun _ w' => Q .non w', rt := Q } (startD ["word"] ds) w := by
  obtain ⟨x, rfl, hx, hok, q⟩ := h
  have h2 : x.length ≤ sizeLine := Nat.le_trans hx sL_line
  have h4 := tail_len x
  rw [keyB_eq] at q
  unfold t__law_is_key
  rw [show startD ["word"] [D.str x] = [some (.str x)] from rfl]
  simp only [dRet_eq, dIf_eq, dTest_eq, dBin_eq, dSl_eq, dVar_eq, dNoPart_eq, dPart_eq, dC_eq, dAndV_eq, dCall_eq, dCons_eq, dNil_eq]
  refine ⟨_, rfl, 1, rfl, slD_str.2 ⟨h2, eqRD_str.2 ⟨decide (cutS x none (some 1) = "-"), rfl, ?_⟩⟩⟩
  have hh := head_eq (x := x) (show tl (Str.ofString "-") = [45] by decide +kernel)
  by_cases c : (tl x).head? = some 45
  · rw [if_pos c] at q
    rw [decide_eq_true (hh.2 c), if_pos rfl]
    refine ⟨_, rfl, 1, rfl, slD_str.2 ⟨h2, rfl, cutS x (some 1) none, rfl, ?_, ?_, ?_⟩⟩
    · rw [cut_tail]; exact Nat.le_trans h4 hx
    · rw [cut_tail]
      intro d hd
      exact hok d (List.mem_of_mem_tail hd)
    · rw [cut_tail]
      refine ⟨numB (mkS (tl x).tail), rfl, ?_⟩
      cases hb : numB (mkS (tl x).tail) with
      | true =>
        rw [hb] at q
        rw [if_pos rfl]
        exact ⟨_, rfl, neRD_str.2 (frz_of q)⟩
      | false =>
        rw [hb] at q
        rw [if_neg (by decide)]
        exact frz_of q
  · rw [if_neg c] at q
    rw [decide_eq_false (fun h => c (hh.1 h)), if_neg (by decide)]
    exact ⟨_, rfl, rfl, x, rfl, hx, hok, frz_of q⟩
end K97
set_option Elab.async false
set_option linter.all false
set_option maxRecDepth 100000
set_option maxHeartbeats 1000000
/-! K97P18: _law_slot. -/
namespace K97
open PySem PySem.Spec PyProof.Rows L2 DL TL NumText
def slotD : Kd → Nat → D
  | .head, k => if k < 3 then .str "number" else .non
  | .space, _ => .str "number"
  | .leaf, k => if k = 1 then .str "link" else if k % 2 = 0 then .str "key" else .str "held"
  | .inner, k => if k % 2 = 0 then .str "key" else .str "number"
  | .piece, k => if k = 1 then .str "link" else if k = 2 then .str "string" else .non
  | .free, _ => .non
def spSlot : SpD := fun ds w _ Q => ∃ (kd : Kd) (k : Nat), ds = [.str (kStr kd), .int k] ∧ 1 ≤ k ∧ k ≤ sizeLine ∧ Q (slotD kd k) w
theorem s_hit {m k : Str} {r : Rho} {E : XD} {w : Wd} {De : EndsD} {s u : TSD} (h : k = m) (q : s E De (some (.str k) :: r) w) : dIfS (dTest (dBin eqRD (dVar 0) (dC (.str m)))) s u E De (some (.str k) :: r) w :=
  ⟨_, rfl, _, rfl, by rw [decide_eq_true h]; exact q⟩
theorem s_miss {m k : Str} {r : Rho} {E : XD} {w : Wd} {De : EndsD} {s : TSD} (h : k ≠ m) (q : De.nx (some (.str k) :: r) w) : dIfS (dTest (dBin eqRD (dVar 0) (dC (.str m)))) s dNext E De (some (.str k) :: r) w :=
  ⟨_, rfl, _, rfl, by rw [decide_eq_false h]; exact q⟩
theorem atI_two {x y : D} {k : Nat} : atI [x, y] ((k : Int) % 2) = some (if k % 2 = 0 then x else y) := by
  rcases Nat.mod_two_eq_zero_or_one k with h | h
  · rw [show ((k : Int) % 2) = ((0 : Nat) : Int) by omega, if_pos h]; exact atI_nat rfl
  · rw [show ((k : Int) % 2) = ((1 : Nat) : Int) by omega, if_neg (by omega)]; exact atI_nat rfl
theorem pure_law_slot {a : Ad} (ds : List D) (w : Wd) (E : XDp) (Q : VKD) (h : spSlot ds w E Q) : t__law_slot a (fun x _ w' => E x w') { nx := fun _ w' => Q .non w', rt := Q } (startD ["word", "at"] ds) w := by
  obtain ⟨kd, k, rfl, hk, hk2, q⟩ := h
  unfold t__law_slot
  rw [show startD ["word", "at"] [D.str (kStr kd), D.int k] = [some (.str (kStr kd)), some (.int k)] from rfl]
  simp only [dSeq_eq]
  cases kd with
  | head =>
    refine s_hit rfl ?_
    simp only [dRet_eq, dIf_eq, dTest_eq, dBin_eq, dVar_eq, dC_eq]
    refine ⟨_, rfl, _, _, rfl, rfl, decide ((k : Int) < 3), rfl, ?_⟩
    simp only [slotD] at q
    by_cases c : k < 3
    · rw [if_pos c] at q
      rw [decide_eq_true (by omega), if_pos rfl]; exact frz_of q
    · rw [if_neg c] at q
      rw [decide_eq_false (by omega), if_neg (by decide)]; exact frz_of q
  | space =>
    refine s_miss (by decide +kernel) (s_hit rfl ?_)
    exact frz_of q
  | leaf =>
    refine s_miss (by decide +kernel) (s_miss (by decide +kernel) (s_hit rfl ?_))
    simp only [dRet_eq, dIf_eq, dTest_eq, dBin_eq, dVar_eq, dC_eq, dLst_eq, dCons_eq, dNil_eq]
    refine ⟨_, rfl, eqRD_int.2 ⟨decide ((k : Int) = 1), rfl, ?_⟩⟩
    simp only [slotD] at q
    by_cases c : k = 1
    · rw [if_pos c] at q
      rw [decide_eq_true (by omega), if_pos rfl]; exact frz_of q
    · rw [if_neg c] at q
      rw [decide_eq_false (by omega), if_neg (by decide)]
      refine ⟨by decide, _, rfl, _, _, rfl, rfl, (by show (0 : Int) < 2; decide), ixD_lst.2 ⟨_, atI_two, ?_⟩⟩
      exact frz_of q
  | inner =>
    refine s_miss (by decide +kernel) (s_miss (by decide +kernel) (s_miss (by decide +kernel) (s_hit rfl ?_)))
    simp only [dRet_eq, dIf_eq, dTest_eq, dBin_eq, dVar_eq, dC_eq, dLst_eq, dCons_eq, dNil_eq]
    refine ⟨by decide, _, rfl, _, _, rfl, rfl, (by show (0 : Int) < 2; decide), ixD_lst.2 ⟨_, atI_two, ?_⟩⟩
    exact frz_of q
  | piece =>
    refine s_miss (by decide +kernel) (s_miss (by decide +kernel) (s_miss (by decide +kernel) (s_miss (by decide +kernel) ?_)))
    simp only [dRet_eq, dIf_eq, dAnd_eq, dTest_eq, dBin_eq, dVar_eq, dC_eq, dLst_eq, dCons_eq, dNil_eq]
    refine ⟨_, rfl, _, rfl, ?_⟩
    rw [decide_eq_true (show kStr .piece = "piece" from rfl), if_pos rfl]
    refine ⟨_, rfl, _, _, rfl, rfl, decide ((k : Int) < 3), rfl, ?_⟩
    simp only [slotD] at q
    by_cases c : k < 3
    · rw [decide_eq_true (by omega), if_pos rfl]
      refine ⟨by decide, _, rfl, ?_⟩
      rcases (show k = 1 ∨ k = 2 by omega) with rfl | rfl
      · exact ⟨_, _, rfl, rfl, ixD_lst.2 ⟨_, rfl, frz_of q⟩⟩
      · exact ⟨_, _, rfl, rfl, ixD_lst.2 ⟨_, rfl, frz_of q⟩⟩
    · rw [decide_eq_false (by omega), if_neg (by decide)]
      rw [if_neg (by omega), if_neg (by omega)] at q
      exact frz_of q
  | free =>
    refine s_miss (by decide +kernel) (s_miss (by decide +kernel) (s_miss (by decide +kernel) (s_miss (by decide +kernel) ?_)))
    simp only [dRet_eq, dIf_eq, dAnd_eq, dTest_eq, dBin_eq, dVar_eq, dC_eq, dLst_eq, dCons_eq, dNil_eq]
    refine ⟨_, rfl, _, rfl, ?_⟩
    rw [decide_eq_false (show kStr .free ≠ "piece" by decide +kernel), if_neg (by decide), if_neg (by decide)]
    exact frz_of q
end K97
set_option Elab.async false
set_option linter.all false
set_option maxRecDepth 100000
set_option maxHeartbeats 1000000
/-! K97P19: _law_is_string. -/
namespace K97
open PySem PySem.Spec PyProof.Rows L2 DL TL NumText
def strB (x : Str) : Bool := (rd strR x).isSome
theorem strB_eq (x : Str) : strB x = (decide ((tl x).head? = some 61) && (unE false (tl x).tail).isSome) := by
  unfold strB rd strR
  by_cases c : (tl x).head? = some 61
  · simp only [if_pos c, decide_eq_true c, Bool.true_and]
    cases unE false (tl x).tail <;> rfl
  · simp only [if_neg c, decide_eq_false c, Bool.false_and]
    rfl
theorem ix_at {x : Str} {k c : Nat} {w : Wd} {Q : VKD} (h2 : x.length ≤ sizeLine) (h : (tl x)[k]? = some c) (q : Q (.str ⟨#[c]⟩) w) : ixD (.str x) (.int (k : Int)) w Q :=
  ixD_str.2 ⟨h2, c, atI_nat h, q⟩
theorem cut_one (x : Str) (k : Nat) : cutS x (some ((k : Int) + 1)) (some ((k : Int) + 2)) = mkS (((tl x).drop (k + 1)).take 1) := by
  unfold cutS mkS
  rw [show ((k : Int) + 1) = ((k + 1 : Nat) : Int) by omega, show ((k : Int) + 2) = ((k + 2 : Nat) : Int) by omega, HT.sIx_nat, HT.sIx_nat, len_tl x, show x.cps.toList = tl x from rfl]
  generalize tl x = l
  congr 2
  by_cases h : k + 1 < l.length
  · rw [show min (k + 1) l.length = k + 1 by omega, show min (k + 2) l.length - (k + 1) = 1 by omega]
  · rw [show min (k + 1) l.length = l.length by omega, List.drop_length, List.drop_of_length_le (show l.length ≤ k + 1 by omega)]
    simp
theorem inD_str2 {y a b : Str} {w : Wd} {Q : VKD} (q : Q (.bl (decide (y = a) || decide (y = b))) w) : inD false (.str y) (.tup [.str a, .str b]) w Q := by
  refine ⟨_, rfl, rfl, rfl, ?_⟩
  have e : inV (toV (.str y)) ([D.str a, D.str b].map toV) = (decide (y = a) || decide (y = b)) := by
    show ((a == y) || ((b == y) || false)) = _
    rw [Bool.or_false]
    congr 1
    · by_cases h : y = a
      · subst h; simp
      · simp [h, Ne.symm h]
    · by_cases h : y = b
      · subst h; simp
      · simp [h, Ne.symm h]
  rw [e]; exact q
def escT : List Nat → Bool
  | s :: _ => decide (s = 126) || decide (s = 95)
  | [] => false
theorem esc_test (l : List Nat) : (decide (mkS (l.take 1) = Str.ofString "~") || decide (mkS (l.take 1) = Str.ofString "_")) = escT l := by
  have e1 : tl (Str.ofString "~") = [126] := by decide +kernel
  have e2 : tl (Str.ofString "_") = [95] := by decide +kernel
  cases l with
  | nil =>
    rw [decide_eq_false (by rw [mkS_eq, e1]; simp), decide_eq_false (by rw [mkS_eq, e2]; simp)]; rfl
  | cons s r =>
    show _ = (decide (s = 126) || decide (s = 95))
    congr 1
    · rw [decide_eq_decide, mkS_eq, e1]; simp
    · rw [decide_eq_decide, mkS_eq, e2]; simp
theorem pure_law_string {a : Ad} (ds : List D) (w : Wd) (E : XDp) (Q : VKD) (h : spB1 strB ds w E Q) : t__law_is_string a (fun x _ w' => E x w') { nx := fun _ w' => Q .non w', rt := Q } (startD ["word", "at"] ds) w := by
  obtain ⟨x, rfl, hx, hok, q⟩ := h
  have h1 := len_tl x
  have h2 : x.length ≤ sizeLine := Nat.le_trans hx sL_line
  have e1 : tl (Str.ofString "~") = [126] := by decide +kernel
  have e2 : tl (Str.ofString "_") = [95] := by decide +kernel
  have e3 : tl (Str.ofString "=") = [61] := by decide +kernel
  rw [strB_eq] at q
  unfold t__law_is_string
  rw [show startD ["word", "at"] [D.str x] = [some (.str x), none] from rfl]
  simp only [dSeq_eq, dSet_eq, dC_eq]
  refine ⟨fun m ρ w' => ∃ k : Nat, m = x.length + 1 - k ∧ 1 ≤ k ∧ k ≤ x.length + 1 ∧ ρ = [some (.str x), some (.int (k : Int))] ∧ w' = w ∧ ((tl x).head? = some 61 → k ≤ x.length ∧ (unE false (tl x).tail).isSome = (unE false ((tl x).drop k)).isSome), ⟨_, 1, rfl, by omega, by omega, rfl, rfl, fun hh => ⟨?_, ?_⟩⟩, ?_⟩
  · cases hl : tl x with
    | nil => rw [hl] at hh; cases hh
    | cons a b => rw [h1, hl]; simp
  · rw [List.drop_one]
  rintro m ρ w' ⟨k, rfl, hk, hk2, rfl, rfl, hinv⟩
  simp only [dTest_eq, dBin_eq, dVar_eq, dCB_eq, dCons_eq, dNil_eq]
  refine ⟨_, rfl, _, rfl, lenD_str.2 ⟨h2, _, _, rfl, rfl, decide ((k : Int) < x.length), rfl, ?_⟩⟩
  by_cases c : k < x.length
  · rw [decide_eq_true (by omega), if_pos rfl]
    obtain ⟨s, hs⟩ : ∃ s, (tl x)[k]? = some s := ⟨(tl x)[k]'(by omega), List.getElem?_eq_getElem (by omega)⟩
    have hdr : (tl x).drop k = s :: (tl x).drop (k + 1) := drop_atR hs
    have hstep : ∀ (b : Bool) (R : VKD), R (.int (k + (if b then 2 else 1) : Nat)) w' → decide ((⟨#[s]⟩ : Str) = Str.ofString "~") = b →
        dBin addD (dVar 1) (dBin ixD (dLst (dCons (dC (.int 1)) (dCons (dC (.int 2)) (dNil)))) (dCB intCD (dCons (dBin eqRD (dBin ixD (dVar 0) (dVar 1)) (dC (.str "~"))) (dNil)))) (fun x _ w' => E x w') [some (.str x), some (.int (k : Int))] w' R := fun b R hR hb => by
      simp only [dBin_eq, dVar_eq, dLst_eq, dCons_eq, dNil_eq, dC_eq, dCB_eq]
      refine ⟨_, rfl, by decide, _, rfl, _, rfl, ix_at h2 hs (eqRD_str.2 (intCD_bl.2 ?_))⟩
      rw [hb]
      cases b with
      | true => exact ixD_lst.2 ⟨_, rfl, by simpa [addD] using hR⟩
      | false => exact ixD_lst.2 ⟨_, rfl, by simpa [addD] using hR⟩
    simp only [dSeq_eq, dIfS_eq, dAnd_eq, dTest_eq, dBin_eq, dVar_eq, dC_eq]
    refine ⟨_, rfl, _, rfl, ix_at h2 hs (eqRD_str.2 ⟨decide ((⟨#[s]⟩ : Str) = Str.ofString "~"), rfl, ?_⟩)⟩
    by_cases ct : s = 126
    · have hb : decide ((⟨#[s]⟩ : Str) = Str.ofString "~") = true := decide_eq_true ((one_eq e1).2 ct)
      rw [hb, if_pos rfl]
      simp only [dNot_eq, dTest_eq, dBin_eq, dSl_eq, dVar_eq, dPart_eq, dC_eq, dTup_eq, dCons_eq, dNil_eq, addD_int]
      refine ⟨_, rfl, _, rfl, _, rfl, _, rfl, _, rfl, slD_str.2 ⟨h2, by decide, inD_str2 ⟨_, rfl, ?_⟩⟩⟩
      rw [cut_one, esc_test]
      cases hn : (tl x).drop (k + 1) with
      | nil =>
        rw [if_pos (by rfl)]
        simp only [dRet_eq, dC_eq]
        refine frz_of ?_
        by_cases hh : (tl x).head? = some 61
        · rw [(hinv hh).2, hdr, hn, ct] at q
          simpa [unE] using q
        · rw [decide_eq_false hh] at q; exact q
      | cons s2 r2 =>
        have hlen : k + 2 ≤ x.length := by
          have := congrArg List.length hn
          rw [List.length_drop, ← h1, List.length_cons] at this
          omega
        have hdr2 : (tl x).drop (k + 2) = r2 := by
          rw [show k + 2 = (k + 1) + 1 by omega, ← List.drop_drop, hn]; rfl
        by_cases c2 : s2 = 126 ∨ s2 = 95
        · have hb2 : escT (s2 :: r2) = true := by
            show (decide (s2 = 126) || decide (s2 = 95)) = true
            rcases c2 with z | z <;> simp [z]
          rw [hb2, if_neg (by decide), dNext_eq]
          simp only [dSet_eq]
          refine hstep true _ ⟨x.length + 1 - (k + 2), by omega, k + 2, rfl, by omega, by omega, by rfl, rfl, fun hh => ⟨by omega, ?_⟩⟩ hb
          rw [(hinv hh).2, hdr, hn, ct, hdr2]
          rcases c2 with z | z <;> rw [z] <;> simp [unE]
        · have hb2 : escT (s2 :: r2) = false := by
            show (decide (s2 = 126) || decide (s2 = 95)) = false
            simp; omega
          rw [hb2, if_pos (by rfl)]
          simp only [dRet_eq, dC_eq]
          refine frz_of ?_
          by_cases hh : (tl x).head? = some 61
          · rw [(hinv hh).2, hdr, hn, ct] at q
            have z1 : ¬ s2 = 95 := fun z => c2 (.inr z)
            have z2 : ¬ s2 = 126 := fun z => c2 (.inl z)
            simpa [unE, z1, z2] using q
          · rw [decide_eq_false hh] at q; exact q
    · have hb : decide ((⟨#[s]⟩ : Str) = Str.ofString "~") = false := decide_eq_false (fun z => ct ((one_eq e1).1 z))
      rw [hb, if_neg (by decide), if_neg (by decide), dNext_eq]
      simp only [dSet_eq]
      refine hstep false _ ⟨x.length + 1 - (k + 1), by omega, k + 1, rfl, by omega, by omega, by rfl, rfl, fun hh => ⟨by omega, ?_⟩⟩ hb
      rw [(hinv hh).2, hdr, unE_f, if_neg ct]
      simp
  · rw [decide_eq_false (by omega), if_neg (by decide)]
    simp only [dRet_eq, dBin_eq, dSl_eq, dVar_eq, dNoPart_eq, dPart_eq, dC_eq]
    refine ⟨_, rfl, 1, rfl, slD_str.2 ⟨h2, eqRD_str.2 (frz_of ?_)⟩⟩
    by_cases hh : (tl x).head? = some 61
    · rw [decide_eq_true ((head_eq e3).2 hh)]
      rw [(hinv hh).2, List.drop_of_length_le (by omega), decide_eq_true hh] at q
      simpa [unE] using q
    · rw [decide_eq_false (fun z => hh ((head_eq e3).1 z))]
      rw [decide_eq_false hh] at q
      exact q
end K97
set_option Elab.async false
set_option linter.all false
set_option maxRecDepth 100000
set_option maxHeartbeats 1000000
/-! K97P20: _law_is_held. -/
namespace K97
open PySem PySem.Spec PyProof.Rows L2 DL TL NumText
def heldB (x : Str) : Bool := (rd heldR x).isSome
theorem heldB_eq (x : Str) : heldB x = if (tl x).head? = some 64 then numB (mkS (bef 58 (tl x).tail)) && numB (mkS (aft 58 (tl x).tail)) else strB x := by
  unfold heldB
  by_cases c : (tl x).head? = some 64
  · rw [if_pos c, ← rd_num_some, ← rd_num_some]
    unfold rd heldR
    simp only [if_pos c]
    rcases numR_cases (mkS (bef 58 (tl x).tail)) with e1 | ⟨n, e1⟩ <;> rcases numR_cases (mkS (aft 58 (tl x).tail)) with e2 | ⟨m, e2⟩ <;> rw [e1, e2] <;> rfl
  · rw [if_neg c]
    unfold strB rd heldR
    simp only [if_neg c]
theorem split2 (L : List Nat) : (Txt.split (mkS L) ":" = [mkS (bef 58 L), mkS (aft 58 L)]) ∨ ((Txt.split (mkS L) ":").length ≠ 2 ∧ numB (mkS (aft 58 L)) = false) := by
  have ec : tl (Str.ofString ":") = [58] := by decide +kernel
  have hs := split_spl (mkS L) ":" (by rw [ec]; simp) (kind_ok (by decide +kernel))
  rw [ec, tl_mkS] at hs
  rcases cut_cases 58 L with ⟨h1, h2, h3⟩ | h
  · right
    rw [spl_last1 h1] at hs
    have := congrArg List.length hs
    simp at this
    refine ⟨by omega, ?_⟩
    rw [h3]; rfl
  · have hb := bef_free 58 L
    have hX : ∀ {M : List Nat}, M = bef 58 M ++ 58 :: aft 58 M → spl [58] 0 [] M = bef 58 M :: spl [58] 0 [] (aft 58 M) := fun {M} hM => by
      conv => lhs; rw [hM, show bef 58 M ++ 58 :: aft 58 M = bef 58 M ++ ([58] ++ aft 58 M) by simp, spl_part1 (bef_free 58 M), List.nil_append]
    rw [hX h] at hs
    rcases cut_cases 58 (aft 58 L) with ⟨g1, g2, g3⟩ | g
    · left
      rw [spl_last1 g1, List.nil_append] at hs
      refine map_tl_inj ?_
      rw [hs]; rfl
    · right
      have hmem : 58 ∈ aft 58 L := by rw [g]; simp
      rw [hX g] at hs
      have hne := spl_ne [58] (aft 58 (aft 58 L)) 0 []
      have := congrArg List.length hs
      simp at this
      have h3 : 0 < (spl [58] 0 [] (aft 58 (aft 58 L))).length := List.length_pos_iff.2 hne
      refine ⟨by omega, ?_⟩
      unfold numB numOk
      rw [tl_mkS]
      have : (aft 58 L).all isDig = false := by
        rw [← Bool.not_eq_true, List.all_eq_true]
        intro z
        exact absurd (z 58 hmem) (by decide)
      rw [this]
      simp
theorem okS_tail {x : Str} (h : OkS x) : ∀ c ∈ (tl x).tail, c < 0x110000 := fun c hc => h c (List.mem_of_mem_tail hc)
theorem bef_mem {c d : Nat} {l : List Nat} (h : d ∈ bef c l) : d ∈ l := (List.takeWhile_sublist _).mem h
theorem aft_mem {c d : Nat} {l : List Nat} (h : d ∈ aft c l) : d ∈ l := (List.dropWhile_sublist _).mem (List.mem_of_mem_tail h)
theorem pure_law_held {a : Ad} (ds : List D) (w : Wd) (E : XDp) (Q : VKD) (h : spB1 heldB ds w E Q) : t__law_is_held a (spB1 strB) (spB1 numB) (fun x _ w' => E x w') { nx := fun _ w' => Q .non w', rt := Q } (startD ["word", "parts"] ds) w := by
  obtain ⟨x, rfl, hx, hok, q⟩ := h
  have h2 : x.length ≤ sizeLine := Nat.le_trans hx sL_line
  have h4 := tail_len x
  have e3 : tl (Str.ofString "@") = [64] := by decide +kernel
  have sz : sizeLine = 16777216 := rfl
  have hsl : sL = 1000000 := rfl
  rw [heldB_eq] at q
  have ho := okS_tail hok
  unfold t__law_is_held
  rw [show startD ["word", "parts"] [D.str x] = [some (.str x), none] from rfl]
  simp only [dSeq_eq, dSet_eq, dM1_eq, dSl_eq, dVar_eq, dPart_eq, dNoPart_eq, dC_eq]
  refine ⟨_, rfl, 1, rfl, slD_str.2 ⟨h2, _, rfl, ?_⟩⟩
  rw [cut_tail]
  refine ⟨_, _, rfl, rfl, by decide +kernel, by omega, ?_⟩
  simp only [dIfS_eq, dTest_eq, dBin_eq, dSl_eq, dVar_eq, dNoPart_eq, dPart_eq, dC_eq]
  refine ⟨_, rfl, 1, rfl, slD_str.2 ⟨h2, eqRD_str.2 ⟨_, rfl, ?_⟩⟩⟩
  by_cases c : (tl x).head? = some 64
  · rw [if_pos c] at q
    rw [decide_eq_true ((head_eq e3).2 c), if_pos rfl]
    simp only [dRet_eq, dAndV_eq, dBin_eq, dCB_eq, dCons_eq, dNil_eq, dVar_eq, dC_eq, dCall_eq]
    generalize hL : (tl x).tail = L at *
    have lb : (mkS (bef 58 L)).length ≤ sL := by
      have := bef_len 58 L
      rw [len_mkS] at h4 ⊢; omega
    have la : (mkS (aft 58 L)).length ≤ sL := by
      have := aft_len 58 L
      rw [len_mkS] at h4 ⊢; omega
    rcases split2 L with e | ⟨e1, e2⟩
    · rw [e]
      refine ⟨_, rfl, lenD_lst.2 (eqRD_int.2 ⟨true, rfl, ?_⟩)⟩
      rw [if_pos rfl]
      refine ⟨_, rfl, ixD_lst.2 ⟨_, atI_zero _ _, rfl, _, rfl, lb, fun d hd => ho d (bef_mem hd), _, rfl, ?_⟩⟩
      cases hb : numB (mkS (bef 58 L)) with
      | false =>
        rw [hb] at q
        rw [if_neg (by decide)]
        exact frz_of q
      | true =>
        rw [hb] at q
        rw [if_pos rfl]
        exact ⟨_, rfl, ixD_lst.2 ⟨.str (mkS (aft 58 L)), rfl, rfl, _, rfl, la, fun d hd => ho d (aft_mem hd), frz_of q⟩⟩
    · rw [e2, Bool.and_false] at q
      refine ⟨_, rfl, lenD_lst.2 (eqRD_int.2 ⟨false, ?_, ?_⟩)⟩
      · rw [decide_eq_false (by simp; omega)]
      · rw [if_neg (by decide)]
        exact frz_of q
  · rw [if_neg c] at q
    rw [decide_eq_false (fun z => c ((head_eq e3).1 z)), if_neg (by decide)]
    simp only [dNext_eq, dRet_eq, dCall_eq, dCons_eq, dNil_eq, dVar_eq]
    exact ⟨_, rfl, rfl, x, rfl, hx, hok, frz_of q⟩
end K97
set_option Elab.async false
set_option linter.all false
set_option maxRecDepth 100000
set_option maxHeartbeats 1000000
/-! K97P21: _law_fits. -/
namespace K97
open PySem PySem.Spec PyProof.Rows L2 DL TL NumText
inductive Sl where | link | number | key | held | string | no
def sD : Sl → D
  | .link => .str "link" | .number => .str "number" | .key => .str "key" | .held => .str "held" | .string => .str "string" | .no => .non
def sB : Sl → Str → Bool
  | .link, x => decide (x = "-") || numB x
  | .number, x => numB x
  | .key, x => keyB x
  | .held, x => heldB x
  | .string, x => strB x
  | .no, _ => false
def slotOf : Kd → Nat → Sl
  | .head, k => if k < 3 then .number else .no
  | .space, _ => .number
  | .leaf, k => if k = 1 then .link else if k % 2 = 0 then .key else .held
  | .inner, k => if k % 2 = 0 then .key else .number
  | .piece, k => if k = 1 then .link else if k = 2 then .string else .no
  | .free, _ => .no
theorem slot_D (kd : Kd) (k : Nat) : slotD kd k = sD (slotOf kd k) := by
  cases kd <;> simp only [slotD, slotOf] <;> (repeat' split) <;> rfl
theorem lnk_some (x : Str) : (lnk x).isSome = (decide (x = "-") || numB x) := by
  unfold lnk
  by_cases h : x = "-"
  · rw [if_pos h, decide_eq_true h]; rfl
  · rw [if_neg h, decide_eq_false h, rd_num_some, Bool.false_or]
theorem slot_B (kd : Kd) (k : Nat) (x : Str) : (rho kd k x).isSome = sB (slotOf kd k) x := by
  cases kd <;> simp only [rho, slotOf] <;> (repeat' split) <;> first | rfl | exact rd_num_some | exact lnk_some x
def spFits : SpD := fun ds w _ Q => ∃ (x : Str) (sl : Sl), ds = [.str x, sD sl] ∧ x.length ≤ sL ∧ OkS x ∧ Q (.bl (sB sl x)) w
theorem f_hit {m k : Str} {x : D} {E : XD} {w : Wd} {De : EndsD} {s u : TSD} (h : k = m) (q : s E De [some x, some (.str k)] w) : dIfS (dTest (dBin eqRD (dVar 1) (dC (.str m)))) s u E De [some x, some (.str k)] w :=
  ⟨_, rfl, _, rfl, by rw [decide_eq_true h]; exact q⟩
theorem f_miss {m k : Str} {x : D} {E : XD} {w : Wd} {De : EndsD} {s : TSD} (h : k ≠ m) (q : De.nx [some x, some (.str k)] w) : dIfS (dTest (dBin eqRD (dVar 1) (dC (.str m)))) s dNext E De [some x, some (.str k)] w :=
  ⟨_, rfl, _, rfl, by rw [decide_eq_false h]; exact q⟩
theorem f_non {m : Str} {x : D} {E : XD} {w : Wd} {De : EndsD} {s : TSD} (q : De.nx [some x, some .non] w) : dIfS (dTest (dBin eqRD (dVar 1) (dC (.str m)))) s dNext E De [some x, some .non] w :=
  ⟨_, rfl, false, rfl, q⟩
theorem pure_law_fits {a : Ad} (ds : List D) (w : Wd) (E : XDp) (Q : VKD) (h : spFits ds w E Q) : t__law_fits a (spB1 heldB) (spB1 keyB) (spB1 strB) (spB1 numB) (fun x _ w' => E x w') { nx := fun _ w' => Q .non w', rt := Q } (startD ["word", "slot"] ds) w := by
  obtain ⟨x, sl, rfl, hx, hok, q⟩ := h
  unfold t__law_fits
  rw [show startD ["word", "slot"] [D.str x, sD sl] = [some (.str x), some (sD sl)] from rfl]
  simp only [dSeq_eq]
  cases sl with
  | link =>
    refine f_hit rfl ?_
    simp only [dRet_eq, dOrV_eq, dBin_eq, dVar_eq, dC_eq, dCall_eq, dCons_eq, dNil_eq]
    refine ⟨_, rfl, eqRD_str.2 ⟨_, rfl, ?_⟩⟩
    simp only [sB] at q
    by_cases c : x = "-"
    · rw [decide_eq_true c] at q ⊢
      rw [if_pos rfl]; exact frz_of q
    · rw [decide_eq_false c, Bool.false_or] at q
      rw [decide_eq_false c, if_neg (by decide)]
      exact ⟨_, rfl, rfl, x, rfl, hx, hok, frz_of q⟩
  | number =>
    refine f_miss (by decide +kernel) (f_hit rfl ?_)
    simp only [dRet_eq, dVar_eq, dCall_eq, dCons_eq, dNil_eq]
    exact ⟨_, rfl, rfl, x, rfl, hx, hok, frz_of q⟩
  | key =>
    refine f_miss (by decide +kernel) (f_miss (by decide +kernel) (f_hit rfl ?_))
    simp only [dRet_eq, dVar_eq, dCall_eq, dCons_eq, dNil_eq]
    exact ⟨_, rfl, rfl, x, rfl, hx, hok, frz_of q⟩
  | held =>
    refine f_miss (by decide +kernel) (f_miss (by decide +kernel) (f_miss (by decide +kernel) ?_))
    simp only [dRet_eq, dIf_eq, dTest_eq, dBin_eq, dVar_eq, dC_eq, dCall_eq, dCons_eq, dNil_eq]
    refine ⟨_, rfl, eqRD_str.2 ⟨true, congrArg D.bl (by decide +kernel), ?_⟩⟩
    rw [if_pos rfl]
    exact ⟨_, rfl, rfl, x, rfl, hx, hok, frz_of q⟩
  | string =>
    refine f_miss (by decide +kernel) (f_miss (by decide +kernel) (f_miss (by decide +kernel) ?_))
    simp only [dRet_eq, dIf_eq, dTest_eq, dBin_eq, dVar_eq, dC_eq, dCall_eq, dCons_eq, dNil_eq, dAndV_eq]
    refine ⟨_, rfl, eqRD_str.2 ⟨false, congrArg D.bl (by decide +kernel), ?_⟩⟩
    rw [if_neg (by decide)]
    refine ⟨_, rfl, eqRD_str.2 ⟨true, congrArg D.bl (by decide +kernel), ?_⟩⟩
    rw [if_pos rfl]
    exact ⟨_, rfl, rfl, x, rfl, hx, hok, frz_of q⟩
  | no =>
    refine f_non (f_non (f_non ?_))
    simp only [dRet_eq, dIf_eq, dTest_eq, dBin_eq, dVar_eq, dC_eq, dCall_eq, dCons_eq, dNil_eq, dAndV_eq]
    refine ⟨_, rfl, false, rfl, ?_⟩
    rw [if_neg (by decide)]
    refine ⟨_, rfl, false, rfl, ?_⟩
    rw [if_neg (by decide)]
    exact frz_of q
end K97
set_option Elab.async false
set_option linter.all false
set_option maxRecDepth 100000
set_option maxHeartbeats 1000000
/-! K97P22: _law_image_wrong, _law_file_wrong. -/
namespace K97
open PySem PySem.Spec PyProof.Rows L2 DL TL NumText
def wrongD : Except Nat D → D
  | .error j => .int (j : Nat)
  | .ok _ => .non
def OkR (ws : List Str) : Prop := Sz ws ∧ (∀ x ∈ ws, OkS x) ∧ 1 ≤ ws.length
def spWrong : SpD := fun ds w _ Q => ∃ ws : List Str, ds = [rowD ws] ∧ OkR ws ∧ Q (wrongD (imgR ws)) w
theorem inD_strs {y : Str} {l : List Str} {w : Wd} {Q : VKD} (q : Q (.bl (l.any (· == y))) w) : inD false (.str y) (.tup (l.map .str)) w Q := by
  refine ⟨_, rfl, rfl, ?_, ?_⟩
  · rw [List.all_map]; exact List.all_eq_true.2 fun x _ => rfl
  · have e : inV (toV (.str y)) ((l.map D.str).map toV) = l.any (· == y) := by
      unfold inV
      rw [List.any_map, List.any_map]; rfl
    show Q (.bl (if false = true then _ else inV (toV (.str y)) ((l.map D.str).map toV))) w
    rw [e]; exact q
def leastK : Kd → Nat
  | .head => 3 | .space => 3 | .leaf => 2 | .inner => 4 | .piece => 3 | .free => 1
def leastT : List (Key × D) := [(.inr "head", .int 3), (.inr "space", .int 3), (.inr "leaf", .int 2), (.inr "inner", .int 4), (.inr "piece", .int 3), (.inr "free", .int 1)]
theorem least_val (kd : Kd) : valD (mergeKD [] leastT) (.inr (kStr kd)) = some (.int (leastK kd)) := by
  cases kd <;> rfl
theorem short_eq (kd : Kd) (n : Nat) (hn : 1 ≤ n) : short kd n = (decide (n < leastK kd) || ((["leaf", "inner"] : List Str).any (· == kStr kd) && decide (n % 2 = 1))) := by
  have e1 : (["leaf", "inner"] : List Str).any (· == kStr .head) = false := by decide +kernel
  have e2 : (["leaf", "inner"] : List Str).any (· == kStr .space) = false := by decide +kernel
  have e3 : (["leaf", "inner"] : List Str).any (· == kStr .leaf) = true := by decide +kernel
  have e4 : (["leaf", "inner"] : List Str).any (· == kStr .inner) = true := by decide +kernel
  have e5 : (["leaf", "inner"] : List Str).any (· == kStr .piece) = false := by decide +kernel
  have e6 : (["leaf", "inner"] : List Str).any (· == kStr .free) = false := by decide +kernel
  cases kd
  · rw [e1]; simp only [short, leastK, Bool.false_and, Bool.true_and, Bool.or_false] <;> rfl
  · rw [e2]; simp only [short, leastK, Bool.false_and, Bool.true_and, Bool.or_false] <;> rfl
  · rw [e3]; simp only [short, leastK, Bool.false_and, Bool.true_and, Bool.or_false] <;> rfl
  · rw [e4]; simp only [short, leastK, Bool.false_and, Bool.true_and, Bool.or_false] <;> rfl
  · rw [e5]; simp only [short, leastK, Bool.false_and, Bool.true_and, Bool.or_false] <;> rfl
  · rw [e6]; simp [short, leastK]; omega
theorem pure_law_image_wrong {a : Ad} (ds : List D) (w : Wd) (E : XDp) (Q : VKD) (h : spWrong ds w E Q) : t__law_image_wrong a spFits spSlot (fun x _ w' => E x w') { nx := fun _ w' => Q .non w', rt := Q } (startD ["row", "word", "at", "least"] ds) w := by
  obtain ⟨ws, rfl, ⟨hs, hok, hn⟩, q⟩ := h
  have sz : sizeLine = 16777216 := rfl
  have hsl : sL = 1000000 := rfl
  obtain ⟨x, hx0⟩ : ∃ x, ws[0]? = some x := ⟨ws[0]'(by omega), List.getElem?_eq_getElem (by omega)⟩
  have hatw : ∀ {k : Nat} {y : Str}, ws[k]? = some y → atI (ws.map D.str) (k : Int) = some (.str y) := fun h => atI_nat (by rw [List.getElem?_map, h]; rfl)
  unfold t__law_image_wrong
  rw [show startD ["row", "word", "at", "least"] [rowD ws] = [some (rowD ws), none, none, none] from rfl]
  simp only [dSeq_eq, dSet_eq, dBin_eq, dVar_eq, dC_eq]
  refine ⟨_, rfl, ixD_lst.2 ⟨_, hatw hx0, ?_⟩⟩
  simp only [dIfS_eq, dNot_eq, dTest_eq, dBin_eq, dVar_eq, dTup_eq, dCons_eq, dNil_eq, dC_eq, List.set_cons_succ, List.set_cons_zero]
  refine ⟨_, rfl, by decide, inD_strs (l := kTx) ⟨_, rfl, ?_⟩⟩
  rw [kTx_mem]
  unfold imgR at q
  rw [hx0] at q
  dsimp only at q
  cases hk : kindOf x with
  | none =>
    rw [hk] at q
    rw [if_pos (by rfl)]
    simp only [dRet_eq, dC_eq]
    exact frz_of q
  | some kd =>
    rw [hk] at q
    dsimp only at q
    rw [if_neg (by simp)]
    have hxk := kind_str hk
    simp only [dNext_eq]
    unfold dFor
    simp only [iRngD2, dCons_eq, dNil_eq, dC_eq, dCB_eq, dVar_eq]
    refine ⟨_, rfl, lenD_lst.2 ⟨1, _, rfl, ⟨by decide, by decide, by simp <;> omega, by have := hs.1; simp <;> omega⟩, ?_⟩⟩
    have hlen : (((ws.map D.str).length : Int) - 1).toNat = ws.length - 1 := by simp <;> omega
    rw [hlen]
    refine ⟨fun i ρ w' => w' = w ∧ i ≤ ws.length - 1 ∧ (∃ acc, AtK kd ws (1 + i) acc) ∧ ∃ o, ρ = [some (rowD ws), some (.str x), o, none], ⟨rfl, Nat.zero_le _, ⟨[], AtK.zero⟩, none, rfl⟩, fun i d ρ w' hd => ?_, fun ρ w' => ?_⟩
    · rintro ⟨rfl, hi, ⟨acc, hacc⟩, o, rfl⟩
      obtain ⟨hi2, hd2⟩ := List.getElem?_eq_some_iff.1 hd
      have hi3 : i < ws.length - 1 := by simpa [rngD] using hi2
      have hd3 : d = .int ((1 + i : Nat) : Int) := by
        rw [← hd2]; simp [rngD]
      subst hd3
      obtain ⟨y, hy⟩ : ∃ y, ws[1 + i]? = some y := ⟨ws[1 + i]'(by omega), List.getElem?_eq_getElem (by omega)⟩
      have ymem := List.mem_of_getElem? hy
      simp only [gdName_eq, dIfS_eq, dNot_eq, dTru_eq, dCall_eq, dCons_eq, dNil_eq, dBin_eq, dVar_eq, List.set_cons_succ, List.set_cons_zero]
      refine ⟨_, rfl, _, rfl, ixD_lst.2 ⟨_, hatw hy, _, rfl, _, rfl, rfl, ?_⟩⟩
      have hsl2 := hs.1
      refine ⟨kd, 1 + i, by rw [hxk]; rfl, by omega, by omega, ?_⟩
      rw [slot_D]
      refine ⟨rfl, y, slotOf kd (1 + i), rfl, hs.2 y ymem, hok y ymem, ?_⟩
      simp only [truD_bl]
      rw [← slot_B]
      cases hr : rho kd (1 + i) y with
      | none =>
        rw [if_pos (by rfl)]
        simp only [dRet_eq, dVar_eq]
        refine ⟨_, rfl, frz_of ?_⟩
        rw [hacc.bad hy hr] at q
        exact q
      | some d =>
        rw [if_neg (by simp)]
        simp only [dNext_eq]
        refine ⟨trivial, by omega, ⟨acc ++ [d], ?_⟩, _, rfl⟩
        exact hacc.next hy hr
    · rintro ⟨rfl, hi, ⟨acc, hacc⟩, o, rfl⟩
      have hl : 1 + (rngD 1 (ws.length - 1)).length = ws.length := by simp [rngD]; omega
      rw [hl] at hacc
      simp only [dSet_eq]
      unfold dDGet dDisp
      intro p hp
      simp only [dpCons, dpNil, dC_eq]
      refine ⟨wupd_same, leastT, rfl, by decide, ?_⟩
      rw [wupd_upd]
      simp only [dVar_eq]
      refine ⟨_, rfl, p, _, .inr (kStr kd), .int (leastK kd), rfl, wupd_same, by rw [hxk]; rfl, least_val kd, ?_⟩
      have hweak : ∀ {d : D}, Frz d (wupd w' p (.dK (mergeKD [] leastT))) d w' := Frz.weak (WLe.new hp)
      simp only [dSeq_eq, dIfS_eq, dOr_eq, dAnd_eq, dTest_eq, dBin_eq, dCB_eq, dCons_eq, dNil_eq, dVar_eq, dC_eq, dTup_eq, List.set_cons_succ, List.set_cons_zero]
      have hse := short_eq kd ws.length hn
      have fin : ∀ b, short kd ws.length = b → (if b = true then dRet (dCB lenD (dCons (dVar 0) dNil)) (fun x _ w' => E x w') { nx := fun ρ w' => dRet (dC .non) (fun x _ w' => E x w') { nx := fun _ w' => Q .non w', rt := Q } ρ w', rt := Q } [some (rowD ws), some (.str x), o, some (.int (leastK kd))] (wupd w' p (.dK (mergeKD [] leastT))) else dNext (fun x _ w' => E x w') { nx := fun ρ w' => dRet (dC .non) (fun x _ w' => E x w') { nx := fun _ w' => Q .non w', rt := Q } ρ w', rt := Q } [some (rowD ws), some (.str x), o, some (.int (leastK kd))] (wupd w' p (.dK (mergeKD [] leastT)))) := by
        intro b hb
        cases b with
        | true =>
          rw [if_pos rfl]
          simp only [dRet_eq, dCB_eq, dCons_eq, dNil_eq, dVar_eq]
          refine ⟨_, rfl, lenD_lst.2 ⟨_, w', hweak, ?_⟩⟩
          rw [hacc.over rfl hb] at q
          simpa [wrongD] using q
        | false =>
          rw [if_neg (by decide)]
          simp only [dNext_eq, dRet_eq, dC_eq]
          refine ⟨_, w', hweak, ?_⟩
          rw [hacc.done rfl hb] at q
          exact q
      refine ⟨_, rfl, lenD_lst.2 ⟨_, rfl, _, _, rfl, rfl, decide (ws.length < leastK kd), congrArg D.bl (by rw [decide_eq_decide, List.length_map]; omega), ?_⟩⟩
      simp only [if_true] at fin ⊢
      by_cases c1 : ws.length < leastK kd
      · rw [decide_eq_true c1] at hse ⊢
        rw [if_pos rfl]
        exact fin true (by rw [hse]; rfl)
      · rw [decide_eq_false c1, Bool.false_or] at hse
        rw [decide_eq_false c1, if_neg (by decide)]
        refine ⟨_, rfl, by decide, inD_strs (l := ["leaf", "inner"]) ⟨_, rfl, ?_⟩⟩
        rw [← hxk] at hse
        cases c2 : (["leaf", "inner"] : List Str).any (· == x) with
        | false =>
          rw [c2] at hse
          rw [if_neg (by decide)]
          exact fin false (by rw [hse]; rfl)
        | true =>
          rw [c2, Bool.true_and] at hse
          rw [if_pos rfl]
          refine ⟨_, rfl, lenD_lst.2 ⟨_, _, rfl, rfl, (by show (0 : Int) < 2; decide), eqRD_int.2 ⟨decide (ws.length % 2 = 1), congrArg D.bl (by show decide (((ws.map D.str).length : Int) % 2 = 1) = _; rw [decide_eq_decide, List.length_map]; omega), ?_⟩⟩⟩
          rw [← hse]
          exact fin _ rfl
def placeD : Except (Nat × Nat) (List D) → D
  | .error (i, j) => .tup [.int (i : Nat), .int (j : Nat)]
  | .ok _ => .non
def spFileW : SpD := fun ds w _ Q => ∃ rows : List (List Str), ds = [.lst (rows.map rowD)] ∧ rows.length ≤ sizeLine ∧ (∀ r ∈ rows, OkR r) ∧ Q (placeD (fileR rows 0)) w
theorem pure_law_file_wrong {a : Ad} (ds : List D) (w : Wd) (E : XDp) (Q : VKD) (h : spFileW ds w E Q) : t__law_file_wrong a spWrong (fun x _ w' => E x w') { nx := fun _ w' => Q .non w', rt := Q } (startD ["rows", "at", "row", "found"] ds) w := by
  obtain ⟨rows, rfl, hl, hr, q⟩ := h
  unfold t__law_file_wrong
  rw [show startD ["rows", "at", "row", "found"] [D.lst (rows.map rowD)] = [some (.lst (rows.map rowD)), none, none, none] from rfl]
  simp only [dSeq_eq]
  unfold dFor iEnumD
  simp only [dCons_eq, dNil_eq, dVar_eq]
  refine ⟨_, rfl, _, .inl rfl, ?_⟩
  refine ⟨fun i ρ w' => w' = w ∧ (∃ o1 o2 o3, ρ = [some (.lst (rows.map rowD)), o1, o2, o3]) ∧ ∃ acc : List D, fileR rows 0 = (fileR (rows.drop i) i).map (acc ++ ·), ⟨rfl, ⟨_, _, _, rfl⟩, [], ?_⟩, fun i d ρ w' hd => ?_, fun ρ w' => ?_⟩
  · rw [List.drop_zero]
    cases fileR rows 0 <;> rfl
  · rintro ⟨rfl, ⟨o1, o2, o3, rfl⟩, acc, he⟩
    obtain ⟨d', hd', rfl⟩ := enumD_at hd
    rw [List.getElem?_map] at hd'
    obtain ⟨row, hrow, rfl⟩ := Option.map_eq_some_iff.mp hd'
    rw [drop_atR hrow, fileR_cons] at he
    simp only [gdTup_tup, gdCons_cons, gdNil_nil, gdName_eq, dSeq_eq, dSet_eq, dCall_eq, dCons_eq, dNil_eq, dVar_eq, List.set_cons_succ, List.set_cons_zero]
    refine ⟨rfl, _, rfl, rfl, row, rfl, hr row (List.mem_of_getElem? hrow), ?_⟩
    simp only [dIfS_eq, notNT_eq, dVar_eq]
    cases hi : imgR row with
    | error j =>
      rw [hi] at he
      dsimp only at he
      refine ⟨_, rfl, ?_⟩
      rw [if_pos (by rfl)]
      simp only [dRet_eq, dTup_eq, dCons_eq, dNil_eq, dVar_eq]
      refine ⟨_, rfl, _, rfl, by show 2 ≤ sizeLine; decide, frz_of ?_⟩
      rw [he] at q
      exact q
    | ok d =>
      rw [hi] at he
      dsimp only at he
      refine ⟨_, rfl, ?_⟩
      rw [if_neg (by simp [wrongD])]
      simp only [dNext_eq]
      refine ⟨trivial, ⟨_, _, _, rfl⟩, acc ++ [d], ?_⟩
      rw [he, map_map_fx]
      congr 1
      funext u
      simp
  · rintro ⟨rfl, ⟨o1, o2, o3, rfl⟩, acc, he⟩
    rw [enum_len, List.length_map, List.drop_length] at he
    simp only [dRet_eq, dC_eq]
    refine frz_of ?_
    rw [he] at q
    exact q
end K97
set_option Elab.async false
set_option linter.all false
set_option maxRecDepth 100000
set_option maxHeartbeats 1000000
/-! K97P23: _law_due. -/
namespace K97
open PySem PySem.Spec PyProof.Rows L2 DL TL NumText
theorem joinL_char (S : List Nat) : ∀ (ps : List (List Nat)) (p : List Nat) (c : Nat), p ∈ ps → c ∈ p → c ∈ joinL S ps
  | [q], p, c, h, hc => by
    cases List.mem_singleton.1 h
    exact hc
  | q :: r :: t, p, c, h, hc => by
    have e : joinL S (q :: r :: t) = q ++ (S ++ joinL S (r :: t)) := by simp [joinL]
    rw [e]
    rcases List.mem_cons.1 h with h | h
    · subst h; simp [hc]
    · have := joinL_char S (r :: t) p c h hc
      simp [this]
theorem split_okS {x y p : Str} (hx : OkS x) (h : p ∈ Txt.split x y) : OkS p := by
  have e := PySem.StrLaws.join_split x y
  have e2 := tl_join y (Txt.split x y)
  rw [e] at e2
  intro c hc
  refine hx c ?_
  rw [e2]
  exact joinL_char _ _ (tl p) c (List.mem_map_of_mem h) hc
theorem rows_ok {x : Str} (hx : x.length + 2 ≤ sL) (ho : OkS x) : ∀ r ∈ rowsOf x, OkR r := fun r hr => by
  obtain ⟨h1, h2⟩ := rows_sz hr hx
  refine ⟨h1, fun y hy => ?_, h2⟩
  unfold rowsOf at hr
  obtain ⟨l, hl, rfl⟩ := List.mem_map.1 hr
  exact split_okS (split_okS ho hl) hy
def toldD (x : Str) : D := match fileR (rowsOf x) 0 with
  | .ok _ => .lst [.str x]
  | .error (i, j) => .tup [.int (i : Nat), .int (j : Nat)]
def zzD : D := .tup [.int 0, .int 0]
def spDue : SpD := fun ds w _ Q => (∃ x, ds = [.str x] ∧ x.length + 2 ≤ sL ∧ OkS x ∧ Q (toldD x) w) ∨ ∃ d, ds = [d] ∧ isThing d ∧ Q zzD w
theorem pure_law_due {a : Ad} (ds : List D) (w : Wd) (E : XDp) (Q : VKD) (h : spDue ds w E Q) : t__law_due a spFileW (fun x _ w' => E x w') { nx := fun _ w' => Q .non w', rt := Q } (startD ["page", "wrong", "line"] ds) w := by
  unfold t__law_due
  rcases h with ⟨x, rfl, hx, ho, q⟩ | ⟨d, rfl, hd, q⟩
  · rw [show startD ["page", "wrong", "line"] [D.str x] = [some (.str x), none, none] from rfl]
    simp only [dSeq_eq, dIfS_eq, dNot_eq, dTru_eq, dCB_eq, dCons_eq, dNil_eq, dVar_eq, dC_eq]
    refine ⟨_, rfl, .str x, "str", "str", true, rfl, rfl, by decide, ?_⟩
    simp only [truD_bl, Bool.not_true, if_neg (show ¬ (false = true) by decide), dNext_eq, dSet_eq, dCall_eq, dCons_eq, dNil_eq]
    have hz : x.length + 2 ≤ sizeLine := Nat.le_trans hx sL_line
    refine lc_map1 (w1 := w) ((Txt.split x "\n").map .str) (fun d => match d with | .str l => rowD (Txt.split l " ") | _ => .non) (fun R h => ?_) ?_ ?_ ?_
    · simp only [iSeqL_eq, dM1_eq, dVar_eq, dC_eq]
      exact ⟨_, rfl, x, rfl, x, _, rfl, rfl, by decide +kernel, hz, _, .inl rfl, h⟩
    · rw [List.length_map]
      exact Nat.le_trans (split_le x "\n") hz
    · intro i d w' Q' hd hq
      rw [List.getElem?_map] at hd
      obtain ⟨l, hl, rfl⟩ := Option.map_eq_some_iff.mp hd
      have := split_mem (List.mem_of_getElem? hl)
      simp only [gdName_eq, dM1_eq, dVar_eq, dC_eq]
      exact ⟨_, rfl, l, rfl, l, _, rfl, rfl, by decide +kernel, by omega, hq⟩
    · rw [List.map_map]
      refine ⟨rfl, rowsOf x, ?_, ?_, rows_ok hx ho, ?_⟩
      · unfold rowsOf; rw [List.map_map]; rfl
      · unfold rowsOf
        rw [List.length_map]
        exact Nat.le_trans (split_le x "\n") hz
      · simp only [dRet_eq, dIf_eq, isNT_eq, dVar_eq, dLst_eq, dCons_eq, dNil_eq]
        refine ⟨_, rfl, ?_⟩
        unfold toldD at q
        cases hf : fileR (rowsOf x) 0 with
        | ok es =>
          rw [hf] at q
          rw [if_pos (by rfl)]
          exact ⟨_, rfl, by show 1 ≤ sizeLine; decide, frz_of q⟩
        | error ij =>
          obtain ⟨i, j⟩ := ij
          rw [hf] at q
          rw [if_neg (by simp [placeD])]
          exact ⟨_, rfl, frz_of q⟩
  · rw [show startD ["page", "wrong", "line"] [d] = [some d, none, none] from rfl]
    simp only [dSeq_eq, dIfS_eq, dNot_eq, dTru_eq, dCB_eq, dCons_eq, dNil_eq, dVar_eq, dC_eq]
    refine ⟨_, rfl, ?_⟩
    obtain ⟨t, h1, h2⟩ : ∃ t, tyD w d = some t ∧ kitB t "str" = some false := by
      cases d with
      | non => exact ⟨"NoneType", rfl, by decide⟩
      | bl _ => exact ⟨"bool", rfl, by decide⟩
      | int _ => exact ⟨"int", rfl, by decide⟩
      | lst _ => exact ⟨"list", rfl, by decide⟩
      | _ => exact hd.elim
    refine ⟨d, "str", t, false, rfl, h1, h2, ?_⟩
    simp only [truD_bl]
    rw [if_pos (by rfl)]
    simp only [dRet_eq, dTup_eq, dCons_eq, dNil_eq, dC_eq]
    exact ⟨by decide, frz_of q⟩
end K97
set_option Elab.async false
set_option linter.all false
set_option maxRecDepth 100000
set_option maxHeartbeats 1000000
/-! K97P24: _law_source, _law_draw, _law_pick. -/
namespace K97
open PySem PySem.Spec PyProof.Rows L2 DL TL NumText
def srcT (ns : List Int) (t l : Nat) : List (Key × D) := [(.inr "cells", .lst (ns.map .int)), (.inr "turn", .int t), (.inr "left", .int l)]
/-- the source's dict, with at most c draws behind it -/
def SrcO (o : DO) (c : Nat) : Prop := ∃ ns t l, o = .dK (srcT ns t l) ∧ t ≤ c ∧ ns.length ≤ 63
def Src (w : Wd) (p : Addr) (c : Nat) : Prop := ∃ o, w p = some o ∧ SrcO o c
def spSource : SpD := fun ds w _ Q => ∃ ns : List Int, ds = [.rls (ns.map .int)] ∧ ns.length ≤ 63 ∧ ∀ p, w p = none → Q (.ref p) (wupd w p (.dK (srcT ns 0 0)))
theorem pure_law_source {a : Ad} (ds : List D) (w : Wd) (E : XDp) (Q : VKD) (h : spSource ds w E Q) : t__law_source a (fun x _ w' => E x w') { nx := fun _ w' => Q .non w', rt := Q } (startD ["script"] ds) w := by
  obtain ⟨ns, rfl, hn, q⟩ := h
  unfold t__law_source
  rw [show startD ["script"] [D.rls (ns.map .int)] = [some (.rls (ns.map .int))] from rfl]
  simp only [dRet_eq]
  unfold dDisp
  intro p hp
  simp only [dpCons, dpNil, dC_eq, dCB_eq, dCons_eq, dNil_eq, dSl_eq, dVar_eq, dNoPart_eq, dPart_eq]
  refine ⟨_, rfl, 63, rfl, ?_⟩
  refine ⟨_, rfl, ?_⟩
  have hc : DL.cutD (ns.map .int) none (some 63) = ns.map .int := by
    unfold DL.cutD
    rw [HT.sIx_none, show (some (63 : Int)) = some ((63 : Nat) : Int) from rfl, HT.sIx_nat, List.drop_zero]
    exact List.take_of_length_le (by simp; omega)
  rw [hc]
  refine ⟨.lst (ns.map .int), _, rfl, rfl, wupd_same, srcT ns 0 0, rfl, (by show 3 ≤ 15; decide), ?_⟩
  rw [wupd_upd]
  exact frz_of (q p hp)
theorem vl_cells {ns : List Int} {t l : Nat} : valD (srcT ns t l) (.inr "cells") = some (.lst (ns.map .int)) := by rfl
theorem vl_turn {ns : List Int} {t l : Nat} : valD (srcT ns t l) (.inr "turn") = some (.int t) := by rfl
theorem vl_left {ns : List Int} {t l : Nat} : valD (srcT ns t l) (.inr "left") = some (.int l) := by rfl
theorem pt_turn {ns : List Int} {t l t' : Nat} : putKD (srcT ns t l) (.inr "turn") (.int t') = srcT ns t' l := by rfl
theorem pt_left {ns : List Int} {t l l' : Nat} : putKD (srcT ns t l) (.inr "left") (.int l') = srcT ns t l' := by rfl
theorem get_src {ns : List Int} {t l : Nat} {p : Addr} {k : Str} {d : D} {E : XD} {r : Rho} {w : Wd} {Q : VKD} (h : w p = some (.dK (srcT ns t l))) (hv : valD (srcT ns t l) (.inr k) = some d) (q : Q d w) : dDGet (dVar 0) (dC (.str k)) E (some (.ref p) :: r) w Q :=
  ⟨_, rfl, p, _, .inr k, d, rfl, h, rfl, hv, q⟩
/-- many draws: d < many, and the source one draw on -/
def spDraw : SpD := fun ds w _ Q => ∃ (p : Addr) (m c : Nat), ds = [.ref p, .int m] ∧ Src w p c ∧ c ≤ 2 ^ 20 ∧ 0 < m ∧ m < 2 ^ 20 ∧ ∀ d : Nat, d < m → ∀ o, SrcO o (c + 1) → Q (.int d) (wupd w p o)
theorem draw_tail {p : Addr} {m t : Nat} {cell : Int} {o2 o5 o6 : Option D} {E : XD} {De : EndsD} {w : Wd} (ht : t ≤ 2 ^ 20) (hm : 0 < m) (q : ∀ d : Nat, d < m → De.rt (.int d) w) :
    dSeq (dSet 6 (dBin modD (dBin powD (dBin addD (dBin addD (dBin addD (dBin modD (dVar 4) (dC (.int 2147483579))) (dBin mulD (dBin mulD (dC (.int 48779)) (dVar 3)) (dVar 3))) (dBin mulD (dC (.int 97)) (dVar 3))) (dC (.int 41))) (dC (.int 5))) (dC (.int 2147483647)))) (dSeq (dSet 6 (dBin modD (dBin powD (dBin addD (dBin addD (dBin mulD (dVar 6) (dBin addD (dBin mulD (dC (.int 2)) (dVar 3)) (dC (.int 17)))) (dBin mulD (dC (.int 60139)) (dVar 3))) (dC (.int 13))) (dC (.int 3))) (dC (.int 2147483563)))) (dRet (dBin modD (dBin fdivD (dVar 6) (dC (.int 32))) (dVar 1)))) E De [some (.ref p), some (.int m), o2, some (.int t), some (.int cell), o5, o6] w := by
  simp only [dSeq_eq, dSet_eq, dBin_eq, dVar_eq, dC_eq]
  have t0 : (0 : Int) ≤ t := by omega
  have t1 : (t : Int) ≤ 1048576 := by omega
  refine ⟨_, rfl, mod_i (by decide) ?_⟩
  have a0 : 0 ≤ cell % 2147483579 := Int.emod_nonneg _ (by decide)
  have a1 : cell % 2147483579 < 2147483579 := Int.emod_lt_of_pos _ (by decide)
  generalize cell % 2147483579 = c1 at a0 a1 ⊢
  refine ⟨_, rfl, mulL_i (by decide) (by decide) ⟨_, rfl, mulR_i (by omega) (by omega) (add_i ⟨_, rfl, mulL_i (by decide) (by decide) (add_i (add_i ?_))⟩)⟩⟩
  have b1 : 0 ≤ 48779 * (t : Int) * t := Int.mul_nonneg (Int.mul_nonneg (by decide) t0) t0
  have b2 : 48779 * (t : Int) * t ≤ 48779 * 1048576 * 1048576 := by
    have := Int.mul_le_mul (a := 48779 * (t : Int)) (b := t) (c := 48779 * 1048576) (d := 1048576) (by omega) t1 t0 (by decide)
    exact this
  generalize 48779 * (t : Int) * t = c2 at b1 b2 ⊢
  refine pow_i (n := 5) (by decide) (by omega) (mod_i (by decide) ?_)
  have d0 : 0 ≤ (c1 + c2 + 97 * (t : Int) + 41) ^ 5 % 2147483647 := Int.emod_nonneg _ (by decide)
  have d1 : (c1 + c2 + 97 * (t : Int) + 41) ^ 5 % 2147483647 < 2147483647 := Int.emod_lt_of_pos _ (by decide)
  generalize (c1 + c2 + 97 * (t : Int) + 41) ^ 5 % 2147483647 = c3 at d0 d1 ⊢
  refine ⟨_, rfl, _, rfl, mulL_i (by decide) (by decide) (add_i (mulR_i (by omega) (by omega) ⟨_, rfl, mulL_i (by decide) (by decide) (add_i (add_i ?_))⟩))⟩
  have f1 : 0 ≤ c3 * (2 * (t : Int) + 17) := Int.mul_nonneg d0 (by omega)
  have f2 : c3 * (2 * (t : Int) + 17) ≤ 2147483647 * 2097169 := Int.mul_le_mul (by omega) (by omega) (by omega) (by decide)
  generalize c3 * (2 * (t : Int) + 17) = c4 at f1 f2 ⊢
  refine pow_i (n := 3) (by decide) (by omega) (mod_i (by decide) ?_)
  have g0 : 0 ≤ (c4 + 60139 * (t : Int) + 13) ^ 3 % 2147483563 := Int.emod_nonneg _ (by decide)
  generalize (c4 + 60139 * (t : Int) + 13) ^ 3 % 2147483563 = c5 at g0 ⊢
  simp only [dRet_eq, dBin_eq, dVar_eq, dC_eq]
  refine ⟨_, rfl, fdiv_i (by decide) (by decide) ⟨_, rfl, mod_i (by omega) (frz_of ?_)⟩⟩
  have h0 : 0 ≤ c5 / 32 % (m : Int) := Int.emod_nonneg _ (by omega)
  have h1 : c5 / 32 % (m : Int) < m := Int.emod_lt_of_pos _ (by omega)
  obtain ⟨d, hd⟩ := Int.eq_ofNat_of_zero_le h0
  have := q d (by omega)
  rw [hd]
  exact this
theorem eq_ints_nil {w : Wd} : ∀ {ns : List Int} {Q : Bool → Prop}, Q ns.isEmpty → eqD (.lst (ns.map .int)) (.lst []) w Q := by
  intro ns Q q
  have hp : ∀ ns : List Int, toPyL (ns.map .int) = some (ns.map PyData.int) := by
    intro ns
    induction ns with
    | nil => rfl
    | cons i is ih =>
      show (toPy (.int i)).bind _ = _
      rw [ih]; rfl
  have hl : ∀ ns : List Int, PyData.canLayAll0 (ns.map PyData.int) = true := by
    intro ns
    induction ns with
    | nil => rfl
    | cons i is ih =>
      show (PyData.canLay0 (.int i) && PyData.canLayAll0 (is.map PyData.int)) = true
      rw [ih]; rfl
  have hd : ∀ ns : List Int, PyData.depthAll (ns.map PyData.int) = 0 := by
    intro ns
    induction ns with
    | nil => rfl
    | cons i is ih =>
      show max (PyData.depth (.int i)) (PyData.depthAll (is.map PyData.int)) = 0
      rw [ih]; rfl
  refine ⟨.list (ns.map PyData.int), .list [], ?_, rfl, ?_, by decide, ?_⟩
  · show (toPyL (ns.map D.int)).map PyData.list = _
    rw [hp]; rfl
  · show (PyData.canLayAll0 (ns.map PyData.int) && decide (PyData.depthAll (ns.map PyData.int) + 1 ≤ 64)) = true
    rw [hl, hd]; rfl
  · have : PyData.eqv (.list (ns.map PyData.int)) (.list []) = ns.isEmpty := by cases ns <;> rfl
    rw [this]; exact q
theorem put_turn {ns : List Int} {t t' l : Nat} {p : Addr} {te : TED} {E : XD} {De : EndsD} {r : Rho} {w : Wd} (h : w p = some (.dK (srcT ns t l))) (ht : ∀ R : VKD, R (.int t') w → te E (some (.ref p) :: r) w R) (q : De.nx (some (.ref p) :: r) (wupd w p (.dK (srcT ns t' l)))) : dDPut (dVar 0) (dC (.str "turn")) te E De (some (.ref p) :: r) w :=
  ht _ ⟨_, rfl, p, _, .inr "turn", rfl, h, rfl, by show 3 < sizeLine; decide, by rw [pt_turn]; exact q⟩
theorem put_left {ns : List Int} {t l' l : Nat} {p : Addr} {te : TED} {E : XD} {De : EndsD} {r : Rho} {w : Wd} (h : w p = some (.dK (srcT ns t l))) (ht : ∀ R : VKD, R (.int l') w → te E (some (.ref p) :: r) w R) (q : De.nx (some (.ref p) :: r) (wupd w p (.dK (srcT ns t l')))) : dDPut (dVar 0) (dC (.str "left")) te E De (some (.ref p) :: r) w :=
  ht _ ⟨_, rfl, p, _, .inr "left", rfl, h, rfl, by show 3 < sizeLine; decide, by rw [pt_left]; exact q⟩
theorem mod_nat {l m : Nat} {w : Wd} {Q : VKD} (hm : 0 < m) (q : Q (.int ((l % m : Nat) : Int)) w) : modD (.int (l : Int)) (.int (m : Int)) w Q := mod_i (by omega) (by rw [show (l : Int) % (m : Int) = ((l % m : Nat) : Int) by simp]; exact q)
theorem div_nat {l m : Nat} {w : Wd} {Q : VKD} (hm : 0 < m) (hm2 : m < 2 ^ 20) (q : Q (.int ((l / m : Nat) : Int)) w) : fdivD (.int (l : Int)) (.int (m : Int)) w Q := fdiv_i (by omega) (by omega) (by rw [show (l : Int) / (m : Int) = ((l / m : Nat) : Int) by simp]; exact q)
theorem pure_law_draw {a : Ad} (ds : List D) (w : Wd) (E : XDp) (Q : VKD) (h : spDraw ds w E Q) : t__law_draw a (fun x _ w' => E x w') { nx := fun _ w' => Q .non w', rt := Q } (startD ["source", "many", "digit", "turn", "cell", "great", "mixed"] ds) w := by
  obtain ⟨p, m, c, rfl, ⟨o, hp, ns, t, l, rfl, htc, hns⟩, hc, hm, hm2, q⟩ := h
  unfold t__law_draw
  rw [show startD ["source", "many", "digit", "turn", "cell", "great", "mixed"] [D.ref p, .int m] = [some (.ref p), some (.int m), none, none, none, none, none] from rfl]
  try dsimp only
  rw [dSeq_eq]
  simp only [dIfS_eq, dTest_eq, dBin_eq]
  refine get_src hp vl_left ?_
  simp only [dC_eq]
  refine gt_i ⟨decide ((0 : Int) < l), rfl, ?_⟩
  by_cases c1 : 0 < l
  · rw [decide_eq_true (by omega), if_pos rfl]
    try dsimp only
    rw [dSeq_eq]
    simp only [dSet_eq, dBin_eq]
    refine get_src hp vl_left ?_
    simp only [dVar_eq]
    refine ⟨_, rfl, mod_nat hm ?_⟩
    try dsimp only
    rw [dSeq_eq]
    simp only [List.set_cons_succ, List.set_cons_zero]
    refine put_left (l' := l / m) hp (fun R h => ?_) ?_
    · rw [dBin_eq]
      refine get_src hp vl_left ?_
      simp only [dVar_eq]
      exact ⟨_, rfl, div_nat hm hm2 h⟩
    · simp only [dRet_eq, dVar_eq]
      exact ⟨_, rfl, frz_of (q _ (Nat.mod_lt _ hm) _ ⟨ns, t, l / m, rfl, by omega, hns⟩)⟩
  · rw [decide_eq_false (by omega), if_neg (by decide)]
    have hl0 : l = 0 := by omega
    subst hl0
    rw [dNext_eq]
    dsimp only
    try dsimp only
    rw [dSeq_eq]
    simp only [dSet_eq]
    refine get_src hp vl_turn ?_
    try dsimp only
    rw [dSeq_eq]
    simp only [List.set_cons_succ, List.set_cons_zero]
    refine put_turn (t' := t + 1) hp (fun R h => ?_) ?_
    · simp only [dBin_eq, dVar_eq, dC_eq]
      exact ⟨_, rfl, addD_int.2 h⟩
    have hp1 : (wupd w p (.dK (srcT ns (t + 1) 0))) p = some (.dK (srcT ns (t + 1) 0)) := wupd_same
    have fin : ∀ d : Nat, d < m → Q (.int d) (wupd w p (.dK (srcT ns (t + 1) 0))) := fun d hd => q d hd _ ⟨ns, t + 1, 0, rfl, by omega, hns⟩
    have fin2 : ∀ d l' : Nat, d < m → Q (.int d) (wupd (wupd w p (.dK (srcT ns (t + 1) 0))) p (.dK (srcT ns (t + 1) l'))) := fun d l' hd => by
      rw [wupd_upd]; exact q d hd _ ⟨ns, t + 1, l', rfl, by omega, hns⟩
    generalize wupd w p (.dK (srcT ns (t + 1) 0)) = w1 at *
    try dsimp only
    rw [dSeq_eq]
    simp only [dSet_eq, dBin_eq, dC_eq, dVar_eq]
    refine ⟨_, rfl, mulL_i (by decide) (by decide) (add_i ?_)⟩
    try dsimp only
    rw [dSeq_eq]
    simp only [List.set_cons_succ, List.set_cons_zero]
    simp only [dIfS_eq, dTest_eq, dBin_eq]
    refine get_src hp1 vl_cells ?_
    simp only [dLst_eq, dNil_eq]
    refine ⟨by decide, eq_ints_nil ⟨_, rfl, ?_⟩⟩
    have len_src : ∀ {E : XD} {r : Rho} {Q : VKD}, Q (.int (ns.length : Nat)) w1 → dCB lenD (dCons (dDGet (dVar 0) (dC (.str "cells"))) (dNil)) E (some (.ref p) :: r) w1 Q := fun {E r Q} h => by
      rw [dCB_eq, dCons_eq]
      refine get_src hp1 vl_cells ?_
      rw [dNil_eq]
      exact lenD_lst.2 (by simpa using h)
    have key : ∀ cell : Int, dSeq (dIfS (dAnd (dTest (dBin ltD (dVar 3) (dCB lenD (dCons (dDGet (dVar 0) (dC (.str "cells"))) (dNil))))) (dTest (dBin geD (dCB absD (dCons (dVar 4) (dNil))) (dBin powD (dC (.int 10)) (dC (.int 18)))))) (dSeq (dSet 5 (dBin addD (dBin mulD (dC (.int 2)) (dBin subD (dCB absD (dCons (dVar 4) (dNil))) (dBin powD (dC (.int 10)) (dC (.int 18))))) (dCB intCD (dCons (dBin ltD (dVar 4) (dC (.int 0))) (dNil))))) (dSeq (dDPut (dVar 0) (dC (.str "left")) (dBin fdivD (dVar 5) (dVar 1))) (dRet (dBin modD (dVar 5) (dVar 1))))) (dNext)) (dSeq (dSet 6 (dBin modD (dBin powD (dBin addD (dBin addD (dBin addD (dBin modD (dVar 4) (dC (.int 2147483579))) (dBin mulD (dBin mulD (dC (.int 48779)) (dVar 3)) (dVar 3))) (dBin mulD (dC (.int 97)) (dVar 3))) (dC (.int 41))) (dC (.int 5))) (dC (.int 2147483647)))) (dSeq (dSet 6 (dBin modD (dBin powD (dBin addD (dBin addD (dBin mulD (dVar 6) (dBin addD (dBin mulD (dC (.int 2)) (dVar 3)) (dC (.int 17)))) (dBin mulD (dC (.int 60139)) (dVar 3))) (dC (.int 13))) (dC (.int 3))) (dC (.int 2147483563)))) (dRet (dBin modD (dBin fdivD (dVar 6) (dC (.int 32))) (dVar 1))))) (fun x _ w' => E x w') { nx := fun _ w' => Q .non w', rt := Q } [some (.ref p), some (.int m), none, some (.int t), some (.int cell), none, none] w1 := by
      intro cell
      try dsimp only
      rw [dSeq_eq]
      simp only [dIfS_eq, dAnd_eq, dTest_eq]
      rw [dBin_eq, dVar_eq]
      refine ⟨_, rfl, len_src (lt_i ⟨decide ((t : Int) < (ns.length : Nat)), rfl, ?_⟩)⟩
      by_cases c2 : (t : Int) < (ns.length : Nat)
      · rw [decide_eq_true c2, if_pos rfl]
        simp only [dBin_eq, dCB_eq, dCons_eq, dNil_eq, dVar_eq, dC_eq]
        refine ⟨_, rfl, abs_i (pow_i (n := 18) (by decide) (by decide) (ge_i ⟨_, rfl, ?_⟩))⟩
        generalize habs : (if cell < 0 then -cell else cell) = ac
        by_cases c3 : (10 : Int) ^ 18 ≤ ac
        · rw [decide_eq_true c3, if_pos rfl]
          try dsimp only
          rw [dSeq_eq]
          simp only [dSet_eq, dBin_eq, dCB_eq, dCons_eq, dNil_eq, dVar_eq, dC_eq]
          refine ⟨_, rfl, abs_i (pow_i (n := 18) (by decide) (by decide) (sub_i (mulL_i (by decide) (by decide) ⟨_, rfl, lt_i (intCD_bl.2 (add_i ?_))⟩)))⟩
          rw [habs]
          obtain ⟨g, hg⟩ : ∃ g : Nat, 2 * (ac - 10 ^ 18) + (if decide (cell < 0) = true then 1 else 0) = (g : Int) := Int.eq_ofNat_of_zero_le (by
            have : 0 ≤ ac - 10 ^ 18 := by omega
            split <;> omega)
          rw [hg]
          simp only [List.set_cons_succ, List.set_cons_zero]
          try dsimp only
          rw [dSeq_eq]
          refine put_left (l' := g / m) hp1 (fun R h => ?_) ?_
          · simp only [dBin_eq, dVar_eq]
            exact ⟨_, rfl, _, rfl, div_nat hm hm2 h⟩
          · simp only [dRet_eq, dBin_eq, dVar_eq]
            exact ⟨_, rfl, _, rfl, mod_nat hm (frz_of (fin2 _ _ (Nat.mod_lt _ hm)))⟩
        · rw [decide_eq_false c3, if_neg (by decide), dNext_eq]
          exact draw_tail (by omega) hm fin
      · rw [decide_eq_false c2, if_neg (by decide), if_neg (by decide), dNext_eq]
        exact draw_tail (by omega) hm fin
    by_cases c4 : ns = []
    · subst c4
      rw [if_neg (by simp), dNext_eq]
      exact key _
    · have hne : ns.isEmpty = false := by cases ns <;> simp_all
      have hpos : 0 < ns.length := List.length_pos_iff.2 c4
      rw [hne, if_pos (by rfl)]
      rw [dSet_eq, dBin_eq]
      refine get_src hp1 vl_cells ?_
      rw [dBin_eq, dVar_eq]
      refine ⟨_, rfl, len_src (mod_nat hpos ?_)⟩
      obtain ⟨v, hv⟩ : ∃ v, ns[t % ns.length]? = some v := ⟨ns[t % ns.length]'(Nat.mod_lt _ hpos), List.getElem?_eq_getElem _⟩
      refine ixD_lst.2 ⟨.int v, atI_nat (by rw [List.getElem?_map, hv]; rfl), ?_⟩
      exact key v
/-! _law_pick -/
def spPick : SpD := fun ds w _ Q => ∃ (p : Addr) (c : Nat), Src w p c ∧ c ≤ 2 ^ 20 ∧
  ((∃ xs : List D, ds = [.ref p, .lst xs] ∧ 0 < xs.length ∧ xs.length < 2 ^ 20 ∧ ∀ d ∈ xs, ∀ o, SrcO o (c + 1) → Q d (wupd w p o)) ∨
   ∃ x : Str, ds = [.ref p, .str x] ∧ 0 < x.length ∧ x.length < 2 ^ 20 ∧ ∀ s ∈ tl x, ∀ o, SrcO o (c + 1) → Q (.str ⟨#[s]⟩) (wupd w p o))
theorem pure_law_pick {a : Ad} (ds : List D) (w : Wd) (E : XDp) (Q : VKD) (h : spPick ds w E Q) : t__law_pick a spDraw (fun x _ w' => E x w') { nx := fun _ w' => Q .non w', rt := Q } (startD ["source", "some"] ds) w := by
  obtain ⟨p, c, hs, hc, ⟨xs, rfl, h1, h2, q⟩ | ⟨x, rfl, h1, h2, q⟩⟩ := h
  · unfold t__law_pick
    rw [show startD ["source", "some"] [D.ref p, .lst xs] = [some (.ref p), some (.lst xs)] from rfl]
    simp only [dRet_eq, dBin_eq, dVar_eq, dCall_eq, dCons_eq, dNil_eq, dCB_eq]
    refine ⟨_, rfl, _, rfl, _, rfl, lenD_lst.2 ⟨rfl, p, xs.length, c, rfl, hs, hc, h1, h2, fun d hd o ho => ?_⟩⟩
    refine ixD_lst.2 ⟨xs[d], atI_nat (List.getElem?_eq_getElem hd), frz_of (q _ (List.getElem_mem _) o ho)⟩
  · unfold t__law_pick
    rw [show startD ["source", "some"] [D.ref p, .str x] = [some (.ref p), some (.str x)] from rfl]
    simp only [dRet_eq, dBin_eq, dVar_eq, dCall_eq, dCons_eq, dNil_eq, dCB_eq]
    have hx : x.length ≤ sizeLine := by
      have : sizeLine = 16777216 := rfl
      omega
    refine ⟨_, rfl, _, rfl, _, rfl, lenD_str.2 ⟨hx, rfl, p, x.length, c, rfl, hs, hc, h1, h2, fun d hd o ho => ?_⟩⟩
    rw [len_tl] at hd
    refine ix_at hx (List.getElem?_eq_getElem hd) (frz_of (q _ (List.getElem_mem _) o ho))
end K97
set_option Elab.async false
set_option linter.all false
set_option maxRecDepth 100000
set_option maxHeartbeats 1000000
/-! K97P25: _law_images; what is known of a page. -/
namespace K97
open PySem PySem.Spec PyProof.Rows L2 DL TL NumText
theorem SrcO.le {o : DO} {c d : Nat} (h : SrcO o c) (hc : c ≤ d) : SrcO o d := by
  obtain ⟨ns, t, l, e, h1, h2⟩ := h
  exact ⟨ns, t, l, e, Nat.le_trans h1 hc, h2⟩
theorem Src.upd {w : Wd} {p : Addr} {o : DO} {c : Nat} (h : SrcO o c) : Src (wupd w p o) p c := ⟨o, wupd_same, h⟩
def imgT1 : List Str := ["head 2 0", "space 5 3", "space 7 3 5 6", "leaf - 4 = 5 =a~_b", "leaf 3", "inner 2 9 3", "free"]
def imgT2 : List Str := ["inner 2 -9 3 4 5", "piece - =a", "piece 4 =~~~_=", "leaf 3 -1 @4:20", "space 900 0 2 3 4"]
def imgT3 : List Str := ["piece 4 =123456789", "piece - =", ("leaf - 4 =" : Str) ++ repS "ab~_" 12 ++ (" 6 @7:7" : Str)]
def imgT : List Str := imgT1 ++ imgT2 ++ imgT3
def spImages : SpD := fun ds w _ Q => ∃ (p : Addr) (c : Nat), ds = [.ref p] ∧ Src w p c ∧ c + 5 ≤ 2 ^ 20 ∧ ∀ ts : List Str, 1 ≤ ts.length → ts.length ≤ 4 → (∀ t ∈ ts, t ∈ imgT) → ∀ o, SrcO o (c + 5) → Q (.lst (ts.map .str)) (wupd w p o)
theorem add_l {xs ys : List D} {w : Wd} {Q : VKD} (h : xs.length + ys.length ≤ sizeLine) (q : Q (.lst (xs ++ ys)) w) : addD (.lst xs) (.lst ys) w Q := ⟨xs, ys, rfl, rfl, h, q⟩
theorem pure_law_images {a : Ad} (ds : List D) (w : Wd) (E : XDp) (Q : VKD) (h : spImages ds w E Q) : t__law_images a spDraw spPick (fun x _ w' => E x w') { nx := fun _ w' => Q .non w', rt := Q } (startD ["source", "some", "k"] ds) w := by
  obtain ⟨p, c, rfl, hs, hc, q⟩ := h
  have sz : sizeLine = 16777216 := rfl
  unfold t__law_images
  rw [show startD ["source", "some", "k"] [D.ref p] = [some (.ref p), none, none] from rfl]
  simp only [dSeq_eq, dSet_eq, dLst_eq, dCons_eq, dNil_eq, dC_eq, List.set_cons_succ, List.set_cons_zero]
  refine ⟨by show 7 ≤ sizeLine; decide, ?_⟩
  rw [dBin_eq]
  simp only [dVar_eq, dLst_eq, dCons_eq, dNil_eq, dC_eq]
  refine ⟨_, rfl, by show 5 ≤ sizeLine; decide, add_l (by show 7 + 5 ≤ sizeLine; decide) ?_⟩
  simp only [dBin_eq, dVar_eq, dLst_eq, dCons_eq, dNil_eq, dC_eq]
  refine ⟨_, rfl, .inl ⟨_, 12, rfl, rfl, by decide, by decide +kernel, by decide +kernel, addD_str.2 ⟨by decide +kernel, addD_str.2 ⟨by decide +kernel, by show 3 ≤ sizeLine; decide, add_l (by show 7 + 5 + 3 ≤ sizeLine; decide) ?_⟩⟩⟩⟩
  simp only [dRet_eq]
  unfold dLc
  simp only [iRngD1, dCons_eq, dNil_eq, dBin_eq, dC_eq, dCall_eq, dVar_eq]
  refine ⟨_, rfl, rfl, p, 4, c, rfl, hs, by omega, by decide, by decide, fun d hd o1 ho1 => add_i ⟨_, rfl, by omega, by omega, fun l hl => ?_⟩⟩
  have lp : l ≠ p := fun z => by rw [z, wupd_same] at hl; cases hl
  have hn : (1 + (d : Int)).toNat = 1 + d := by omega
  rw [hn]
  have hlen : (rngD 0 (1 + d)).length = 1 + d := by simp [rngD]
  refine ⟨fun i w' => ∃ o ts, SrcO o (c + 1 + i) ∧ ts.length = i ∧ i ≤ 1 + d ∧ (∀ t ∈ ts, t ∈ imgT) ∧ w' = wupd (wupd w p o) l (.lst (ts.map .str)), ⟨o1, [], ho1, rfl, by omega, (fun t ht => nomatch ht), rfl⟩, ?_, ?_⟩
  · rintro i d' w' hd' ⟨o, ts, ho, rfl, hi, hts, rfl⟩
    obtain ⟨hi2, _⟩ := List.getElem?_eq_some_iff.1 hd'
    rw [hlen] at hi2
    simp only [gdName_eq, dYes_eq, dCall_eq, dCons_eq, dNil_eq, dVar_eq]
    rw [if_pos trivial]
    have hsrc : Src (wupd (wupd w p o) l (.lst (ts.map .str))) p (c + 1 + ts.length) := ⟨o, by rw [wupd_ne (Ne.symm lp)]; exact wupd_same, ho⟩
    refine ⟨_, rfl, _, rfl, rfl, p, c + 1 + ts.length, hsrc, by omega, .inl ⟨imgT.map .str, rfl, by decide +kernel, by decide +kernel, fun d2 hd2 o2 ho2 => ?_⟩⟩
    obtain ⟨t, ht, rfl⟩ := List.mem_map.1 hd2
    refine ⟨ts.map .str, ?_, ?_, o2, ts ++ [t], ho2.le (by omega), by simp, by omega, fun t' ht' => ?_, ?_⟩
    · rw [wupd_ne lp]; exact wupd_same
    · rw [List.length_map]; omega
    · rcases List.mem_append.1 ht' with z | z
      · exact hts t' z
      · rw [List.mem_singleton.1 z]; exact ht
    · rw [wupd_comm lp, wupd_upd, wupd_upd, List.map_append]; rfl
  · rintro w' ⟨o, ts, ho, ht, hi, hts, rfl⟩
    rw [hlen] at ht
    refine ⟨_, _, Frz.lst wupd_same, ?_⟩
    rw [wdel_upd (by rw [wupd_ne lp]; rw [wupd_ne lp] at hl; exact hl)]
    exact frz_of (q ts (by omega) (by omega) hts o (ho.le (by rw [hlen]; omega)))
/-! pages -/
def okImg (t : Str) : Bool := (match imgR (Txt.split t " ") with | .ok _ => true | .error _ => false) && decide (10 ∉ tl t) && decide (t.length ≤ 100) && (tl t).all (fun c => decide (c < 0x110000))
theorem img_all : imgT.all okImg = true := by decide +kernel
theorem joinL_mem2 (S : List Nat) : ∀ (ps : List (List Nat)) (c : Nat), c ∈ joinL S ps → c ∈ S ∨ ∃ p ∈ ps, c ∈ p
  | [], c, h => by cases h
  | [q], c, h => .inr ⟨q, by simp, h⟩
  | q :: r :: t, c, h => by
    have e : joinL S (q :: r :: t) = q ++ (S ++ joinL S (r :: t)) := by simp [joinL]
    rw [e] at h
    rcases List.mem_append.1 h with h | h
    · exact .inr ⟨q, by simp, h⟩
    rcases List.mem_append.1 h with h | h
    · exact .inl h
    · rcases joinL_mem2 S (r :: t) c h with h | ⟨p, hp, hc⟩
      · exact .inl h
      · exact .inr ⟨p, by simp at hp ⊢; exact .inr hp, hc⟩
theorem fileR_all : ∀ (rows : List (List Str)) (i : Nat), (∀ r ∈ rows, ∃ d, imgR r = .ok d) → ∃ es, fileR rows i = .ok es
  | [], _, _ => ⟨[], rfl⟩
  | r :: rest, i, h => by
    obtain ⟨d, hd⟩ := h r (by simp)
    obtain ⟨es, he⟩ := fileR_all rest (i + 1) (fun r hr => h r (by simp [hr]))
    exact ⟨d :: es, by rw [fileR_cons, hd]; show Except.map _ _ = _; rw [he]; rfl⟩
structure Page (x : Str) : Prop where
  len : x.length ≤ 1000
  pos : 1 ≤ x.length
  ok : OkS x
  right : ∃ es, fileR (rowsOf x) 0 = .ok es
theorem sum_le {ls : List Nat} {m : Nat} (h : ∀ n ∈ ls, n ≤ m) : ls.sum ≤ ls.length * m := by
  induction ls with
  | nil => simp
  | cons a r ih =>
    have h1 := h a (by simp)
    have h2 := ih (fun n hn => h n (by simp [hn]))
    rw [List.sum_cons, List.length_cons, Nat.succ_mul]
    omega
theorem page_of {ts : List Str} (h1 : 1 ≤ ts.length) (h2 : ts.length ≤ 4) (h : ∀ t ∈ ts, t ∈ imgT) : Page (Txt.join "\n" ts) ∧ (ts.map (·.length)).sum + ts.length ≤ 404 := by
  have e10 : tl (Str.ofString "\n") = [10] := by decide +kernel
  have ok : ∀ t ∈ ts, (∃ d, imgR (Txt.split t " ") = .ok d) ∧ 10 ∉ tl t ∧ t.length ≤ 100 ∧ OkS t := fun t ht => by
    have := List.all_eq_true.1 img_all t (h t ht)
    unfold okImg at this
    simp only [Bool.and_eq_true, decide_eq_true_eq] at this
    obtain ⟨⟨⟨g1, g2⟩, g3⟩, g4⟩ := this
    refine ⟨?_, g2, g3, fun c hc => by simpa using List.all_eq_true.1 g4 c hc⟩
    cases hi : imgR (Txt.split t " ") with
    | ok d => exact ⟨d, rfl⟩
    | error j => rw [hi] at g1; cases g1
  have hne : ts ≠ [] := fun z => by rw [z] at h1; simp at h1
  have hsum : (ts.map (·.length)).sum ≤ ts.length * 100 := by
    have := sum_le (ls := ts.map (·.length)) (m := 100) (fun n hn => by
      obtain ⟨t, ht, rfl⟩ := List.mem_map.1 hn
      exact (ok t ht).2.2.1)
    simpa using this
  have htl : tl (Txt.join "\n" ts) = joinL [10] (ts.map tl) := by rw [join_eq, tl_join, e10]
  have hl := joinL_sum [10] rfl (ts.map tl) (by simpa using hne)
  rw [← htl, List.map_map, List.length_map, ← len_tl] at hl
  have h3 : (List.length ∘ tl) = fun x : Str => x.length := by funext x; exact (len_tl x).symm
  rw [h3] at hl
  have hpos : 1 ≤ (ts.map (·.length)).sum := by
    cases ts with
    | nil => exact absurd rfl hne
    | cons t r =>
      have : t.length ≠ 0 := fun z => by
        have hm := h t (by simp)
        have : (imgT.all fun t => decide (t.length ≠ 0)) = true := by decide +kernel
        have := List.all_eq_true.1 this t hm
        simp [z] at this
      simp
      omega
  refine ⟨⟨by omega, by omega, fun c hc => ?_, ?_⟩, by omega⟩
  · rw [htl] at hc
    rcases joinL_mem2 _ _ _ hc with z | ⟨p, hp, hcp⟩
    · rw [List.mem_singleton.1 z]; decide
    · obtain ⟨t, ht, rfl⟩ := List.mem_map.1 hp
      exact (ok t ht).2.2.2 c hcp
  · have hs : Txt.split (Txt.join "\n" ts) "\n" = ts := split_join e10 (by decide +kernel) hne fun t ht => (ok t ht).2.1
    unfold rowsOf
    rw [hs]
    refine fileR_all _ _ fun r hr => ?_
    obtain ⟨t, ht, rfl⟩ := List.mem_map.1 hr
    exact (ok t ht).1
end K97
set_option Elab.async false
set_option linter.all false
set_option maxRecDepth 100000
set_option maxHeartbeats 1000000
/-! K97P26: what is made of a page: texts of bounded size. -/
namespace K97
open PySem PySem.Spec PyProof.Rows L2 DL TL NumText
def Gs (n : Nat) (x : Str) : Prop := x.length ≤ n ∧ OkS x
def Gl (n : Nat) (ls : List Str) : Prop := (ls.map (·.length)).sum + ls.length ≤ n ∧ ∀ x ∈ ls, OkS x
def strL (ls : List Str) : D := .lst (ls.map .str)
theorem Gs.le {n m : Nat} {x : Str} (g : Gs n x) (h : n ≤ m) : Gs m x := ⟨Nat.le_trans g.1 h, g.2⟩
theorem Gl.le {n m : Nat} {x : List Str} (g : Gl n x) (h : n ≤ m) : Gl m x := ⟨Nat.le_trans g.1 h, g.2⟩
theorem OkS.app {x y : Str} (h : OkS x) (g : OkS y) : OkS (x ++ y) := fun c hc => by
  rw [tl_append] at hc
  rcases List.mem_append.1 hc with z | z
  · exact h c z
  · exact g c z
theorem Gs.app {n m : Nat} {x y : Str} (h : Gs n x) (g : Gs m y) : Gs (n + m) (x ++ y) := ⟨by rw [Str.length_append]; have := h.1; have := g.1; omega, h.2.app g.2⟩
theorem Gl.app {n m : Nat} {x y : List Str} (h : Gl n x) (g : Gl m y) : Gl (n + m) (x ++ y) := ⟨by
  have := h.1; have := g.1
  rw [List.map_append, List.sum_append, List.length_append]; omega, fun z hz => by
  rcases List.mem_append.1 hz with q | q
  · exact h.2 z q
  · exact g.2 z q⟩
theorem sum_sub {l m : List Nat} (h : l.Sublist m) : l.sum ≤ m.sum := by
  induction h with
  | slnil => exact Nat.le_refl _
  | cons a _ ih => rw [List.sum_cons]; omega
  | cons_cons a _ ih => rw [List.sum_cons, List.sum_cons]; omega
theorem Gl.sub {n : Nat} {x y : List Str} (h : Gl n x) (s : y.Sublist x) : Gl n y := ⟨by
  have := h.1
  have h1 := sum_sub (s.map (·.length))
  have h2 := s.length_le
  omega, fun z hz => h.2 z (s.mem hz)⟩
theorem Gl.mem {n : Nat} {x : List Str} (h : Gl n x) {y : Str} (hy : y ∈ x) : Gs n y := by
  refine ⟨?_, h.2 y hy⟩
  have h1 := h.1
  have : ∀ l : List Nat, ∀ a ∈ l, a ≤ l.sum := by
    intro l
    induction l with
    | nil => intro a ha; cases ha
    | cons b r ih =>
      intro a ha
      rw [List.sum_cons]
      rcases List.mem_cons.1 ha with z | z
      · omega
      · have := ih a z; omega
  have := this _ _ (List.mem_map_of_mem (f := (·.length)) hy)
  omega
theorem Gl.one {n : Nat} {x : Str} (h : Gs n x) : Gl (n + 1) [x] := ⟨by have := h.1; simp; omega, fun z hz => by rw [List.mem_singleton.1 hz]; exact h.2⟩
theorem joinL_le (S : List Nat) : ∀ ps : List (List Nat), (joinL S ps).length ≤ (ps.map List.length).sum + ps.length * S.length
  | [] => Nat.zero_le _
  | [q] => by simp [joinL]
  | q :: r :: t => by
    have e : joinL S (q :: r :: t) = q ++ (S ++ joinL S (r :: t)) := by simp [joinL]
    have := joinL_le S (r :: t)
    rw [e]
    simp only [List.length_append, List.map_cons, List.sum_cons, List.length_cons] at this ⊢
    rw [Nat.succ_mul (t.length + 1)]
    omega
theorem Gl.join {n c : Nat} {x : List Str} {y : Str} (h : Gl n x) (ey : tl y = [c]) (hc : c < 0x110000) : Gs n (Txt.join y x) := by
  have e : tl (Txt.join y x) = joinL [c] (x.map tl) := by rw [join_eq, tl_join, ey]
  have h3 : (List.length ∘ tl) = fun x : Str => x.length := by funext x; exact (len_tl x).symm
  refine ⟨?_, fun d hd => ?_⟩
  · rw [len_tl, e]
    have := joinL_le [c] (x.map tl)
    rw [List.map_map, h3, List.length_map] at this
    have := h.1
    simp at *
    omega
  · rw [e] at hd
    rcases joinL_mem2 _ _ _ hd with z | ⟨p, hp, hcp⟩
    · rw [List.mem_singleton.1 z]; exact hc
    · obtain ⟨t, ht, rfl⟩ := List.mem_map.1 hp
      exact h.2 t ht d hcp
theorem Gl.split {n c : Nat} {x y : Str} (h : Gs n x) (ey : tl y = [c]) (hk : y.cps.all (· < 256) = true) : Gl (n + 1) (Txt.split x y) := ⟨by
  rw [split_sum x y c ey hk]; have := h.1; omega, fun z hz => split_okS h.2 hz⟩
theorem Gs.cut {n : Nat} {x : Str} (h : Gs n x) (lo hi : Option Int) : Gs n (cutS x lo hi) := by
  refine ⟨?_, fun c hc => ?_⟩
  · unfold cutS
    have := h.1
    rw [len_tl] at this ⊢
    show (List.toArray _).toList.length ≤ n
    simp only [List.length_take, List.length_drop]
    have : x.cps.toList.length = (tl x).length := rfl
    omega
  · have : c ∈ tl x := List.mem_of_mem_drop (List.mem_of_mem_take hc)
    exact h.2 c this
section
variable {w : Wd} {Q : VKD} {n m : Nat}
theorem sl_gs {x : Str} {lo hi : Option Int} (g : Gs n x) (h : n ≤ 100000) (q : ∀ y, Gs n y → Q (.str y) w) : slD (.str x) lo hi w Q :=
  slD_str.2 ⟨Nat.le_trans g.1 (Nat.le_trans h (by decide)), q _ (g.cut lo hi)⟩
theorem sl_gl {ls : List Str} {lo hi : Option Int} (g : Gl n ls) (q : ∀ y, Gl n y → Q (strL y) w) : slD (strL ls) lo hi w Q := by
  refine slD_lst.2 ?_
  have e : DL.cutD (ls.map .str) lo hi = ((ls.drop (HT.sIx ls.length 0 lo)).take (HT.sIx ls.length ls.length hi - HT.sIx ls.length 0 lo)).map D.str := by
    unfold DL.cutD
    rw [List.length_map, List.map_take, List.map_drop]
  rw [e]
  exact q _ (g.sub ((List.take_sublist _ _).trans (List.drop_sublist _ _)))
theorem add_gs {x y : Str} (g : Gs n x) (k : Gs m y) (h : n + m ≤ 100000) (q : ∀ y, Gs (n + m) y → Q (.str y) w) : addD (.str x) (.str y) w Q :=
  addD_str.2 ⟨by have := g.1; have := k.1; have : sizeLine = 16777216 := rfl; omega, q _ (g.app k)⟩
theorem add_gl {x y : List Str} (g : Gl n x) (k : Gl m y) (h : n + m ≤ 100000) (q : ∀ y, Gl (n + m) y → Q (strL y) w) : addD (strL x) (strL y) w Q :=
  add_l (by have := g.1; have := k.1; have : sizeLine = 16777216 := rfl; simp; omega) (by rw [← List.map_append]; exact q _ (g.app k))
theorem ix_gl {x : List Str} {i : Nat} (g : Gl n x) (hi : i < x.length) (q : ∀ y, Gs n y → Q (.str y) w) : ixD (strL x) (.int i) w Q :=
  ixD_lst.2 ⟨.str x[i], atI_nat (by rw [List.getElem?_map, List.getElem?_eq_getElem hi]; rfl), q _ (g.mem (List.getElem_mem hi))⟩
theorem split_gs {x y : Str} {c : Nat} (g : Gs n x) (ey : tl y = [c]) (hk : y.cps.all (· < 256) = true) (h : n ≤ 100000) (q : ∀ ls, Gl (n + 1) ls → 1 ≤ ls.length → Q (strL ls) w) : splitD (.str x) [.str y] w Q := by
  refine ⟨_, _, rfl, rfl, ?_, by have := g.1; have : sizeLine = 16777216 := rfl; omega, q _ (Gl.split g ey hk) (split_pos x y (by rw [ey]; simp) hk)⟩
  rw [len_tl, ey]; rfl
theorem join_gl {ls : List Str} {y : Str} {c : Nat} (g : Gl n ls) (ey : tl y = [c]) (hc : c < 0x110000) (h : n ≤ 100000) (q : ∀ y, Gs n y → Q (.str y) w) : joinD (.str y) [strL ls] w Q := by
  refine ⟨y, strL ls, ls, rfl, rfl, rfl, ?_, q _ (g.join ey hc)⟩
  have := g.1
  rw [len_tl y, ey]
  simp
  omega
theorem len_gl {x : List Str} (q : Q (.int x.length) w) : lenD [strL x] w Q := lenD_lst.2 (by simpa using q)
theorem rev_gl {ls : List Str} (g : Gl n ls) : ∃ y, D.lst (ls.map D.str).reverse = strL y ∧ Gl n y := by
  refine ⟨ls.reverse, by rw [← List.map_reverse]; rfl, ?_, fun x hx => g.2 x (by simpa using hx)⟩
  have := g.1
  rw [List.map_reverse, List.sum_reverse, List.length_reverse]
  exact this
theorem one_gl {x : Str} (g : Gs n x) (q : ∀ y, Gl (n + 1) y → Q (strL y) w) : Q (.lst [.str x]) w := q [x] (Gl.one g)
end
theorem okS_dec {x : Str} (h : (tl x).all (fun c => decide (c < 0x110000)) = true) : OkS x := fun c hc => by simpa using List.all_eq_true.1 h c hc
theorem repS_ok {x : Str} {n : Nat} (h : OkS x) : OkS (repS x n) := fun c hc => by
  have e : tl (repS x n) = (List.replicate n x.cps.toList).flatten := repS_tl x n
  rw [e] at hc
  obtain ⟨l, hl, hcl⟩ := List.mem_flatten.1 hc
  rw [(List.mem_replicate.1 hl).2] at hcl
  exact h c hcl
/-! the world meanwhile -/
structure Wb (w : Wd) (p : Addr) (c : Nat) (w' : Wd) : Prop where
  src : Src w' p c
  old : ∀ b o, w b = some o → b ≠ p → w' b = some o
theorem Wb.start {w : Wd} {p : Addr} {c : Nat} (h : Src w p c) : Wb w p c w := ⟨h, fun _ _ h _ => h⟩
theorem Wb.draw {w w' : Wd} {p : Addr} {c d : Nat} {o : DO} (h : Wb w p c w') (ho : SrcO o d) : Wb w p d (wupd w' p o) := ⟨Src.upd ho, fun b u hb n => by rw [wupd_ne n]; exact h.old b u hb n⟩
theorem Wb.ne {w w' : Wd} {p l : Addr} {c : Nat} (h : Wb w p c w') (hl : w' l = none) : l ≠ p ∧ w l = none := by
  obtain ⟨o, h1, _⟩ := h.src
  have n : l ≠ p := fun z => by rw [z, h1] at hl; cases hl
  refine ⟨n, ?_⟩
  cases e : w l with
  | none => rfl
  | some u => rw [h.old l u e n] at hl; cases hl
theorem Wb.put {w w' : Wd} {p l : Addr} {c : Nat} {o : DO} (h : Wb w p c w') (n : l ≠ p) (hl : w l = none) : Wb w p c (wupd w' l o) := by
  obtain ⟨u, h1, h2⟩ := h.src
  refine ⟨⟨u, by rw [wupd_ne (Ne.symm n)]; exact h1, h2⟩, fun b v hb nb => ?_⟩
  rw [wupd_ne (fun z => by rw [z, hl] at hb; cases hb)]
  exact h.old b v hb nb
theorem Wb.del {w w' : Wd} {p l : Addr} {c : Nat} (h : Wb w p c w') (n : l ≠ p) (hl : w l = none) : Wb w p c (wdel w' l) := by
  obtain ⟨u, h1, h2⟩ := h.src
  refine ⟨⟨u, by rw [wdel_ne (Ne.symm n)]; exact h1, h2⟩, fun b v hb nb => ?_⟩
  rw [wdel_ne (fun z => by rw [z, hl] at hb; cases hb)]
  exact h.old b v hb nb
theorem Wb.done {w w' : Wd} {p : Addr} {c : Nat} (h : Wb w p c w') : ∃ o, SrcO o c ∧ WLe (wupd w p o) w' := by
  obtain ⟨o, h1, h2⟩ := h.src
  refine ⟨o, h2, fun b u hb => ?_⟩
  by_cases e : b = p
  · subst e; rw [wupd_same] at hb; cases hb; exact h1
  · rw [wupd_ne e] at hb; exact h.old b u hb e
/-- the list at l: texts of bounded size -/
def Ty (n : Nat) (d : D) : Prop := ∃ y, d = .str y ∧ Gs n y
def Lt (w' : Wd) (l : Addr) (B k : Nat) : Prop := ∃ xs : List D, w' l = some (.lst xs) ∧ xs.length ≤ k ∧ ∀ d ∈ xs, Ty B d
theorem Ty.le {n m : Nat} {d : D} (h : Ty n d) (k : n ≤ m) : Ty m d := by
  obtain ⟨y, e, g⟩ := h
  exact ⟨y, e, g.le k⟩
end K97
set_option Elab.async false
set_option linter.all false
set_option maxRecDepth 100000
set_option maxHeartbeats 2000000
/-! K97P27: _law_bent. -/
namespace K97
open PySem PySem.Spec PyProof.Rows L2 DL TL NumText
def Th (page : Str) (d : D) : Prop := Ty 20000 d ∨ d = .non ∨ d = .int 7 ∨ d = .bl true ∨ d = .lst [.str page]
def spBent : SpD := fun ds w _ Q => ∃ (p : Addr) (c : Nat) (page : Str), ds = [.ref p, .str page] ∧ Src w p c ∧ c + 7 ≤ 2 ^ 20 ∧ Gs 1000 page ∧ ∀ d, Th page d → ∀ o, SrcO o (c + 7) → Q d (wupd w p o)
def oddT : List Str := ["", "00", "01", "-0", "-1", "-", repS "9" 15, repS "9" 16, repS "7" 5000, "=~", "=~~", "free", "@1:2", "@1", "leaf"]
theorem odd_ok : ∀ t ∈ oddT, Gs 5000 t := by
  intro t ht
  unfold oddT at ht
  have small : ∀ x : Str, ((tl x).all (fun c => decide (c < 0x110000)) && decide (x.length ≤ 5000)) = true → Gs 5000 x := fun x h => by
    rw [Bool.and_eq_true] at h
    exact ⟨by simpa using h.2, okS_dec h.1⟩
  have rep : ∀ (x : Str) (n : Nat), ((tl x).all (fun c => decide (c < 0x110000)) && decide (n * x.length ≤ 5000)) = true → Gs 5000 (repS x n) := fun x n h => by
    rw [Bool.and_eq_true] at h
    exact ⟨by rw [repS_length]; simpa using h.2, repS_ok (okS_dec h.1)⟩
  simp only [List.mem_cons, List.mem_nil_iff, or_false] at ht
  rcases ht with rfl | rfl | rfl | rfl | rfl | rfl | rfl | rfl | rfl | rfl | rfl | rfl | rfl | rfl | rfl
  · exact small _ (by decide +kernel)
  · exact small _ (by decide +kernel)
  · exact small _ (by decide +kernel)
  · exact small _ (by decide +kernel)
  · exact small _ (by decide +kernel)
  · exact small _ (by decide +kernel)
  · exact rep _ _ (by decide +kernel)
  · exact rep _ _ (by decide +kernel)
  · exact rep _ _ (by decide +kernel)
  · exact small _ (by decide +kernel)
  · exact small _ (by decide +kernel)
  · exact small _ (by decide +kernel)
  · exact small _ (by decide +kernel)
  · exact small _ (by decide +kernel)
  · exact small _ (by decide +kernel)
theorem mul_s {x : Str} {n : Nat} {w : Wd} {Q : VKD} (h1 : 2 ≤ n) (h2 : 1 ≤ x.length) (h3 : x.length * n ≤ sizeLine) (q : Q (.str (repS x n)) w) : mulA (.str x) (.int n) w Q := .inl ⟨x, n, rfl, rfl, h1, h2, h3, q⟩
/-- a draw, as an expression -/
theorem draw_e {w w' : Wd} {p : Addr} {c m : Nat} {te : TED} {E : XD} {r : Rho} {Q : VKD} (h : Wb w p c w') (hc : c ≤ 2 ^ 20) (hm : 0 < m) (hm2 : m < 2 ^ 20) (ht : ∀ R : VKD, R (.int m) w' → te E (some (.ref p) :: r) w' R)
    (q : ∀ d : Nat, d < m → ∀ o, SrcO o (c + 1) → Q (.int d) (wupd w' p o)) : dCall 2 spDraw [] (dCons (dVar 0) (dCons te dNil)) E (some (.ref p) :: r) w' Q := by
  simp only [dCall_eq, dCons_eq, dNil_eq, dVar_eq]
  exact ⟨_, rfl, ht _ ⟨rfl, p, m, c, rfl, h.src, hc, hm, hm2, q⟩⟩
theorem pickS_e {w w' : Wd} {p : Addr} {c : Nat} {x : Str} {te : TED} {E : XD} {r : Rho} {Q : VKD} (h : Wb w p c w') (hc : c ≤ 2 ^ 20) (hx : 0 < x.length) (hx2 : x.length < 2 ^ 20) (ho : OkS x) (ht : ∀ R : VKD, R (.str x) w' → te E (some (.ref p) :: r) w' R)
    (q : ∀ y, Gs 1 y → ∀ o, SrcO o (c + 1) → Q (.str y) (wupd w' p o)) : dCall 2 spPick [] (dCons (dVar 0) (dCons te dNil)) E (some (.ref p) :: r) w' Q := by
  simp only [dCall_eq, dCons_eq, dNil_eq, dVar_eq]
  refine ⟨_, rfl, ht _ ⟨rfl, p, c, h.src, hc, .inr ⟨x, rfl, hx, hx2, fun s hs o h => q ⟨#[s]⟩ ⟨Nat.le_refl 1, fun d hd => ?_⟩ o h⟩⟩⟩
  simp [tl] at hd
  rw [hd]; exact ho s hs
theorem pickL_e {w w' : Wd} {p : Addr} {c : Nat} {xs : List D} {te : TED} {E : XD} {r : Rho} {Q : VKD} (h : Wb w p c w') (hc : c ≤ 2 ^ 20) (hx : 0 < xs.length) (hx2 : xs.length < 2 ^ 20) (ht : ∀ R : VKD, R (.lst xs) w' → te E (some (.ref p) :: r) w' R)
    (q : ∀ d ∈ xs, ∀ o, SrcO o (c + 1) → Q d (wupd w' p o)) : dCall 2 spPick [] (dCons (dVar 0) (dCons te dNil)) E (some (.ref p) :: r) w' Q := by
  simp only [dCall_eq, dCons_eq, dNil_eq, dVar_eq]
  exact ⟨_, rfl, ht _ ⟨rfl, p, c, h.src, hc, .inl ⟨xs, rfl, hx, hx2, q⟩⟩⟩
/-- an append to the list at l -/
theorem app_ty {w' : Wd} {l : Addr} {B k : Nat} {te : TED} {E : XD} {De : EndsD} {r : Rho} {i : Nat} (hi : r[i]? = some (some (.ref l))) (hl : Lt w' l B k) (hk : k < 1000) (ht : ∀ R : VKD, (∀ d, Ty B d → R d w') → te E r w' R)
    (q : ∀ w2, (∃ xs, w2 = wupd w' l (.lst xs)) → Lt w2 l B (k + 1) → De.nx r w2) : dDrop (dApp (dVar i) te) E De r w' := by
  obtain ⟨xs, h1, h2, h3⟩ := hl
  rw [dDrop_eq]
  unfold dApp
  rw [dVar_eq]
  refine ⟨_, hi, l, xs, rfl, h1, ht _ fun d hd => ⟨xs, h1, ?_, q _ ⟨_, rfl⟩ ⟨_, wupd_same, by simp; omega, fun d' hd' => ?_⟩⟩⟩
  · have : sizeLine = 16777216 := rfl
    omega
  · rcases List.mem_append.1 hd' with z | z
    · exact h3 d' z
    · rw [List.mem_singleton.1 z]; exact hd
def Lm (w' : Wd) (l : Addr) (k : Nat) : Prop := ∃ xs : List (List Str), w' l = some (.lst (xs.map strL)) ∧ xs.length ≤ k ∧ ∀ d ∈ xs, Gl 10000 d
theorem bent_loop {w w2 : Wd} {p l1 l2 : Addr} {c : Nat} {r1 r2 r5 r6 r7 r8 r9 r11 : Option D} {lines : List Str} {E : XD} {De : EndsD} (row : Nat) (hb : Wb w p c w2) (hl1 : w l1 = none) (n1 : l1 ≠ p) (h1 : Lt w2 l1 20000 20) (hl2 : w l2 = none) (n2 : l2 ≠ p) (h2 : Lm w2 l2 10) (n12 : l1 ≠ l2) (gl : Gl 1001 lines)
    (q : ∀ w3 o, Wb w p c w3 → Lt w3 l1 20000 40 → De.nx [some (.ref p), r1, r2, some (strL lines), some (.int row), r5, r6, r7, r8, r9, some (.ref l1), r11, some (.ref l2), o] w3) :
    dFor (iSeqW (dVar 12)) (gdName 13) (dDrop (dApp (dVar 10) (dM1 joinD (dC (.str "\n")) (dBin addD (dBin addD (dSl (dVar 3) dNoPart (dPart (dVar 4))) (dLst (dCons (dM1 joinD (dC (.str " ")) (dVar 13)) (dNil)))) (dSl (dVar 3) (dPart (dBin addD (dVar 4) (dC (.int 1)))) dNoPart))))) E De [some (.ref p), r1, r2, some (strL lines), some (.int row), r5, r6, r7, r8, r9, some (.ref l1), r11, some (.ref l2), none] w2 := by
  have en : tl (Str.ofString "\n") = [10] := by decide +kernel
  have es : tl (Str.ofString " ") = [32] := by decide +kernel
  obtain ⟨mores, hm, hml, hmg⟩ := h2
  unfold dFor iSeqW
  rw [dVar_eq]
  refine ⟨_, rfl, l2, _, rfl, hm, ?_⟩
  refine ⟨fun i ρ w' => i ≤ mores.length ∧ Wb w p c w' ∧ Lt w' l1 20000 (20 + i) ∧ ∃ o, ρ = [some (.ref p), r1, r2, some (strL lines), some (.int row), r5, r6, r7, r8, r9, some (.ref l1), r11, some (.ref l2), o], ⟨Nat.zero_le _, hb.del n2 hl2, ?_, _, rfl⟩, ?_, ?_⟩
  · obtain ⟨xs, g1, g2, g3⟩ := h1
    exact ⟨xs, by rw [wdel_ne n12]; exact g1, g2, g3⟩
  · rintro i d ρ w' hd ⟨hi, hw, ht, o, rfl⟩
    rw [List.getElem?_map] at hd
    obtain ⟨ls, hls, rfl⟩ := Option.map_eq_some_iff.1 hd
    have hi2 := (List.getElem?_eq_some_iff.1 hls).1
    have hlg := hmg ls (List.mem_of_getElem? hls)
    simp only [gdName_eq, List.set_cons_succ, List.set_cons_zero]
    refine app_ty rfl ht (by omega) (fun R hR => ?_) fun w3 ⟨xs, e⟩ h3 => ?_
    · simp only [dM1_eq, dC_eq, dBin_eq, dSl_eq, dVar_eq, dNoPart_eq, dPart_eq, dLst_eq, dCons_eq, dNil_eq]
      refine ⟨_, rfl, _, rfl, _, rfl, _, rfl, sl_gl gl fun a ga => ⟨_, rfl, _, rfl, join_gl hlg es (by decide) (by decide) fun b gb => ⟨by show 1 ≤ sizeLine; decide, ?_⟩⟩⟩
      refine add_gl (y := [b]) ga (Gl.one gb) (by decide) fun c gc => ?_
      refine ⟨_, rfl, _, rfl, add_i ⟨_, rfl, sl_gl gl fun d gd => add_gl gc gd (by decide) fun e ge => join_gl ge en (by decide) (by decide) fun y gy => hR _ ⟨y, rfl, gy.le (by decide)⟩⟩⟩
    · subst e
      exact ⟨hi2, hw.put n1 hl1, by simpa [Nat.add_assoc] using h3, _, rfl⟩
  · rintro ρ w' ⟨hi, hw, ht, o, rfl⟩
    refine q w' o hw ?_
    obtain ⟨xs, g1, g2, g3⟩ := ht
    exact ⟨xs, g1, by simp at g2; omega, g3⟩
end K97
set_option Elab.async false
set_option linter.all false
set_option maxRecDepth 100000
set_option maxHeartbeats 4000000
/-! K97P28: _law_bent. -/
namespace K97
open PySem PySem.Spec PyProof.Rows L2 DL TL NumText
theorem pure_law_bent {a : Ad} (ds : List D) (w : Wd) (E : XDp) (Q : VKD) (h : spBent ds w E Q) : t__law_bent a spDraw spPick (fun x _ w' => E x w') { nx := fun _ w' => Q .non w', rt := Q } (startD ["source", "page", "signs", "lines", "row", "parts", "at", "spot", "sign", "odd", "some", "two", "more", "later"] ds) w := by
  obtain ⟨p, c, page, rfl, hs, hc, gp, q⟩ := h
  have sz : sizeLine = 16777216 := rfl
  have en : tl (Str.ofString "\n") = [10] := by decide +kernel
  have es : tl (Str.ofString " ") = [32] := by decide +kernel
  unfold t__law_bent
  rw [show startD ["source", "page", "signs", "lines", "row", "parts", "at", "spot", "sign", "odd", "some", "two", "more", "later"] [D.ref p, .str page] = [some (.ref p), some (.str page), none, none, none, none, none, none, none, none, none, none, none, none] from rfl]
  have w0 := Wb.start hs
  -- signs
  rw [dSeq_eq]
  simp only [dSet_eq, dC_eq, List.set_cons_succ, List.set_cons_zero]
  -- lines
  rw [dSeq_eq]
  simp only [dSet_eq, dM1_eq, dVar_eq, dC_eq, List.set_cons_succ, List.set_cons_zero]
  refine ⟨_, rfl, _, rfl, split_gs gp en (by decide +kernel) (by decide) fun lines gl ll => ?_⟩
  have hll : lines.length < 2 ^ 20 := by have := gl.1; omega
  -- row
  try dsimp only
  rw [dSeq_eq, dSet_eq]
  refine draw_e w0 (by omega) (by omega) hll (fun R h => ?_) fun row hrow o1 ho1 => ?_
  · simp only [dCB_eq, dCons_eq, dNil_eq, dVar_eq]
    exact ⟨_, rfl, len_gl h⟩
  have w1 := w0.draw ho1
  generalize wupd w p o1 = v1 at w1 ⊢
  simp only [List.set_cons_succ, List.set_cons_zero]
  -- parts
  rw [dSeq_eq]
  simp only [dSet_eq, dM1_eq, dBin_eq, dVar_eq, dC_eq, List.set_cons_succ, List.set_cons_zero]
  refine ⟨_, rfl, _, rfl, ix_gl gl hrow fun line gline => ⟨_, rfl, split_gs gline es (by decide +kernel) (by decide) fun parts gpa lpa => ?_⟩⟩
  have hlp : parts.length < 2 ^ 20 := by have := gpa.1; omega
  -- at, spot
  try dsimp only
  rw [dSeq_eq, dPar_eq]
  simp only [dCons_eq, dNil_eq]
  refine draw_e w1 (by omega) (by omega) hlp (fun R h => ?_) fun at_ hat o2 ho2 => ?_
  · simp only [dCB_eq, dCons_eq, dNil_eq, dVar_eq]
    exact ⟨_, rfl, len_gl h⟩
  have w2 := w1.draw ho2
  generalize wupd v1 p o2 = v2 at w2 ⊢
  refine draw_e (m := page.length + 1) w2 (by omega) (by omega) (by have := gp.1; omega) (fun R h => ?_) fun spot hspot o3 ho3 => ?_
  · simp only [dBin_eq, dCB_eq, dCons_eq, dNil_eq, dVar_eq, dC_eq]
    exact ⟨_, rfl, lenD_str.2 ⟨by have := gp.1; omega, add_i (by simpa using h)⟩⟩
  have w3 := w2.draw ho3
  generalize wupd v2 p o3 = v3 at w3 ⊢
  refine ⟨_, _, rfl, ?_⟩
  simp only [List.set_cons_succ, List.set_cons_zero]
  -- sign
  rw [dSeq_eq, dSet_eq]
  refine pickS_e (x := " -+~=@:019a\n") w3 (by omega) (by decide +kernel) (by decide +kernel) (okS_dec (by decide +kernel)) (fun R h => ?_) fun sign gsign o4 ho4 => ?_
  · rw [dVar_eq]
    exact ⟨_, rfl, h⟩
  have w4 := w3.draw ho4
  generalize wupd v3 p o4 = v4 at w4 ⊢
  simp only [List.set_cons_succ, List.set_cons_zero]
  -- odd
  rw [dSeq_eq]
  simp only [dSet_eq, dLst_eq, dCons_eq, dNil_eq, dC_eq, dBin_eq]
  refine mul_s (n := 15) (by decide) (by decide +kernel) (by decide +kernel) (mul_s (n := 16) (by decide) (by decide +kernel) (by decide +kernel) (mul_s (n := 5000) (by decide) (by decide +kernel) (by decide +kernel) ⟨by show 15 ≤ sizeLine; decide, ?_⟩))
  simp only [List.set_cons_succ, List.set_cons_zero]
  -- some
  rw [dSeq_eq]
  simp only [dSet_eq, dLstW_eq, dCons_eq, dNil_eq, dBin_eq, dSl_eq, dVar_eq, dNoPart_eq, dPart_eq, dC_eq]
  refine ⟨_, rfl, _, rfl, _, rfl, sl_gs gp (by decide) fun a1 ga1 => ⟨_, rfl, add_gs ga1 gsign (by decide) fun b1 gb1 => ⟨_, rfl, _, rfl, _, rfl, sl_gs gp (by decide) fun a2 ga2 => add_gs gb1 ga2 (by decide) fun e1 ge1 => ?_⟩⟩⟩
  refine ⟨_, rfl, _, rfl, _, rfl, sl_gs gp (by decide) fun a3 ga3 => ⟨_, rfl, add_gs ga3 gsign (by decide) fun b3 gb3 => ⟨_, rfl, _, rfl, add_i ⟨_, rfl, sl_gs gp (by decide) fun a4 ga4 => add_gs gb3 ga4 (by decide) fun e2 ge2 => ?_⟩⟩⟩⟩
  refine ⟨_, rfl, _, rfl, _, rfl, sl_gs gp (by decide) fun a5 ga5 => ⟨_, rfl, _, rfl, add_i ⟨_, rfl, sl_gs gp (by decide) fun a6 ga6 => add_gs ga5 ga6 (by decide) fun e3 ge3 => ?_⟩⟩⟩
  refine ⟨by show 3 ≤ sizeLine; decide, fun l0 hl0 => ?_⟩
  obtain ⟨n0, f0⟩ := w4.ne hl0
  have w5 := w4.put (o := .lst [.str e1, .str e2, .str e3]) n0 f0
  have k5 : Lt (wupd v4 l0 (.lst [.str e1, .str e2, .str e3])) l0 20000 3 := ⟨_, wupd_same, Nat.le_refl _, fun d hd => by
    simp only [List.mem_cons, List.mem_nil_iff, or_false] at hd
    rcases hd with rfl | rfl | rfl
    · exact ⟨_, rfl, ge1.le (by decide)⟩
    · exact ⟨_, rfl, ge2.le (by decide)⟩
    · exact ⟨_, rfl, ge3.le (by decide)⟩⟩
  generalize wupd v4 l0 (.lst [.str e1, .str e2, .str e3]) = v5 at w5 k5 ⊢
  simp only [List.set_cons_succ, List.set_cons_zero]
  -- some + ..
  rw [dSeq_eq, dSet_eq]
  unfold dAddW
  simp only [dLst_eq, dCons_eq, dNil_eq, dBin_eq, dSl_eq, dVar_eq, dNoPart_eq, dPart_eq, dC_eq]
  refine ⟨_, rfl, _, rfl, _, rfl, add_gs gp gsign (by decide) fun e4 ge4 => ⟨_, rfl, _, rfl, add_gs gsign gp (by decide) fun e5 ge5 => ⟨_, rfl, ?_⟩⟩⟩
  refine add_gs (m := 1) gp ⟨by decide +kernel, okS_dec (by decide +kernel)⟩ (by decide) fun b6 gb6 => ⟨_, rfl, _, rfl, ix_gl gl hrow fun l6 gl6 => add_gs gb6 gl6 (by decide) fun e6 ge6 => ⟨_, rfl, _, rfl, _, rfl, sl_gs gp (by decide) fun e7 ge7 => ⟨by show 4 ≤ sizeLine; decide, ?_⟩⟩⟩
  obtain ⟨xs5, g51, g52, g53⟩ := k5
  refine ⟨xs5, [.str e4, .str e5, .str e6, .str e7], lstT_ref g51, rfl, by simp; omega, fun l hl => ?_⟩
  obtain ⟨n1, f1⟩ := w5.ne hl
  have w6 := w5.put (o := .lst (xs5 ++ [.str e4, .str e5, .str e6, .str e7])) n1 f1
  have k6 : Lt (wupd v5 l (.lst (xs5 ++ [.str e4, .str e5, .str e6, .str e7]))) l 20000 7 := ⟨_, wupd_same, by simp; omega, fun d hd => by
    rcases List.mem_append.1 hd with hd | hd
    · exact g53 d hd
    simp only [List.mem_cons, List.mem_nil_iff, or_false] at hd
    rcases hd with rfl | rfl | rfl | rfl
    · exact ⟨_, rfl, ge4.le (by decide)⟩
    · exact ⟨_, rfl, ge5.le (by decide)⟩
    · exact ⟨_, rfl, ge6.le (by decide)⟩
    · exact ⟨_, rfl, ge7.le (by decide)⟩⟩
  generalize wupd v5 l (.lst (xs5 ++ [.str e4, .str e5, .str e6, .str e7])) = v6 at w6 k6 ⊢
  simp only [List.set_cons_succ, List.set_cons_zero]
  -- a line left out
  rw [dSeq_eq]
  refine app_ty rfl k6 (by decide) (fun R hR => ?_) fun v7 ⟨_, e⟩ k7 => ?_
  · simp only [dM1_eq, dC_eq, dBin_eq, dSl_eq, dVar_eq, dNoPart_eq, dPart_eq]
    exact ⟨_, rfl, _, rfl, _, rfl, _, rfl, sl_gl gl fun a ga => ⟨_, rfl, _, rfl, add_i ⟨_, rfl, sl_gl gl fun b gb => add_gl ga gb (by decide) fun c gc => join_gl gc en (by decide) (by decide) fun y gy => hR _ ⟨y, rfl, gy.le (by decide)⟩⟩⟩⟩
  have w7 : Wb w p (c + 1 + 1 + 1 + 1) v7 := by rw [e]; exact w6.put n1 f1
  try dsimp only
  -- two
  rw [dSeq_eq, dSet_eq]
  unfold dRevL
  simp only [dBin_eq, dSl_eq, dVar_eq, dNoPart_eq, dPart_eq, dC_eq]
  refine ⟨_, rfl, _, rfl, _, rfl, _, rfl, add_i ⟨_, rfl, sl_gl gl fun tw0 gtw0 => ⟨_, rfl, ?_⟩⟩⟩
  obtain ⟨two, e2r, gtwo⟩ := rev_gl gtw0
  rw [e2r]
  simp only [List.set_cons_succ, List.set_cons_zero]
  rw [dSeq_eq]
  refine app_ty rfl k7 (by decide) (fun R hR => ?_) fun v8 ⟨_, e⟩ k8 => ?_
  · simp only [dM1_eq, dC_eq, dBin_eq, dSl_eq, dVar_eq, dNoPart_eq, dPart_eq]
    exact ⟨_, rfl, _, rfl, _, rfl, _, rfl, sl_gl gl fun a ga => ⟨_, rfl, add_gl ga gtwo (by decide) fun b gb => ⟨_, rfl, _, rfl, add_i ⟨_, rfl, sl_gl gl fun c gc => add_gl gb gc (by decide) fun d gd => join_gl gd en (by decide) (by decide) fun y gy => hR _ ⟨y, rfl, gy.le (by decide)⟩⟩⟩⟩⟩
  have w8 : Wb w p (c + 1 + 1 + 1 + 1) v8 := by rw [e]; exact w7.put n1 f1
  try dsimp only
  -- more
  rw [dSeq_eq]
  simp only [dSet_eq, dLstW_eq, dCons_eq, dNil_eq, dBin_eq, dSl_eq, dVar_eq, dNoPart_eq, dPart_eq, dC_eq]
  refine ⟨_, rfl, _, rfl, _, rfl, sl_gl gpa fun a ga => ⟨_, rfl, _, rfl, add_i ⟨_, rfl, sl_gl gpa fun b gb => add_gl ga gb (by decide) fun m1 gm1 => ?_⟩⟩⟩
  refine ⟨_, rfl, _, rfl, add_i ⟨_, rfl, sl_gl gpa fun a2 ga2 => ⟨_, rfl, _, rfl, _, rfl, sl_gl gpa fun b2 gb2 => add_gl ga2 gb2 (by decide) fun m2 gm2 => ⟨by show 2 ≤ sizeLine; decide, fun l2 hl2 => ?_⟩⟩⟩⟩
  obtain ⟨n2, f2⟩ := w8.ne hl2
  have n12 : l ≠ l2 := fun z => by
    obtain ⟨xs, g, _⟩ := k8
    rw [z, hl2] at g; cases g
  have w9 := w8.put (o := .lst [strL m1, strL m2]) n2 f2
  have k9 : Lt (wupd v8 l2 (.lst [strL m1, strL m2])) l 20000 9 := by
    obtain ⟨xs, g1, g2, g3⟩ := k8
    exact ⟨xs, by rw [wupd_ne n12]; exact g1, g2, g3⟩
  have j9 : wupd v8 l2 (.lst [strL m1, strL m2]) l2 = some (.lst [strL m1, strL m2]) := wupd_same
  generalize wupd v8 l2 (.lst [strL m1, strL m2]) = v9 at w9 k9 j9 ⊢
  simp only [List.set_cons_succ, List.set_cons_zero]
  have oddm : ∀ d ∈ oddT.map D.str, ∃ y, d = .str y ∧ Gs 5000 y := fun d hd => by
    obtain ⟨t, ht, rfl⟩ := List.mem_map.1 hd
    exact ⟨t, rfl, odd_ok t ht⟩
  have oddl : (oddT.map D.str).length = 15 := rfl
  -- two odd words
  rw [dSeq_eq, dDrop_eq]
  unfold dApp
  simp only [dVar_eq]
  refine ⟨_, rfl, l2, _, rfl, j9, ?_⟩
  simp only [dBin_eq, dSl_eq, dVar_eq, dNoPart_eq, dPart_eq, dLst_eq]
  refine ⟨_, rfl, _, rfl, _, rfl, sl_gl gpa fun a3 ga3 => ?_⟩
  rw [dCons_eq]
  refine pickL_e (xs := oddT.map D.str) w9 (by omega) (by decide) (by decide) (fun R h => ?_) fun d5 hd5 o5 ho5 => ?_
  · rw [dVar_eq]; exact ⟨_, rfl, h⟩
  obtain ⟨y5, rfl, gy5⟩ := oddm d5 hd5
  have w10 := w9.draw ho5
  have k10 : Lt (wupd v9 p o5) l 20000 9 := by
    obtain ⟨xs, g1, g2, g3⟩ := k9
    exact ⟨xs, by rw [wupd_ne n1]; exact g1, g2, g3⟩
  have j10 : wupd v9 p o5 l2 = some (.lst [strL m1, strL m2]) := by rw [wupd_ne n2]; exact j9
  generalize wupd v9 p o5 = v10 at w10 k10 j10 ⊢
  rw [dNil_eq]
  refine ⟨by show 1 ≤ sizeLine; decide, add_gl (y := [y5]) ga3 (Gl.one gy5) (by decide) fun b3 gb3 => ⟨_, rfl, _, rfl, _, rfl, sl_gl gpa fun c3 gc3 => add_gl gb3 gc3 (by decide) fun m3 gm3 => ⟨_, j10, by show 2 < sizeLine; decide, ?_⟩⟩⟩
  have w11 := w10.put (o := .lst ([strL m1, strL m2] ++ [strL m3])) n2 f2
  have k11 : Lt (wupd v10 l2 (.lst ([strL m1, strL m2] ++ [strL m3]))) l 20000 9 := by
    obtain ⟨xs, g1, g2, g3⟩ := k10
    exact ⟨xs, by rw [wupd_ne n12]; exact g1, g2, g3⟩
  have j11 : wupd v10 l2 (.lst ([strL m1, strL m2] ++ [strL m3])) l2 = some (.lst [strL m1, strL m2, strL m3]) := wupd_same
  generalize wupd v10 l2 (.lst ([strL m1, strL m2] ++ [strL m3])) = v11 at w11 k11 j11 ⊢
  try dsimp only
  rw [dSeq_eq, dDrop_eq]
  try unfold dApp
  simp only [dVar_eq]
  refine ⟨_, rfl, l2, _, rfl, j11, ?_⟩
  simp only [dBin_eq, dSl_eq, dVar_eq, dNoPart_eq, dPart_eq, dLst_eq, dC_eq]
  refine ⟨_, rfl, _, rfl, _, rfl, sl_gl gpa fun a4 ga4 => ?_⟩
  rw [dCons_eq]
  refine pickL_e (xs := oddT.map D.str) w11 (by omega) (by decide) (by decide) (fun R h => ?_) fun d6 hd6 o6 ho6 => ?_
  · rw [dVar_eq]; exact ⟨_, rfl, h⟩
  obtain ⟨y6, rfl, gy6⟩ := oddm d6 hd6
  have w12 := w11.draw ho6
  have k12 : Lt (wupd v11 p o6) l 20000 9 := by
    obtain ⟨xs, g1, g2, g3⟩ := k11
    exact ⟨xs, by rw [wupd_ne n1]; exact g1, g2, g3⟩
  have j12 : wupd v11 p o6 l2 = some (.lst [strL m1, strL m2, strL m3]) := by rw [wupd_ne n2]; exact j11
  generalize wupd v11 p o6 = v12 at w12 k12 j12 ⊢
  rw [dNil_eq]
  refine ⟨by show 1 ≤ sizeLine; decide, add_gl (y := [y6]) ga4 (Gl.one gy6) (by decide) fun b4 gb4 => ⟨_, rfl, _, rfl, add_i ⟨_, rfl, sl_gl gpa fun c4 gc4 => add_gl gb4 gc4 (by decide) fun m4 gm4 => ⟨_, j12, by show 3 < sizeLine; decide, ?_⟩⟩⟩⟩
  have w13 := w12.put (o := .lst ([strL m1, strL m2, strL m3] ++ [strL m4])) n2 f2
  have k13 : Lt (wupd v12 l2 (.lst ([strL m1, strL m2, strL m3] ++ [strL m4]))) l 20000 20 := by
    obtain ⟨xs, g1, g2, g3⟩ := k12
    exact ⟨xs, by rw [wupd_ne n12]; exact g1, by omega, g3⟩
  have j13 : Lm (wupd v12 l2 (.lst ([strL m1, strL m2, strL m3] ++ [strL m4]))) l2 10 := ⟨[m1, m2, m3, m4], wupd_same, (by show 4 ≤ 10; decide), fun d hd => by
    simp only [List.mem_cons, List.mem_nil_iff, or_false] at hd
    rcases hd with rfl | rfl | rfl | rfl
    · exact gm1.le (by decide)
    · exact gm2.le (by decide)
    · exact gm3.le (by decide)
    · exact gm4.le (by decide)⟩
  generalize wupd v12 l2 (.lst ([strL m1, strL m2, strL m3] ++ [strL m4])) = v13 at w13 k13 j13 ⊢
  try dsimp only
  rw [dSeq_eq]
  refine bent_loop row w13 f1 n1 k13 f2 n2 j13 n12 gl fun v14 o w14 k14 => ?_
  try dsimp only
  rw [dRet_eq]
  obtain ⟨xs, g1, g2, g3⟩ := k14
  refine pickL_e (xs := xs ++ [.str "", .str " ", .str "-", .str "- -", .non, .int 7, .bl true, .lst [.str page], .str (page ++ " 1")]) w14 (by omega) (by simp) (by simp; omega) (fun R h => ?_) fun d hd o7 ho7 => ?_
  · simp only [dBin_eq, dVar_eq, dLst_eq, dCons_eq, dNil_eq, dC_eq]
    refine ⟨_, rfl, _, rfl, by show 1 ≤ sizeLine; decide, _, rfl, addD_str.2 ⟨by have := gp.1; rw [show (Str.ofString " 1").length = 2 by decide +kernel]; omega, by show 9 ≤ sizeLine; decide, ?_⟩⟩
    exact ⟨xs, _, lstT_ref g1, rfl, by simp; omega, h⟩
  have hth : Th page d := by
    rcases List.mem_append.1 hd with z | z
    · exact .inl (g3 d z)
    · have ts : ∀ x : Str, ((tl x).all (fun c => decide (c < 0x110000)) && decide (x.length ≤ 20000)) = true → Ty 20000 (.str x) := fun x h => by
        rw [Bool.and_eq_true] at h
        exact ⟨x, rfl, by simpa using h.2, okS_dec h.1⟩
      simp only [List.mem_cons, List.mem_nil_iff, or_false] at z
      rcases z with rfl | rfl | rfl | rfl | rfl | rfl | rfl | rfl | rfl
      · exact .inl (ts _ (by decide +kernel))
      · exact .inl (ts _ (by decide +kernel))
      · exact .inl (ts _ (by decide +kernel))
      · exact .inl (ts _ (by decide +kernel))
      · exact .inr (.inl rfl)
      · exact .inr (.inr (.inl rfl))
      · exact .inr (.inr (.inr (.inl rfl)))
      · exact .inr (.inr (.inr (.inr rfl)))
      · exact .inl ⟨_, rfl, (gp.app (m := 2) (y := " 1") ⟨by decide +kernel, okS_dec (by decide +kernel)⟩).le (by decide)⟩
  have w15 := w14.draw ho7
  obtain ⟨o8, ho8, hle⟩ := w15.done
  exact ⟨d, wupd w p o8, Frz.weak hle, q d hth o8 (ho8.le (by omega))⟩
end K97
set_option Elab.async false
set_option linter.all false
set_option maxRecDepth 100000
set_option maxHeartbeats 1000000
/-! K97P29: _law_told; what is told, as data. -/
namespace K97
open PySem PySem.Spec PyProof.Rows L2 DL TL NumText
section
variable {P : Program} {w0 : World} {K : PySem.W.Frag} {mg : Str → Option Value} {base : Heap}
def spTold (a : Ad) : SpD := fun ds w E Q => TbW w a.tL qL ∧ ((∃ x, ds = [.str x] ∧ x.length + 2 ≤ sL ∧ ∀ w', Fut0 a w w' → Q (toldD x) w') ∨ ∃ d, ds = [d] ∧ isThing d ∧ Q zzD w)
theorem pure_law_told {a : Ad} (hx : PySem.W.exmOne K (.ref a.c_InvalidText) (.ref a.c_InvalidText) = some true) (ds : List D) (w : Wd) (E : XDp) (Q : VKD) (h : spTold a ds w E Q) : t__law_told a P w0 K mg base (spRead a) spShF (fun x _ w' => E x w') { nx := fun _ w' => Q .non w', rt := Q } (startD ["page", "error"] ds) w := by
  have back : ∀ (i j : D) (r : Rho) (w' : Wd), isSc i = true → isSc j = true → Q (.tup [i, j]) w' →
      (∃ fs, errD a i j = .own a.c_InvalidText fs ∧ fs ≠ [] ∧ PySem.W.exmOne K (.ref a.c_InvalidText) (.ref a.c_InvalidText) = some true ∧ (∀ q ∈ fs, isSc q.2 = true) ∧ ∀ ea, w' ea = none → dRet (dTup (dCons (dXf ea fs "line" (dVar 1)) (dCons (dXf ea fs "word" (dVar 1)) (dNil)))) ETr (clD 1 { nx := fun _ w' => Q .non w', rt := Q }) (r.set 1 (some (.ref ea))) w') → True := fun _ _ _ _ _ _ _ _ => trivial
  have hand : ∀ (i j : D) (d : D) (o : Option D) (w' : Wd), isSc i = true → isSc j = true → Q (.tup [i, j]) w' →
      ∃ fs, errD a i j = .own a.c_InvalidText fs ∧ fs ≠ [] ∧ PySem.W.exmOne K (.ref a.c_InvalidText) (.ref a.c_InvalidText) = some true ∧ (∀ q ∈ fs, isSc q.2 = true) ∧ ∀ ea, w' ea = none → dRet (dTup (dCons (dXf ea fs "line" (dVar 1)) (dCons (dXf ea fs "word" (dVar 1)) (dNil)))) ETr (clD 1 { nx := fun _ w' => Q .non w', rt := Q }) (([some d, o] : Rho).set 1 (some (.ref ea))) w' := by
    intro i j d o w' si sj q
    refine ⟨_, rfl, by simp, hx, fun z hz => ?_, fun ea _ => ?_⟩
    · simp only [List.mem_cons, List.mem_nil_iff, or_false] at hz
      rcases hz with rfl | rfl
      · exact sj
      · exact si
    · rw [dRet_eq, dTup_eq]
      simp only [dCons_eq, dNil_eq]
      refine ⟨.ref ea, rfl, i, rfl, trivial, rfl, .ref ea, rfl, j, rfl, trivial, rfl, by show 2 ≤ sizeLine; decide, ?_⟩
      exact frz_of q
  obtain ⟨tb, h⟩ := h
  unfold t__law_told dTryAs
  rcases h with ⟨x, rfl, hl, q⟩ | ⟨d, rfl, hd, q⟩
  · rw [show startD ["page", "error"] [D.str x] = [some (.str x), none] from rfl]
    simp only [dRet_eq, dLst_eq, dCons_eq, dNil_eq, dCall_eq, dVar_eq]
    refine ⟨_, rfl, rfl, tb, .inl ⟨x, rfl, hl, ?_⟩⟩
    unfold toldD at q
    cases hf : fileR (rowsOf x) 0 with
    | ok es =>
      rw [hf] at q
      intro w' fu
      exact ⟨rfl, told_ok hl hf ⟨by show 1 ≤ sizeLine; decide, frz_of (q w' fu)⟩⟩
    | error ij =>
      obtain ⟨i, j⟩ := ij
      rw [hf] at q
      intro w' fu
      exact .inl (hand _ _ _ _ _ rfl rfl (q w' fu))
  · rw [show startD ["page", "error"] [d] = [some d, none] from rfl]
    simp only [dRet_eq, dLst_eq, dCons_eq, dNil_eq, dCall_eq, dVar_eq]
    exact ⟨_, rfl, rfl, tb, .inr ⟨d, rfl, hd, .inl (hand _ _ _ _ _ rfl rfl q)⟩⟩
end
/-! the size of places -/
theorem reads_at {ρ : Nat → Str → Option D} : ∀ {ws : List Str} {k j : Nat}, reads ρ ws k = .error j → j < k + ws.length
  | [], k, j, h => by cases h
  | x :: r, k, j, h => by
    rw [reads_cons] at h
    cases hr : ρ k x with
    | none => rw [hr] at h; cases h; simp
    | some d =>
      rw [hr] at h
      dsimp only at h
      cases he : reads ρ r (k + 1) with
      | ok e => rw [he] at h; cases h
      | error j' =>
        rw [he] at h
        cases h
        have := reads_at he
        simp; omega
theorem body_at {kd : Kd} {ws : List Str} {j : Nat} (h : body kd ws = .error j) : j ≤ ws.length + 1 := by
  unfold body at h
  cases hr : reads (rho kd) (ws.drop 1) 1 with
  | error j' =>
    rw [hr] at h
    cases h
    have := reads_at hr
    simp at this; omega
  | ok ds =>
    rw [hr] at h
    dsimp only at h
    split at h
    · cases h; omega
    · cases h
theorem img_at {ws : List Str} {j : Nat} (h : imgR ws = .error j) : j ≤ ws.length + 1 := by
  unfold imgR at h
  cases hx : ws[0]? with
  | none => rw [hx] at h; cases h; omega
  | some x =>
    rw [hx] at h
    dsimp only at h
    cases hk : kindOf x with
    | none => rw [hk] at h; cases h; omega
    | some kd => rw [hk] at h; exact body_at h
theorem file_place : ∀ {rows : List (List Str)} {k i j : Nat}, fileR rows k = .error (i, j) → i < k + rows.length ∧ ∃ r ∈ rows, j ≤ r.length + 1
  | [], k, i, j, h => by cases h
  | r :: rest, k, i, j, h => by
    rw [fileR_cons] at h
    cases hr : imgR r with
    | error j' => rw [hr] at h; cases h; exact ⟨by simp, r, by simp, img_at hr⟩
    | ok d =>
      rw [hr] at h
      dsimp only at h
      cases he : fileR rest (k + 1) with
      | ok e => rw [he] at h; cases h
      | error ij =>
        obtain ⟨i', j'⟩ := ij
        rw [he] at h
        cases h
        obtain ⟨h1, r', h2, h3⟩ := file_place he
        exact ⟨by simp; omega, r', by simp [h2], h3⟩
/-- what is told, as data that can be shown and compared -/
structure Shw (d : D) (p : PyData) : Prop where
  seq : ∃ xs, d = .lst xs ∨ d = .tup xs
  py : toPy d = some p
  sh : p.showable = true
  nd : p.hasDict = false
  dp : p.depth ≤ 60
  ln : p.shown.length ≤ sizeLine
theorem shw_pair {i j : Nat} (hi : i < 2 ^ 30) (hj : j < 2 ^ 30) : Shw (.tup [.int i, .int j]) (.tuple [.int i, .int j]) := by
  have lg : ∀ n : Nat, n < 2 ^ 30 → ((n : Int)).natAbs.log2 < 30 := fun n hn => by
    rw [Int.natAbs_natCast]
    by_cases h : n = 0
    · subst h; decide
    · exact (Nat.log2_lt h).2 hn
  have li := lg i hi
  have lj := lg j hj
  have wt : ∀ n : Nat, n < 2 ^ 30 → PyData.weight (.int n) ≤ 31 := fun n hn => by
    have := lg n hn
    show (if ((n : Int) == 0) = true then 0 else (n : Int).natAbs.log2 + 1) ≤ 31
    split <;> omega
  refine ⟨⟨_, .inr rfl⟩, rfl, ?_, rfl, (by show 1 ≤ 60; decide), ?_⟩
  · show (decide ((i : Int).natAbs.log2 < 1920) && (decide ((j : Int).natAbs.log2 < 1920) && true)) = true
    rw [decide_eq_true (by omega), decide_eq_true (by omega)]; rfl
  · refine PyData.shown_fits (B := 13) (by decide) (by decide) ?_ ?_
    · show (decide ((PyData.shown (.int i)).length ≤ 13) && (decide ((PyData.shown (.int j)).length ≤ 13) && true)) = true
      rw [decide_eq_true (PyData.shown_int_le (by rw [Int.natAbs_natCast]; omega)), decide_eq_true (PyData.shown_int_le (by rw [Int.natAbs_natCast]; omega))]; rfl
    · show PyData.weight (.int i) + 1 + (PyData.weight (.int j) + 1 + 0) ≤ 2 ^ 20
      have := wt i hi
      have := wt j hj
      omega
theorem shw_text {x : Str} (hl : x.length ≤ 100000) (ho : OkS x) : Shw (.lst [.str x]) (.list [.str x]) := by
  refine ⟨⟨_, .inl rfl⟩, rfl, rfl, rfl, (by show 1 ≤ 60; decide), ?_⟩
  refine PyData.shown_fits (B := 13) (by decide) (by decide) ?_ ?_
  · show ((x.cps.toList.all fun c => decide (c < 16 ^ 8)) && true) = true
    rw [Bool.and_true, List.all_eq_true]
    intro c hc
    have := ho c hc
    simp; omega
  · show x.cps.size + 1 + 0 ≤ 2 ^ 20
    have : x.cps.size = x.length := rfl
    omega
theorem shw_told {x : Str} (hl : x.length ≤ 100000) (ho : OkS x) : ∃ p, Shw (toldD x) p := by
  have hsl : sL = 1000000 := rfl
  unfold toldD
  cases hf : fileR (rowsOf x) 0 with
  | ok es => exact ⟨_, shw_text hl ho⟩
  | error ij =>
    obtain ⟨i, j⟩ := ij
    obtain ⟨h1, r, h2, h3⟩ := file_place hf
    have h4 := (rows_sz h2 (by omega)).1.1
    have h5 : (rowsOf x).length ≤ x.length + 1 := by
      unfold rowsOf
      rw [List.length_map]
      have := split_sum x "\n" 10 (by decide +kernel) (by decide +kernel)
      omega
    exact ⟨_, shw_pair (by omega) (by omega)⟩
theorem repr_e {d : D} {p : PyData} {w : Wd} {Q : VKD} (h : Shw d p) (q : Q (.str p.shown) w) : reprD [d] w Q := by
  obtain ⟨xs, hd⟩ := h.seq
  refine ⟨d, p, rfl, ?_, ?_, h.sh, h.nd, h.dp, h.ln, q⟩
  · rcases hd with rfl | rfl <;> rfl
  · rcases hd with rfl | rfl <;> exact h.py
theorem ne_same {x : Str} {w : Wd} {Q : VKD} (ho : OkS x) (q : Q (.bl false) w) : neRD (.lst [.str x]) (.lst [.str x]) w Q := by
  have c : PyData.canLay0 (.list [.str x]) = true := by
    show (PyData.canLay0 (.str x) && true) = true
    rw [okS_all ho]; rfl
  have s : SeqAt.shaped (.list [.str x]) = true := by
    unfold SeqAt.shaped
    rw [c]; rfl
  refine ⟨_, _, rfl, rfl, s, s, ?_⟩
  have e : PyData.eqv (.list [.str x]) (.list [.str x]) = true := by
    show ((x == x) && true) = true
    simp
  show Q (.bl (!PyData.eqv (.list [.str x]) (.list [.str x]))) w
  rw [e]
  exact q
end K97
set_option Elab.async false
set_option linter.all false
set_option maxRecDepth 100000
set_option maxHeartbeats 2000000
/-! K97P30: law. -/
namespace K97
open PySem PySem.Spec PyProof.Rows L2 DL TL NumText
structure Lw (a : Ad) (p : Addr) (c : Nat) (w : Wd) : Prop where
  src : Src w p c
  tb : TbW w a.tL qL
theorem Lw.ne {a : Ad} {p : Addr} {c : Nat} {w : Wd} (h : Lw a p c w) : p ≠ a.tL := fun e => by
  obtain ⟨o, h1, ns, t, l, rfl, _⟩ := h.src
  obtain ⟨ps, g, _⟩ := h.tb
  rw [← e, h1] at g; cases g
theorem Lw.upd {a : Ad} {p : Addr} {c d : Nat} {w : Wd} {o : DO} (h : Lw a p c w) (ho : SrcO o d) : Lw a p d (wupd w p o) := by
  refine ⟨Src.upd ho, ?_⟩
  obtain ⟨u, h1, ns, t, l, rfl, _⟩ := h.src
  obtain ⟨ps, g1, g2, g3⟩ := h.tb
  refine ⟨ps, by rw [wupd_ne (fun z => by rw [z, h1] at g1; cases g1)]; exact g1, g2, fun pos cv hc => ?_⟩
  obtain ⟨c, e, hc'⟩ := g3 pos cv hc
  exact ⟨c, e, by rw [wupd_ne (fun z => by rw [z, h1] at hc'; cases hc')]; exact hc'⟩
theorem Lw.fut {a : Ad} {p : Addr} {c : Nat} {w w' : Wd} (h : Lw a p c w) (f : Fut0 a w w') : Lw a p c w' := by
  obtain ⟨o, h1, h2⟩ := h.src
  exact ⟨⟨o, f.old p o h1 h.ne, h2⟩, f.tb⟩
theorem Lw.le {a : Ad} {p : Addr} {c d : Nat} {w : Wd} (h : Lw a p c w) (k : c ≤ d) : Lw a p d w := by
  obtain ⟨o, h1, h2⟩ := h.src
  exact ⟨⟨o, h1, h2.le k⟩, h.tb⟩
theorem told_page {x : Str} (h : Page x) : toldD x = .lst [.str x] := by
  obtain ⟨es, he⟩ := h.right
  unfold toldD
  rw [he]
theorem told_free : fileR (rowsOf "free") 0 = .ok [.tup [.str "free"]] := by kernel_rfl
theorem told_inner : toldD "inner 2" = .tup [.int 0, .int 2] := by kernel_rfl
theorem told_leaf : toldD "leaf - 4 =a~b" = .tup [.int 0, .int 3] := by kernel_rfl
theorem eq_pair {i j : Int} {w : Wd} {Q : VKD} (q : Q (.bl true) w) : eqRD (.tup [.int i, .int j]) (.tup [.int i, .int j]) w Q := by
  refine ⟨_, _, rfl, rfl, rfl, rfl, ?_⟩
  have e : PyData.eqv (.tuple [.int i, .int j]) (.tuple [.int i, .int j]) = true := by
    show ((i == i) && ((j == j) && true)) = true
    simp
  show Q (.bl (PyData.eqv (.tuple [.int i, .int j]) (.tuple [.int i, .int j]))) w
  rw [e]
  exact q
theorem eq_free {w : Wd} {Q : VKD} (q : Q (.bl true) w) : eqRD (.tup [.tup [.str "free"]]) (.tup [.tup [.str "free"]]) w Q := by
  refine ⟨_, _, rfl, rfl, by decide +kernel, by decide +kernel, ?_⟩
  have e : PyData.eqv (.tuple [.tuple [.str "free"]]) (.tuple [.tuple [.str "free"]]) = true := by decide +kernel
  show Q (.bl (PyData.eqv (.tuple [.tuple [.str "free"]]) (.tuple [.tuple [.str "free"]]))) w
  rw [e]
  exact q
def spLaw (a : Ad) : SpD := fun ds w _ Q => ∃ ns : List Int, ds = [.rls (ns.map .int)] ∧ ns.length ≤ 63 ∧ TbW w a.tL qL ∧ ∀ w', Q (.bl true) w'
theorem pure_law {a : Ad} (ds : List D) (w : Wd) (E : XDp) (Q : VKD) (h : spLaw a ds w E Q) : t_law a spBent spDue spImages spSource (spTold a) (spRead a) (fun x _ w' => E x w') { nx := fun _ w' => Q .non w', rt := Q } (startD ["script", "source", "turn", "page", "k", "thing"] ds) w := by
  obtain ⟨ns, rfl, hns, htb, q⟩ := h
  have sz : sizeLine = 16777216 := rfl
  have hsl : sL = 1000000 := rfl
  unfold t_law
  rw [show startD ["script", "source", "turn", "page", "k", "thing"] [D.rls (ns.map .int)] = [some (.rls (ns.map .int)), none, none, none, none, none] from rfl]
  rw [dSeq_eq]
  simp only [dSet_eq, dCall_eq, dCons_eq, dNil_eq, dVar_eq]
  refine ⟨_, rfl, rfl, ns, rfl, hns, fun p hp => ?_⟩
  have l0 : Lw a p 0 (wupd w p (.dK (srcT ns 0 0))) := ⟨⟨_, wupd_same, ns, 0, 0, rfl, Nat.le_refl _, hns⟩, tb_new htb hp⟩
  generalize wupd w p (.dK (srcT ns 0 0)) = w0 at l0 ⊢
  simp only [List.set_cons_succ, List.set_cons_zero]
  rw [dSeq_eq]
  unfold dFor
  simp only [iRngD1, dCons_eq, dNil_eq, dC_eq]
  refine ⟨8, rfl, by decide, by decide, ?_⟩
  have h8 : (rngD 0 (8 : Int).toNat).length = 8 := rfl
  refine ⟨fun i ρ w' => i ≤ 8 ∧ Lw a p (100 * i) w' ∧ ∃ o2 o3 o4 o5, ρ = [some (.rls (ns.map .int)), some (.ref p), o2, o3, o4, o5], ⟨by decide, l0, _, _, _, _, rfl⟩, ?_, ?_⟩
  · rintro i d ρ w' hd ⟨hi, hl, o2, o3, o4, o5, rfl⟩
    have hi8 : i < 8 := by have := (List.getElem?_eq_some_iff.1 hd).1; rw [h8] at this; exact this
    simp only [gdName_eq, List.set_cons_succ, List.set_cons_zero]
    rw [dSeq_eq]
    simp only [dSet_eq, dM1_eq, dC_eq, dCall_eq, dCons_eq, dNil_eq, dVar_eq]
    refine ⟨_, rfl, _, rfl, rfl, p, 100 * i, rfl, hl.src, by omega, fun ts t1 t2 t3 o ho => ?_⟩
    obtain ⟨pg, psum⟩ := page_of t1 t2 t3
    refine ⟨_, _, ts, rfl, rfl, rfl, by rw [show (Str.ofString "\n").length = 1 by decide +kernel]; omega, ?_⟩
    generalize hpage : Txt.join "\n" ts = page at pg ⊢
    have l1 : Lw a p (100 * i + 5) (wupd w' p o) := hl.upd ho
    generalize wupd w' p o = w1 at l1 ⊢
    simp only [List.set_cons_succ, List.set_cons_zero]
    have hsz : page.length + 2 ≤ sL := by have := pg.len; omega
    rw [dSeq_eq]
    simp only [dIfS_eq, dOr_eq, dTest_eq, dBin_eq, dCall_eq, dCons_eq, dNil_eq, dVar_eq, dLst_eq]
    refine ⟨_, rfl, rfl, l1.tb, .inl ⟨page, rfl, hsz, fun w2 f2 => ⟨_, rfl, by show 1 ≤ sizeLine; decide, ?_⟩⟩⟩
    have l2 := l1.fut f2
    rw [told_page pg]
    refine ne_same pg.ok ⟨false, rfl, ?_⟩
    rw [if_neg (by decide)]
    refine ⟨_, rfl, rfl, .inl ⟨page, rfl, hsz, pg.ok, ?_⟩⟩
    rw [told_page pg]
    refine ⟨_, rfl, by show 1 ≤ sizeLine; decide, ne_same pg.ok ⟨false, rfl, ?_⟩⟩
    rw [if_neg (by decide), dNext_eq]
    try dsimp only
    try unfold dFor
    try simp only [iRngD1, dCons_eq, dNil_eq, dC_eq]
    refine ⟨9, rfl, by decide, by decide, ?_⟩
    have h9 : (rngD 0 (9 : Int).toNat).length = 9 := rfl
    refine ⟨fun k ρ w' => k ≤ 9 ∧ Lw a p (100 * i + 5 + 7 * k) w' ∧ ∃ o4 o5, ρ = [some (.rls (ns.map .int)), some (.ref p), some d, some (.str page), o4, o5], ⟨by decide, l2, _, _, rfl⟩, ?_, ?_⟩
    · rintro k dk ρ w3 hdk ⟨hk, l3, o4, o5, rfl⟩
      have hk9 : k < 9 := by have := (List.getElem?_eq_some_iff.1 hdk).1; rw [h9] at this; exact this
      simp only [gdName_eq, List.set_cons_succ, List.set_cons_zero]
      rw [dSeq_eq]
      simp only [dSet_eq, dCall_eq, dCons_eq, dNil_eq, dVar_eq]
      refine ⟨_, rfl, _, rfl, rfl, p, 100 * i + 5 + 7 * k, page, rfl, l3.src, by omega, ⟨pg.len, pg.ok⟩, fun t ht o ho => ?_⟩
      have l4 : Lw a p (100 * i + 5 + 7 * (k + 1)) (wupd w3 p o) := l3.upd ho
      generalize wupd w3 p o = w4 at l4 ⊢
      simp only [List.set_cons_succ, List.set_cons_zero]
      simp only [dIfS_eq, dTest_eq, dBin_eq, dCB_eq, dCons_eq, dNil_eq, dVar_eq, dCall_eq]
      -- what both tell
      suffices hh : ∃ dd pd, Shw dd pd ∧ (∀ Q : VKD, (∀ w', Fut0 a w4 w' → Q dd w') → ∀ E, spTold a [t] w4 E Q) ∧ (∀ (Q : VKD) (w' : Wd), Q dd w' → ∀ E, spDue [t] w' E Q) by
        obtain ⟨dd, pd, hs, h1, h2⟩ := hh
        refine ⟨_, rfl, rfl, h1 _ (fun w5 f5 => repr_e hs ⟨_, rfl, rfl, h2 _ _ (repr_e hs (neRD_str.2 ⟨false, by simp, ?_⟩)) _⟩) _⟩
        rw [if_neg (by decide), dNext_eq]
        exact ⟨hk9, l4.fut f5, _, _, rfl⟩
      rcases ht with ⟨y, rfl, gy⟩ | rfl | rfl | rfl | rfl
      · obtain ⟨pd, hpd⟩ := shw_told (x := y) (by have := gy.1; omega) gy.2
        exact ⟨_, pd, hpd, fun Q h E => ⟨l4.tb, .inl ⟨y, rfl, by have := gy.1; omega, h⟩⟩, fun Q w' h E => .inl ⟨y, rfl, by have := gy.1; omega, gy.2, h⟩⟩
      · exact ⟨zzD, _, shw_pair (i := 0) (j := 0) (by decide) (by decide), fun Q h E => ⟨l4.tb, .inr ⟨_, rfl, trivial, h _ ⟨fun _ _ h _ => h, l4.tb⟩⟩⟩, fun Q w' h E => .inr ⟨_, rfl, trivial, h⟩⟩
      · exact ⟨zzD, _, shw_pair (i := 0) (j := 0) (by decide) (by decide), fun Q h E => ⟨l4.tb, .inr ⟨_, rfl, trivial, h _ ⟨fun _ _ h _ => h, l4.tb⟩⟩⟩, fun Q w' h E => .inr ⟨_, rfl, trivial, h⟩⟩
      · exact ⟨zzD, _, shw_pair (i := 0) (j := 0) (by decide) (by decide), fun Q h E => ⟨l4.tb, .inr ⟨_, rfl, trivial, h _ ⟨fun _ _ h _ => h, l4.tb⟩⟩⟩, fun Q w' h E => .inr ⟨_, rfl, trivial, h⟩⟩
      · exact ⟨zzD, _, shw_pair (i := 0) (j := 0) (by decide) (by decide), fun Q h E => ⟨l4.tb, .inr ⟨_, rfl, trivial, h _ ⟨fun _ _ h _ => h, l4.tb⟩⟩⟩, fun Q w' h E => .inr ⟨_, rfl, trivial, h⟩⟩
    · rintro ρ w3 ⟨hk, l3, o4, o5, rfl⟩
      rw [h9] at l3
      exact ⟨hi8, l3.le (by omega), _, _, _, _, rfl⟩
  · rintro ρ w' ⟨hi, hl, o2, o3, o4, o5, rfl⟩
    simp only [dRet_eq, dAndV_eq, dBin_eq, dCall_eq, dCons_eq, dNil_eq, dC_eq, dTup_eq]
    refine ⟨rfl, hl.tb, .inl ⟨_, rfl, by decide +kernel, ?_⟩⟩
    rw [told_free]
    intro w2 f2
    have l2 := hl.fut f2
    refine ⟨by decide, by decide, eq_free ⟨true, rfl, ?_⟩⟩
    rw [if_pos rfl]
    refine ⟨rfl, l2.tb, .inl ⟨_, rfl, by decide +kernel, fun w3 f3 => ⟨by decide, ?_⟩⟩⟩
    have l3 := l2.fut f3
    rw [told_inner]
    refine eq_pair ⟨true, rfl, ?_⟩
    rw [if_pos rfl]
    refine ⟨rfl, l3.tb, .inl ⟨_, rfl, by decide +kernel, fun w4 f4 => ⟨by decide, ?_⟩⟩⟩
    rw [told_leaf]
    exact eq_pair (frz_of (q w4))
end K97
set_option Elab.async false
set_option linter.all false
set_option maxRecDepth 100000
set_option maxHeartbeats 0
/-! written by gen.py: the head -/
namespace K97
open PySem PySem.Spec PyProof.Rows L2 DL
abbrev PP : Program := PySem.Challenge.pw_splitscar_k97_texts_of_files_refused
def mfL : Str := PP.main.file
def kv_ESCAPED : List (Str × Str) := [("_", " "), ("~", "~")]
abbrev es_InvalidText : Stmt := (clsBody (top 2)).getD 0 (.Pass ⟨0, 0, 0, 0⟩)
def ed_InvalidText : DLH.ErrD := ⟨"InvalidText", "InvalidText.__init__", defArgs es_InvalidText, defBody es_InvalidText, defScope es_InvalidText, ["line", "word"], "ValueError", "ValueError.__new__", "ValueError.__init__", bmValueError⟩
theorem it_InvalidText : DLX.InitTxt ed_InvalidText.flds ed_InvalidText.params ed_InvalidText.body ed_InvalidText.scope :=
  ⟨⟨_, _, _, _, _, _, _, _, _, rfl, (.cons (.cons .nil)), rfl⟩, rfl, rfl, rfl, by decide +kernel, by decide +kernel, rfl, rfl, rfl, ⟨_, rfl, rfl⟩, by decide +kernel, by decide +kernel, by decide +kernel, by decide +kernel, fun s fd u us h1 h2 h3 h4 => by obtain ⟨n1, n2, n3, n4, n5, n6, n7, n8, n9, n10, n11, n12, n13, n14, n15⟩ := fd; dsimp only at h1 h2 h3; subst h1 h2 h3; match us, h4 with | [_, _], _ => exact .of_eq rfl⟩
def esL : List DLH.ErrD := [ed_InvalidText]
def tsL : List He.Tab := [(fun K => He.ga K "ESCAPED", kv_ESCAPED.map (·.1))]
def tfL : List He.Defn := [("word_of", none)]
def dd_lines_in : He.DefD := ⟨("lines_in", none), "lines_in", "lines_in", defArgs s_lines_in, defBody s_lines_in, defScope s_lines_in, [], []⟩
def dd_number_in : He.DefD := ⟨("number_in", none), "number_in", "number_in", defArgs s_number_in, defBody s_number_in, defScope s_number_in, [], []⟩
def dd_key_in : He.DefD := ⟨("key_in", none), "key_in", "key_in", defArgs s_key_in, defBody s_key_in, defScope s_key_in, [], []⟩
def dd_need_word : He.DefD := ⟨("need_word", none), "need_word", "need_word", defArgs s_need_word, defBody s_need_word, defScope s_need_word, [], []⟩
def dd_string_in : He.DefD := ⟨("string_in", none), "string_in", "string_in", defArgs s_string_in, defBody s_string_in, defScope s_string_in, [], []⟩
def dd_held_in : He.DefD := ⟨("held_in", none), "held_in", "held_in", defArgs s_held_in, defBody s_held_in, defScope s_held_in, [], []⟩
def dd_Line___init__ : He.DefD := ⟨("Line", some "__init__"), "__init__", "Line.__init__", defArgs s_Line___init__, defBody s_Line___init__, defScope s_Line___init__, [.int 0], []⟩
def dd_Line_is_over : He.DefD := ⟨("Line", some "is_over"), "is_over", "Line.is_over", defArgs s_Line_is_over, defBody s_Line_is_over, defScope s_Line_is_over, [], []⟩
def dd_Line_take_word : He.DefD := ⟨("Line", some "take_word"), "take_word", "Line.take_word", defArgs s_Line_take_word, defBody s_Line_take_word, defScope s_Line_take_word, [], []⟩
def dd_Line_take_link : He.DefD := ⟨("Line", some "take_link"), "take_link", "Line.take_link", defArgs s_Line_take_link, defBody s_Line_take_link, defScope s_Line_take_link, [], []⟩
def dd_Line_take_rest : He.DefD := ⟨("Line", some "take_rest"), "take_rest", "Line.take_rest", defArgs s_Line_take_rest, defBody s_Line_take_rest, defScope s_Line_take_rest, [], []⟩
def dd_Line_finished : He.DefD := ⟨("Line", some "finished"), "finished", "Line.finished", defArgs s_Line_finished, defBody s_Line_finished, defScope s_Line_finished, [], []⟩
def dd_leaf_image_in : He.DefD := ⟨("leaf_image_in", none), "leaf_image_in", "leaf_image_in", defArgs s_leaf_image_in, defBody s_leaf_image_in, defScope s_leaf_image_in, [], []⟩
def dd_inner_image_in : He.DefD := ⟨("inner_image_in", none), "inner_image_in", "inner_image_in", defArgs s_inner_image_in, defBody s_inner_image_in, defScope s_inner_image_in, [], []⟩
def dd_image_in : He.DefD := ⟨("image_in", none), "image_in", "image_in", defArgs s_image_in, defBody s_image_in, defScope s_image_in, [], []⟩
def dd_read_file : He.DefD := ⟨("read_file", none), "read_file", "read_file", defArgs s_read_file, defBody s_read_file, defScope s_read_file, [], []⟩
def dd_show_numbers : He.DefD := ⟨("show_numbers", none), "show_numbers", "show_numbers", defArgs s_show_numbers, defBody s_show_numbers, defScope s_show_numbers, [], []⟩
def dd_show_string : He.DefD := ⟨("show_string", none), "show_string", "show_string", defArgs s_show_string, defBody s_show_string, defScope s_show_string, [], []⟩
def dd_show_held : He.DefD := ⟨("show_held", none), "show_held", "show_held", defArgs s_show_held, defBody s_show_held, defScope s_show_held, [], []⟩
def dd_show_link : He.DefD := ⟨("show_link", none), "show_link", "show_link", defArgs s_show_link, defBody s_show_link, defScope s_show_link, [], []⟩
def dd_show_leaf : He.DefD := ⟨("show_leaf", none), "show_leaf", "show_leaf", defArgs s_show_leaf, defBody s_show_leaf, defScope s_show_leaf, [], []⟩
def dd_show_inner : He.DefD := ⟨("show_inner", none), "show_inner", "show_inner", defArgs s_show_inner, defBody s_show_inner, defScope s_show_inner, [], []⟩
def dd_show_image : He.DefD := ⟨("show_image", none), "show_image", "show_image", defArgs s_show_image, defBody s_show_image, defScope s_show_image, [], []⟩
def dd_show_file : He.DefD := ⟨("show_file", none), "show_file", "show_file", defArgs s_show_file, defBody s_show_file, defScope s_show_file, [], []⟩
def dd__law_source : He.DefD := ⟨("_law_source", none), "_law_source", "_law_source", defArgs s__law_source, defBody s__law_source, defScope s__law_source, [], []⟩
def dd__law_draw : He.DefD := ⟨("_law_draw", none), "_law_draw", "_law_draw", defArgs s__law_draw, defBody s__law_draw, defScope s__law_draw, [], []⟩
def dd__law_pick : He.DefD := ⟨("_law_pick", none), "_law_pick", "_law_pick", defArgs s__law_pick, defBody s__law_pick, defScope s__law_pick, [], []⟩
def dd__law_number : He.DefD := ⟨("_law_number", none), "_law_number", "_law_number", defArgs s__law_number, defBody s__law_number, defScope s__law_number, [], []⟩
def dd__law_is_key : He.DefD := ⟨("_law_is_key", none), "_law_is_key", "_law_is_key", defArgs s__law_is_key, defBody s__law_is_key, defScope s__law_is_key, [], []⟩
def dd__law_is_string : He.DefD := ⟨("_law_is_string", none), "_law_is_string", "_law_is_string", defArgs s__law_is_string, defBody s__law_is_string, defScope s__law_is_string, [], []⟩
def dd__law_is_held : He.DefD := ⟨("_law_is_held", none), "_law_is_held", "_law_is_held", defArgs s__law_is_held, defBody s__law_is_held, defScope s__law_is_held, [], []⟩
def dd__law_fits : He.DefD := ⟨("_law_fits", none), "_law_fits", "_law_fits", defArgs s__law_fits, defBody s__law_fits, defScope s__law_fits, [], []⟩
def dd__law_slot : He.DefD := ⟨("_law_slot", none), "_law_slot", "_law_slot", defArgs s__law_slot, defBody s__law_slot, defScope s__law_slot, [], []⟩
def dd__law_image_wrong : He.DefD := ⟨("_law_image_wrong", none), "_law_image_wrong", "_law_image_wrong", defArgs s__law_image_wrong, defBody s__law_image_wrong, defScope s__law_image_wrong, [], []⟩
def dd__law_file_wrong : He.DefD := ⟨("_law_file_wrong", none), "_law_file_wrong", "_law_file_wrong", defArgs s__law_file_wrong, defBody s__law_file_wrong, defScope s__law_file_wrong, [], []⟩
def dd__law_images : He.DefD := ⟨("_law_images", none), "_law_images", "_law_images", defArgs s__law_images, defBody s__law_images, defScope s__law_images, [], []⟩
def dd__law_bent : He.DefD := ⟨("_law_bent", none), "_law_bent", "_law_bent", defArgs s__law_bent, defBody s__law_bent, defScope s__law_bent, [], []⟩
def dd__law_told : He.DefD := ⟨("_law_told", none), "_law_told", "_law_told", defArgs s__law_told, defBody s__law_told, defScope s__law_told, [], []⟩
def dd__law_due : He.DefD := ⟨("_law_due", none), "_law_due", "_law_due", defArgs s__law_due, defBody s__law_due, defScope s__law_due, [], []⟩
def dd_law : He.DefD := ⟨("law", none), "law", "law", defArgs s_law, defBody s_law, defScope s_law, [], []⟩
abbrev s_word_of : Stmt := top 16
def dd_word_of : He.DefD := ⟨("word_of", none), "word_of", "word_of", defArgs s_word_of, defBody s_word_of, defScope s_word_of, [], []⟩
def fnL0 : List He.DefD := [dd_lines_in, dd_number_in, dd_key_in, dd_need_word, dd_string_in, dd_held_in, dd_Line___init__, dd_Line_is_over, dd_Line_take_word, dd_Line_take_link, dd_Line_take_rest, dd_Line_finished, dd_leaf_image_in, dd_inner_image_in, dd_image_in, dd_read_file, dd_show_numbers, dd_show_string, dd_show_held, dd_show_link]
def fnL1 : List He.DefD := [dd_show_leaf, dd_show_inner, dd_show_image, dd_show_file, dd__law_source, dd__law_draw, dd__law_pick, dd__law_number, dd__law_is_key, dd__law_is_string, dd__law_is_held, dd__law_fits, dd__law_slot, dd__law_image_wrong, dd__law_file_wrong, dd__law_images, dd__law_bent, dd__law_told, dd__law_due, dd_law]
def fnL2 : List He.DefD := [dd_word_of]
def fnL : List He.DefD := fnL0 ++ fnL1 ++ fnL2
def adK (K : PySem.W.Frag) : Ad := { a_ESCAPED := He.ga K "ESCAPED", c_InvalidText := He.ga K "InvalidText", c_Line := He.ga K "Line", f_held_in := He.ga K "held_in", f_key_in := He.ga K "key_in", f_number_in := He.ga K "number_in", f_string_in := He.ga K "string_in", f_word_of := He.ga K "word_of", i_InvalidText := He.ma K (He.ga K "InvalidText") "__init__", tL := (He.cT K ("word_of", none)).2 }
def exL (K : PySem.W.Frag) : Bool := He.valsB K (He.ga K "ESCAPED") (kv_ESCAPED.map fun q => (q.1, He.Dv.str q.2)) && (xfB K (He.ga K "InvalidText") && (true))
theorem sc_word_of : FnScope ["known"] ["known"] (defScope s_word_of) := ⟨rfl, rfl, rfl, by decide +kernel, rfl, by decide +kernel, by decide +kernel⟩
def lamPos : Pos := match lamS with | .Return (some (.Lambda _ _ _ p)) _ => p | _ => ⟨0, 0, 0, 0⟩
def retPos : Pos := match lamS with | .Return _ p => p | _ => ⟨0, 0, 0, 0⟩
def faL0 : List He.Fa := [.free "super", .glo "InvalidText", .glo "held_in", .glo "key_in", .glo "number_in", .glo "string_in", .glo "word_of", .cls "Line", .keep "word_of", .free "abs", .free "all", .free "enumerate", .free "int", .free "isinstance", .free "len", .free "list", .free "range", .free "repr", .free "str", .free "tuple", .free "zip", .noat "Line" "at", .noat "Line" "line", .noat "Line" "words", .str "DIGITS" "0123456789", .glo "ESCAPED", .int "MOST_DIGITS" 15, .str "NOTHING_reader" "-", .str "NOTHING_texts" "-", .noat "InvalidText" "line"]
def faL1 : List He.Fa := [.noat "InvalidText" "word", .glo "lines_in", .exm "InvalidText" "InvalidText" true, .glo "need_word", .mkr "Line", .glo "Line", .meth "Line" "is_over", .meth "Line" "take_word", .meth "Line" "take_link", .meth "Line" "take_rest", .meth "Line" "finished", .glo "leaf_image_in", .glo "inner_image_in", .glo "image_in", .glo "read_file", .glo "show_numbers", .glo "show_string", .glo "show_held", .glo "show_link", .glo "show_leaf", .glo "show_inner", .glo "show_image", .glo "show_file", .glo "_law_source", .glo "_law_draw", .glo "_law_pick", .glo "_law_number", .glo "_law_is_key", .glo "_law_is_string", .glo "_law_is_held"]
def faL2 : List He.Fa := [.glo "_law_fits", .glo "_law_slot", .glo "_law_image_wrong", .glo "_law_file_wrong", .glo "_law_images", .glo "_law_bent", .glo "_law_told", .glo "_law_due", .glo "law"]
def faL : List He.Fa := faL0 ++ faL1 ++ faL2
theorem tab_eq {w : World} {K : PySem.W.Frag} {h : Heap} (c : DLH.SaysH faL fnL tsL tfL esL mfL exL w h K) (i : Nat) {t : He.Tab} (ht : tsL[i]? = some t := by rfl) : He.dicW K (t.1 K) = some (He.keysIn w.params t.2) := by
  have e : tsL.map (fun t => He.dicW K (t.1 K)) = tsL.map fun t => some (He.keysIn w.params t.2) := congrArg (fun z : He.AlT => z.2) c.t
  have e2 : (tsL.map fun t => He.dicW K (t.1 K))[i]? = (tsL.map fun t => some (He.keysIn w.params t.2))[i]? := by rw [e]
  rw [List.getElem?_map, List.getElem?_map, ht] at e2
  exact Option.some.inj e2
theorem lt_ok : LW.LTxt lpL lbL lsL :=
  ⟨⟨_, _, _, _, _, _, _, rfl⟩, rfl, rfl, rfl, rfl, rfl, by decide +kernel, by decide +kernel, fun c => rfl, fun q cl pm cv ctv u => rfl, fun env => rfl⟩
theorem wo_ok {w : World} {K : PySem.W.Frag} {h : Heap} {mg : Str → Option Value} {base : Heap} (c : DLH.SaysH faL fnL tsL tfL esL mfL exL w h K) (X : K.In h) (TB : ∀ p ∈ tfL.map (He.cT K), LamX.TabB base mg p.1 p.2) : LamFn PP w K mg base (adK K) := by
  obtain ⟨fd, FDx⟩ := c.t.d.def_ 40 (d := dd_word_of) rfl
  have FD : FunD K "word_of" "word_of" (defArgs s_word_of) (defBody s_word_of) (defScope s_word_of) [] [] (He.ga K "word_of") fd := FDx
  obtain ⟨oc, od, dV, kV, doc, pm, an, cdv, ct, osl, rfl, lk, hcd, hD, _⟩ := FD.ex
  obtain ⟨cc, rfl⟩ := He.codeIn_ref hcd
  have ec : He.codeOf K ("word_of", none) = cc := He.codeOf_eq lk rfl
  have tb := TB (He.cT K ("word_of", none)) (by simp [tfL])
  have tb2 : LamX.TabB base mg cc (adK K).tL := by rw [← ec]; exact tb
  rcases hD with ⟨_, rfl⟩ | ⟨e, _⟩
  · exact LW.wordof_fn (k := 1) (lpos := lamPos) (rpos := retPos) lk hcd sc_word_of rfl (fun rest => match rest with | [] => rfl | _ :: _ => rfl) lt_ok tb2 rfl
  · exact absurd rfl e
theorem gx_ok {w : World} {K : PySem.W.Frag} {h : Heap} {mg : Str → Option Value} {base : Heap} (c : DLH.SaysH faL fnL tsL tfL esL mfL exL w h K) (X : K.In h) (GN : h.Ns mainGlobals mg) (TB : ∀ p ∈ tfL.map (He.cT K), LamX.TabB base mg p.1 p.2) : Gx PP w K mg base (adK K) where
  e_InvalidText := DLH.err_txt (P := PP) (d := ed_InvalidText) (c.errs ed_InvalidText (by simp [esL])).2 (c.errs ed_InvalidText (by simp [esL])).1 PySem.F.excBase_ValueError PySem.F.store_ValueError PySem.W.kxs_ValueError it_InvalidText (He.free_ok X GN (c.t.d.fact 0 (f := .free "super") rfl)) (by rfl)
  g_InvalidText := He.glo_ok X GN (c.t.d.fact 1 (f := .glo "InvalidText") rfl)
  h_held_in := He.glo_ok X GN (c.t.d.fact 2 (f := .glo "held_in") rfl)
  h_key_in := He.glo_ok X GN (c.t.d.fact 3 (f := .glo "key_in") rfl)
  h_number_in := He.glo_ok X GN (c.t.d.fact 4 (f := .glo "number_in") rfl)
  h_string_in := He.glo_ok X GN (c.t.d.fact 5 (f := .glo "string_in") rfl)
  h_word_of := He.glo_ok X GN (c.t.d.fact 6 (f := .glo "word_of") rfl)
  k_Line := He.cls_ok (c.t.d.fact 7 (f := .cls "Line") rfl)
  kp_word_of := He.keep_ok (c.t.d.fact 8 (f := .keep "word_of") rfl)
  lt := lt_ok
  n_abs := He.free_ok X GN (c.t.d.fact 9 (f := .free "abs") rfl)
  n_all := He.free_ok X GN (c.t.d.fact 10 (f := .free "all") rfl)
  n_enumerate := He.free_ok X GN (c.t.d.fact 11 (f := .free "enumerate") rfl)
  n_int := He.free_ok X GN (c.t.d.fact 12 (f := .free "int") rfl)
  n_isinstance := He.free_ok X GN (c.t.d.fact 13 (f := .free "isinstance") rfl)
  n_len := He.free_ok X GN (c.t.d.fact 14 (f := .free "len") rfl)
  n_list := He.free_ok X GN (c.t.d.fact 15 (f := .free "list") rfl)
  n_range := He.free_ok X GN (c.t.d.fact 16 (f := .free "range") rfl)
  n_repr := He.free_ok X GN (c.t.d.fact 17 (f := .free "repr") rfl)
  n_str := He.free_ok X GN (c.t.d.fact 18 (f := .free "str") rfl)
  n_tuple := He.free_ok X GN (c.t.d.fact 19 (f := .free "tuple") rfl)
  n_zip := He.free_ok X GN (c.t.d.fact 20 (f := .free "zip") rfl)
  na_Line_at := He.noat_ok (c.t.d.fact 21 (f := .noat "Line" "at") rfl)
  na_Line_line := He.noat_ok (c.t.d.fact 22 (f := .noat "Line" "line") rfl)
  na_Line_words := He.noat_ok (c.t.d.fact 23 (f := .noat "Line" "words") rfl)
  t_ESCAPED := DLH.ktab_of (kvs := kv_ESCAPED) (tab_eq c 0) (He.ba c.more).1
  v_DIGITS := He.str_ok X GN (c.t.d.fact 24 (f := .str "DIGITS" "0123456789") rfl)
  v_ESCAPED := He.glo_ok X GN (c.t.d.fact 25 (f := .glo "ESCAPED") rfl)
  v_MOST_DIGITS := He.int_ok X GN (c.t.d.fact 26 (f := .int "MOST_DIGITS" 15) rfl)
  v_NOTHING_reader := He.str_ok X GN (c.t.d.fact 27 (f := .str "NOTHING_reader" "-") rfl)
  v_NOTHING_texts := He.str_ok X GN (c.t.d.fact 28 (f := .str "NOTHING_texts" "-") rfl)
  wo := wo_ok c X TB
  x_InvalidText := xfB_ok (He.ba (He.ba c.more).2).1
  xn_InvalidText_line := He.noat_ok (c.t.d.fact 29 (f := .noat "InvalidText" "line") rfl)
  xn_InvalidText_word := He.noat_ok (c.t.d.fact 30 (f := .noat "InvalidText" "word") rfl)
theorem chain {w : World} {K : PySem.W.Frag} {h : Heap} {mg : Str → Option Value} {base : Heap} (c : DLH.SaysH faL fnL tsL tfL esL mfL exL w h K) (X : K.In h) (GN : h.Ns mainGlobals mg) (TB : ∀ p ∈ tfL.map (He.cT K), LamX.TabB base mg p.1 p.2) :
    ∃ fd, FunD K "law" "law" (defArgs s_law) (defBody s_law) (defScope s_law) [] [] (He.ga K "law") fd ∧ FnG PP w K mg base 12 (He.ga K "law") fd ["script"] (toSp K 1 (spLaw (adK K))) := by
  have G := gx_ok c X GN TB
  obtain ⟨fd_lines_in, FDx_lines_in⟩ := c.t.d.def_ 0 (d := dd_lines_in) rfl
  have FD_lines_in : FunD K "lines_in" "lines_in" (defArgs s_lines_in) (defBody s_lines_in) (defScope s_lines_in) [] [] (He.ga K "lines_in") fd_lines_in := FDx_lines_in
  have GG_lines_in : FnG PP w K mg base 2 (He.ga K "lines_in") fd_lines_in ["text"] (toSp K 1 (spLines (adK K))) := fn_lines_in G FD_lines_in (fun ds w2 E Q _ hs => pure_lines ds w2 E Q hs)
  have F_lines_in : FnD PP w K mg base 2 "lines_in" 1 (spLines (adK K)) [] := DLH.fnd0 GG_lines_in (He.glo_ok X GN (c.t.d.fact 31 (f := .glo "lines_in") rfl)) FD_lines_in.kp (FD_lines_in.bindsN fun _ _ _ _ _ _ us hl => match us, hl with | [_], _ => rfl)
  obtain ⟨fd_number_in, FDx_number_in⟩ := c.t.d.def_ 1 (d := dd_number_in) rfl
  have FD_number_in : FunD K "number_in" "number_in" (defArgs s_number_in) (defBody s_number_in) (defScope s_number_in) [] [] (He.ga K "number_in") fd_number_in := FDx_number_in
  have GG_number_in : FnG PP w K mg base 2 (He.ga K "number_in") fd_number_in ["word"] (toSp K 1 (spNum)) := fn_number_in G FD_number_in (fun ds w2 E Q _ hs => pure_number_in (a := adK K) ds w2 E Q hs)
  have F_number_in : FnD PP w K mg base 2 "number_in" 1 (spNum) [] := DLH.fnd0 GG_number_in (He.glo_ok X GN (c.t.d.fact 4 (f := .glo "number_in") rfl)) FD_number_in.kp (FD_number_in.bindsN fun _ _ _ _ _ _ us hl => match us, hl with | [_], _ => rfl)
  have hN : RdN PP w K mg base (adK K).f_number_in numR := ⟨spNum, ⟨fd_number_in, _, GG_number_in.mono (by decide), FD_number_in.kp, (FD_number_in.bindsN fun _ _ _ _ _ _ us hl => match us, hl with | [_], _ => rfl)⟩, fun x w E Q hx q => ⟨x, rfl, hx, q⟩⟩
  obtain ⟨fd_key_in, FDx_key_in⟩ := c.t.d.def_ 2 (d := dd_key_in) rfl
  have FD_key_in : FunD K "key_in" "key_in" (defArgs s_key_in) (defBody s_key_in) (defScope s_key_in) [] [] (He.ga K "key_in") fd_key_in := FDx_key_in
  have GG_key_in : FnG PP w K mg base 3 (He.ga K "key_in") fd_key_in ["word"] (toSp K 1 (spF1 keyR)) := fn_key_in G F_number_in FD_key_in (fun ds w2 E Q _ hs => pure_key_in ds w2 E Q hs)
  have F_key_in : FnD PP w K mg base 3 "key_in" 1 (spF1 keyR) [] := DLH.fnd0 GG_key_in (He.glo_ok X GN (c.t.d.fact 3 (f := .glo "key_in") rfl)) FD_key_in.kp (FD_key_in.bindsN fun _ _ _ _ _ _ us hl => match us, hl with | [_], _ => rfl)
  have hK : RdN PP w K mg base (adK K).f_key_in keyR := ⟨spF1 keyR, ⟨fd_key_in, _, GG_key_in.mono (by decide), FD_key_in.kp, (FD_key_in.bindsN fun _ _ _ _ _ _ us hl => match us, hl with | [_], _ => rfl)⟩, fun x w E Q hx q => ⟨x, rfl, hx, q⟩⟩
  obtain ⟨fd_need_word, FDx_need_word⟩ := c.t.d.def_ 3 (d := dd_need_word) rfl
  have FD_need_word : FunD K "need_word" "need_word" (defArgs s_need_word) (defBody s_need_word) (defScope s_need_word) [] [] (He.ga K "need_word") fd_need_word := FDx_need_word
  have GG_need_word : FnG PP w K mg base 2 (He.ga K "need_word") fd_need_word ["is_right", "line", "word"] (toSp K 3 (spNeed (adK K))) := fn_need_word G FD_need_word (fun ds w2 E Q _ hs => pure_need_word ds w2 E Q hs)
  have F_need_word : FnD PP w K mg base 2 "need_word" 3 (spNeed (adK K)) [] := DLH.fnd0 GG_need_word (He.glo_ok X GN (c.t.d.fact 33 (f := .glo "need_word") rfl)) FD_need_word.kp (FD_need_word.bindsN fun _ _ _ _ _ _ us hl => match us, hl with | [_, _, _], _ => rfl)
  obtain ⟨fd_string_in, FDx_string_in⟩ := c.t.d.def_ 4 (d := dd_string_in) rfl
  have FD_string_in : FunD K "string_in" "string_in" (defArgs s_string_in) (defBody s_string_in) (defScope s_string_in) [] [] (He.ga K "string_in") fd_string_in := FDx_string_in
  have GG_string_in : FnG PP w K mg base 2 (He.ga K "string_in") fd_string_in ["word"] (toSp K 1 (spF1 strR)) := fn_string_in G FD_string_in (fun ds w2 E Q _ hs => pure_string_in ds w2 E Q hs)
  have F_string_in : FnD PP w K mg base 2 "string_in" 1 (spF1 strR) [] := DLH.fnd0 GG_string_in (He.glo_ok X GN (c.t.d.fact 5 (f := .glo "string_in") rfl)) FD_string_in.kp (FD_string_in.bindsN fun _ _ _ _ _ _ us hl => match us, hl with | [_], _ => rfl)
  have hS : RdN PP w K mg base (adK K).f_string_in strR := ⟨spF1 strR, ⟨fd_string_in, _, GG_string_in.mono (by decide), FD_string_in.kp, (FD_string_in.bindsN fun _ _ _ _ _ _ us hl => match us, hl with | [_], _ => rfl)⟩, fun x w E Q hx q => ⟨x, rfl, hx, q⟩⟩
  obtain ⟨fd_held_in, FDx_held_in⟩ := c.t.d.def_ 5 (d := dd_held_in) rfl
  have FD_held_in : FunD K "held_in" "held_in" (defArgs s_held_in) (defBody s_held_in) (defScope s_held_in) [] [] (He.ga K "held_in") fd_held_in := FDx_held_in
  have GG_held_in : FnG PP w K mg base 3 (He.ga K "held_in") fd_held_in ["word"] (toSp K 1 (spF1 heldR)) := fn_held_in G F_number_in F_string_in FD_held_in (fun ds w2 E Q _ hs => pure_held_in ds w2 E Q hs)
  have F_held_in : FnD PP w K mg base 3 "held_in" 1 (spF1 heldR) [] := DLH.fnd0 GG_held_in (He.glo_ok X GN (c.t.d.fact 2 (f := .glo "held_in") rfl)) FD_held_in.kp (FD_held_in.bindsN fun _ _ _ _ _ _ us hl => match us, hl with | [_], _ => rfl)
  have hH : RdN PP w K mg base (adK K).f_held_in heldR := ⟨spF1 heldR, ⟨fd_held_in, _, GG_held_in.mono (by decide), FD_held_in.kp, (FD_held_in.bindsN fun _ _ _ _ _ _ us hl => match us, hl with | [_], _ => rfl)⟩, fun x w E Q hx q => ⟨x, rfl, hx, q⟩⟩
  obtain ⟨fd_Line___init__, FDx_Line___init__⟩ := c.t.d.def_ 6 (d := dd_Line___init__) rfl
  have FD_Line___init__ : FunD K "__init__" "Line.__init__" (defArgs s_Line___init__) (defBody s_Line___init__) (defScope s_Line___init__) [.int 0] [] (He.ma K (He.ga K "Line") "__init__") fd_Line___init__ := FDx_Line___init__
  have GG_Line___init__ : FnG PP w K mg base 2 (He.ma K (He.ga K "Line") "__init__") fd_Line___init__ ["self", "words", "line", "start"] (toSp K 4 (spInit (adK K))) := fn_Line___init__ G FD_Line___init__ (fun ds w2 E Q _ hs => pure_init ds w2 E Q hs)
  have F_Line___init__ : MkD PP w K mg base 2 (He.ga K "Line") "Line" 4 (spInit (adK K)) [.int 0] := DLH.mkd1 GG_Line___init__ (He.mkr_ok (c.t.d.fact 34 (f := .mkr "Line") rfl)) (He.glo_ok X GN (c.t.d.fact 35 (f := .glo "Line") rfl)) (FD_Line___init__.binds1 3 0 (by simp) rfl fun _ _ _ _ _ _ _ us its hu hi => match us, hu, its, hi with | [_, _, _], _, [_], _ => ⟨_, rfl, rfl⟩) (fun F => DenL.cons (den_int) (DenL.nil))
  obtain ⟨fd_Line_is_over, FDx_Line_is_over⟩ := c.t.d.def_ 7 (d := dd_Line_is_over) rfl
  have FD_Line_is_over : FunD K "is_over" "Line.is_over" (defArgs s_Line_is_over) (defBody s_Line_is_over) (defScope s_Line_is_over) [] [] (He.ma K (He.ga K "Line") "is_over") fd_Line_is_over := FDx_Line_is_over
  have GG_Line_is_over : FnG PP w K mg base 2 (He.ma K (He.ga K "Line") "is_over") fd_Line_is_over ["self"] (toSp K 1 (spOver (adK K))) := fn_Line_is_over G FD_Line_is_over (fun ds w2 E Q _ hs => pure_over ds w2 E Q hs)
  have F_Line_is_over : MtD PP w K mg base 2 (He.ga K "Line") "is_over" 1 (spOver (adK K)) [] := DLH.mtd0 GG_Line_is_over (He.cls_ok (c.t.d.fact 7 (f := .cls "Line") rfl)) (He.meth_ok (c.t.d.fact 36 (f := .meth "Line" "is_over") rfl)) (FD_Line_is_over.bindsN fun _ _ _ _ _ _ us hl => match us, hl with | [_], _ => rfl)
  obtain ⟨fd_Line_take_word, FDx_Line_take_word⟩ := c.t.d.def_ 8 (d := dd_Line_take_word) rfl
  have FD_Line_take_word : FunD K "take_word" "Line.take_word" (defArgs s_Line_take_word) (defBody s_Line_take_word) (defScope s_Line_take_word) [] [] (He.ma K (He.ga K "Line") "take_word") fd_Line_take_word := FDx_Line_take_word
  have GG_Line_take_word : FnG PP w K mg base 6 (He.ma K (He.ga K "Line") "take_word") fd_Line_take_word ["self", "read"] (toSp K 2 (spTake PP w K mg base (adK K))) := fn_Line_take_word G F_Line_is_over F_need_word FD_Line_take_word (fun ds w2 E Q _ hs => pure_take ds w2 E Q hs)
  have F_Line_take_word : MtD PP w K mg base 6 (He.ga K "Line") "take_word" 2 (spTake PP w K mg base (adK K)) [] := DLH.mtd0 GG_Line_take_word (He.cls_ok (c.t.d.fact 7 (f := .cls "Line") rfl)) (He.meth_ok (c.t.d.fact 37 (f := .meth "Line" "take_word") rfl)) (FD_Line_take_word.bindsN fun _ _ _ _ _ _ us hl => match us, hl with | [_, _], _ => rfl)
  obtain ⟨fd_Line_take_link, FDx_Line_take_link⟩ := c.t.d.def_ 9 (d := dd_Line_take_link) rfl
  have FD_Line_take_link : FunD K "take_link" "Line.take_link" (defArgs s_Line_take_link) (defBody s_Line_take_link) (defScope s_Line_take_link) [] [] (He.ma K (He.ga K "Line") "take_link") fd_Line_take_link := FDx_Line_take_link
  have GG_Line_take_link : FnG PP w K mg base 7 (He.ma K (He.ga K "Line") "take_link") fd_Line_take_link ["self"] (toSp K 1 (spLink (adK K))) := fn_Line_take_link G F_Line_is_over F_Line_take_word FD_Line_take_link (fun ds w2 E Q _ hs => pure_link hN ds w2 E Q hs)
  have F_Line_take_link : MtD PP w K mg base 7 (He.ga K "Line") "take_link" 1 (spLink (adK K)) [] := DLH.mtd0 GG_Line_take_link (He.cls_ok (c.t.d.fact 7 (f := .cls "Line") rfl)) (He.meth_ok (c.t.d.fact 38 (f := .meth "Line" "take_link") rfl)) (FD_Line_take_link.bindsN fun _ _ _ _ _ _ us hl => match us, hl with | [_], _ => rfl)
  obtain ⟨fd_Line_take_rest, FDx_Line_take_rest⟩ := c.t.d.def_ 10 (d := dd_Line_take_rest) rfl
  have FD_Line_take_rest : FunD K "take_rest" "Line.take_rest" (defArgs s_Line_take_rest) (defBody s_Line_take_rest) (defScope s_Line_take_rest) [] [] (He.ma K (He.ga K "Line") "take_rest") fd_Line_take_rest := FDx_Line_take_rest
  have GG_Line_take_rest : FnG PP w K mg base 7 (He.ma K (He.ga K "Line") "take_rest") fd_Line_take_rest ["self", "read"] (toSp K 2 (spRest PP w K mg base (adK K))) := fn_Line_take_rest G F_Line_is_over F_Line_take_word FD_Line_take_rest (fun ds w2 E Q _ hs => pure_rest ds w2 E Q hs)
  have F_Line_take_rest : MtD PP w K mg base 7 (He.ga K "Line") "take_rest" 2 (spRest PP w K mg base (adK K)) [] := DLH.mtd0 GG_Line_take_rest (He.cls_ok (c.t.d.fact 7 (f := .cls "Line") rfl)) (He.meth_ok (c.t.d.fact 39 (f := .meth "Line" "take_rest") rfl)) (FD_Line_take_rest.bindsN fun _ _ _ _ _ _ us hl => match us, hl with | [_, _], _ => rfl)
  obtain ⟨fd_Line_finished, FDx_Line_finished⟩ := c.t.d.def_ 11 (d := dd_Line_finished) rfl
  have FD_Line_finished : FunD K "finished" "Line.finished" (defArgs s_Line_finished) (defBody s_Line_finished) (defScope s_Line_finished) [] [] (He.ma K (He.ga K "Line") "finished") fd_Line_finished := FDx_Line_finished
  have GG_Line_finished : FnG PP w K mg base 3 (He.ma K (He.ga K "Line") "finished") fd_Line_finished ["self", "found"] (toSp K 2 (spFin (adK K))) := fn_Line_finished G F_Line_is_over F_need_word FD_Line_finished (fun ds w2 E Q _ hs => pure_fin ds w2 E Q hs)
  have F_Line_finished : MtD PP w K mg base 3 (He.ga K "Line") "finished" 2 (spFin (adK K)) [] := DLH.mtd0 GG_Line_finished (He.cls_ok (c.t.d.fact 7 (f := .cls "Line") rfl)) (He.meth_ok (c.t.d.fact 40 (f := .meth "Line" "finished") rfl)) (FD_Line_finished.bindsN fun _ _ _ _ _ _ us hl => match us, hl with | [_, _], _ => rfl)
  obtain ⟨fd_leaf_image_in, FDx_leaf_image_in⟩ := c.t.d.def_ 12 (d := dd_leaf_image_in) rfl
  have FD_leaf_image_in : FunD K "leaf_image_in" "leaf_image_in" (defArgs s_leaf_image_in) (defBody s_leaf_image_in) (defScope s_leaf_image_in) [] [] (He.ga K "leaf_image_in") fd_leaf_image_in := FDx_leaf_image_in
  have GG_leaf_image_in : FnG PP w K mg base 8 (He.ga K "leaf_image_in") fd_leaf_image_in ["line"] (toSp K 1 (spBody (adK K) .leaf)) := fn_leaf_image_in G F_Line_is_over F_Line_take_link F_Line_take_word FD_leaf_image_in (fun ds w2 E Q _ hs => pure_leaf hK hH ds w2 E Q hs)
  have F_leaf_image_in : FnD PP w K mg base 8 "leaf_image_in" 1 (spBody (adK K) .leaf) [] := DLH.fnd0 GG_leaf_image_in (He.glo_ok X GN (c.t.d.fact 41 (f := .glo "leaf_image_in") rfl)) FD_leaf_image_in.kp (FD_leaf_image_in.bindsN fun _ _ _ _ _ _ us hl => match us, hl with | [_], _ => rfl)
  obtain ⟨fd_inner_image_in, FDx_inner_image_in⟩ := c.t.d.def_ 13 (d := dd_inner_image_in) rfl
  have FD_inner_image_in : FunD K "inner_image_in" "inner_image_in" (defArgs s_inner_image_in) (defBody s_inner_image_in) (defScope s_inner_image_in) [] [] (He.ga K "inner_image_in") fd_inner_image_in := FDx_inner_image_in
  have GG_inner_image_in : FnG PP w K mg base 7 (He.ga K "inner_image_in") fd_inner_image_in ["line"] (toSp K 1 (spBody (adK K) .inner)) := fn_inner_image_in G F_Line_is_over F_Line_take_word FD_inner_image_in (fun ds w2 E Q _ hs => pure_inner hN hK ds w2 E Q hs)
  have F_inner_image_in : FnD PP w K mg base 7 "inner_image_in" 1 (spBody (adK K) .inner) [] := DLH.fnd0 GG_inner_image_in (He.glo_ok X GN (c.t.d.fact 42 (f := .glo "inner_image_in") rfl)) FD_inner_image_in.kp (FD_inner_image_in.bindsN fun _ _ _ _ _ _ us hl => match us, hl with | [_], _ => rfl)
  obtain ⟨fd_image_in, FDx_image_in⟩ := c.t.d.def_ 14 (d := dd_image_in) rfl
  have FD_image_in : FunD K "image_in" "image_in" (defArgs s_image_in) (defBody s_image_in) (defScope s_image_in) [] [] (He.ga K "image_in") fd_image_in := FDx_image_in
  have GG_image_in : FnG PP w K mg base 9 (He.ga K "image_in") fd_image_in ["line"] (toSp K 1 (spImg (adK K))) := fn_image_in G F_Line_finished F_Line_take_link F_Line_take_rest F_Line_take_word F_inner_image_in F_leaf_image_in FD_image_in (fun ds w2 E Q _ hs => pure_image hN hS ds w2 E Q hs)
  have F_image_in : FnD PP w K mg base 9 "image_in" 1 (spImg (adK K)) [] := DLH.fnd0 GG_image_in (He.glo_ok X GN (c.t.d.fact 43 (f := .glo "image_in") rfl)) FD_image_in.kp (FD_image_in.bindsN fun _ _ _ _ _ _ us hl => match us, hl with | [_], _ => rfl)
  obtain ⟨fd_read_file, FDx_read_file⟩ := c.t.d.def_ 15 (d := dd_read_file) rfl
  have FD_read_file : FunD K "read_file" "read_file" (defArgs s_read_file) (defBody s_read_file) (defScope s_read_file) [] [] (He.ga K "read_file") fd_read_file := FDx_read_file
  have GG_read_file : FnG PP w K mg base 10 (He.ga K "read_file") fd_read_file ["text"] (toSp K 1 (spRead (adK K))) := fn_read_file G F_Line___init__ F_image_in F_lines_in FD_read_file (fun ds w2 E Q _ hs => pure_read ds w2 E Q hs)
  have F_read_file : FnD PP w K mg base 10 "read_file" 1 (spRead (adK K)) [] := DLH.fnd0 GG_read_file (He.glo_ok X GN (c.t.d.fact 44 (f := .glo "read_file") rfl)) FD_read_file.kp (FD_read_file.bindsN fun _ _ _ _ _ _ us hl => match us, hl with | [_], _ => rfl)
  obtain ⟨fd_show_numbers, FDx_show_numbers⟩ := c.t.d.def_ 16 (d := dd_show_numbers) rfl
  have FD_show_numbers : FunD K "show_numbers" "show_numbers" (defArgs s_show_numbers) (defBody s_show_numbers) (defScope s_show_numbers) [] [] (He.ga K "show_numbers") fd_show_numbers := FDx_show_numbers
  have GG_show_numbers : FnG PP w K mg base 2 (He.ga K "show_numbers") fd_show_numbers ["numbers"] (toSp K 1 (spShN)) := fn_show_numbers G FD_show_numbers (fun ds w2 E Q _ hs => pure_show_numbers ds w2 E Q hs)
  have F_show_numbers : FnD PP w K mg base 2 "show_numbers" 1 (spShN) [] := DLH.fnd0 GG_show_numbers (He.glo_ok X GN (c.t.d.fact 45 (f := .glo "show_numbers") rfl)) FD_show_numbers.kp (FD_show_numbers.bindsN fun _ _ _ _ _ _ us hl => match us, hl with | [_], _ => rfl)
  obtain ⟨fd_show_string, FDx_show_string⟩ := c.t.d.def_ 17 (d := dd_show_string) rfl
  have FD_show_string : FunD K "show_string" "show_string" (defArgs s_show_string) (defBody s_show_string) (defScope s_show_string) [] [] (He.ga K "show_string") fd_show_string := FDx_show_string
  have GG_show_string : FnG PP w K mg base 2 (He.ga K "show_string") fd_show_string ["value"] (toSp K 1 (spShS)) := fn_show_string G FD_show_string (fun ds w2 E Q _ hs => pure_show_string ds w2 E Q hs)
  have F_show_string : FnD PP w K mg base 2 "show_string" 1 (spShS) [] := DLH.fnd0 GG_show_string (He.glo_ok X GN (c.t.d.fact 46 (f := .glo "show_string") rfl)) FD_show_string.kp (FD_show_string.bindsN fun _ _ _ _ _ _ us hl => match us, hl with | [_], _ => rfl)
  obtain ⟨fd_show_held, FDx_show_held⟩ := c.t.d.def_ 18 (d := dd_show_held) rfl
  have FD_show_held : FunD K "show_held" "show_held" (defArgs s_show_held) (defBody s_show_held) (defScope s_show_held) [] [] (He.ga K "show_held") fd_show_held := FDx_show_held
  have GG_show_held : FnG PP w K mg base 3 (He.ga K "show_held") fd_show_held ["held"] (toSp K 1 (spShHeld)) := fn_show_held G F_show_string FD_show_held (fun ds w2 E Q _ hs => pure_show_held ds w2 E Q hs)
  have F_show_held : FnD PP w K mg base 3 "show_held" 1 (spShHeld) [] := DLH.fnd0 GG_show_held (He.glo_ok X GN (c.t.d.fact 47 (f := .glo "show_held") rfl)) FD_show_held.kp (FD_show_held.bindsN fun _ _ _ _ _ _ us hl => match us, hl with | [_], _ => rfl)
  obtain ⟨fd_show_link, FDx_show_link⟩ := c.t.d.def_ 19 (d := dd_show_link) rfl
  have FD_show_link : FunD K "show_link" "show_link" (defArgs s_show_link) (defBody s_show_link) (defScope s_show_link) [] [] (He.ga K "show_link") fd_show_link := FDx_show_link
  have GG_show_link : FnG PP w K mg base 2 (He.ga K "show_link") fd_show_link ["number"] (toSp K 1 (spShLink)) := fn_show_link G FD_show_link (fun ds w2 E Q _ hs => pure_show_link ds w2 E Q hs)
  have F_show_link : FnD PP w K mg base 2 "show_link" 1 (spShLink) [] := DLH.fnd0 GG_show_link (He.glo_ok X GN (c.t.d.fact 48 (f := .glo "show_link") rfl)) FD_show_link.kp (FD_show_link.bindsN fun _ _ _ _ _ _ us hl => match us, hl with | [_], _ => rfl)
  obtain ⟨fd_show_leaf, FDx_show_leaf⟩ := c.t.d.def_ 20 (d := dd_show_leaf) rfl
  have FD_show_leaf : FunD K "show_leaf" "show_leaf" (defArgs s_show_leaf) (defBody s_show_leaf) (defScope s_show_leaf) [] [] (He.ga K "show_leaf") fd_show_leaf := FDx_show_leaf
  have GG_show_leaf : FnG PP w K mg base 4 (He.ga K "show_leaf") fd_show_leaf ["image"] (toSp K 1 (spShB .leaf)) := fn_show_leaf G F_show_held F_show_link FD_show_leaf (fun ds w2 E Q _ hs => pure_show_leaf ds w2 E Q hs)
  have F_show_leaf : FnD PP w K mg base 4 "show_leaf" 1 (spShB .leaf) [] := DLH.fnd0 GG_show_leaf (He.glo_ok X GN (c.t.d.fact 49 (f := .glo "show_leaf") rfl)) FD_show_leaf.kp (FD_show_leaf.bindsN fun _ _ _ _ _ _ us hl => match us, hl with | [_], _ => rfl)
  obtain ⟨fd_show_inner, FDx_show_inner⟩ := c.t.d.def_ 21 (d := dd_show_inner) rfl
  have FD_show_inner : FunD K "show_inner" "show_inner" (defArgs s_show_inner) (defBody s_show_inner) (defScope s_show_inner) [] [] (He.ga K "show_inner") fd_show_inner := FDx_show_inner
  have GG_show_inner : FnG PP w K mg base 3 (He.ga K "show_inner") fd_show_inner ["image"] (toSp K 1 (spShB .inner)) := fn_show_inner G F_show_numbers FD_show_inner (fun ds w2 E Q _ hs => pure_show_inner ds w2 E Q hs)
  have F_show_inner : FnD PP w K mg base 3 "show_inner" 1 (spShB .inner) [] := DLH.fnd0 GG_show_inner (He.glo_ok X GN (c.t.d.fact 50 (f := .glo "show_inner") rfl)) FD_show_inner.kp (FD_show_inner.bindsN fun _ _ _ _ _ _ us hl => match us, hl with | [_], _ => rfl)
  obtain ⟨fd_show_image, FDx_show_image⟩ := c.t.d.def_ 22 (d := dd_show_image) rfl
  have FD_show_image : FunD K "show_image" "show_image" (defArgs s_show_image) (defBody s_show_image) (defScope s_show_image) [] [] (He.ga K "show_image") fd_show_image := FDx_show_image
  have GG_show_image : FnG PP w K mg base 5 (He.ga K "show_image") fd_show_image ["image"] (toSp K 1 (spShI)) := fn_show_image G F_show_inner F_show_leaf F_show_link F_show_numbers F_show_string FD_show_image (fun ds w2 E Q _ hs => pure_show_image ds w2 E Q hs)
  have F_show_image : FnD PP w K mg base 5 "show_image" 1 (spShI) [] := DLH.fnd0 GG_show_image (He.glo_ok X GN (c.t.d.fact 51 (f := .glo "show_image") rfl)) FD_show_image.kp (FD_show_image.bindsN fun _ _ _ _ _ _ us hl => match us, hl with | [_], _ => rfl)
  obtain ⟨fd_show_file, FDx_show_file⟩ := c.t.d.def_ 23 (d := dd_show_file) rfl
  have FD_show_file : FunD K "show_file" "show_file" (defArgs s_show_file) (defBody s_show_file) (defScope s_show_file) [] [] (He.ga K "show_file") fd_show_file := FDx_show_file
  have GG_show_file : FnG PP w K mg base 6 (He.ga K "show_file") fd_show_file ["file"] (toSp K 1 (spShF)) := fn_show_file G F_show_image FD_show_file (fun ds w2 E Q _ hs => pure_show_file ds w2 E Q hs)
  have F_show_file : FnD PP w K mg base 6 "show_file" 1 (spShF) [] := DLH.fnd0 GG_show_file (He.glo_ok X GN (c.t.d.fact 52 (f := .glo "show_file") rfl)) FD_show_file.kp (FD_show_file.bindsN fun _ _ _ _ _ _ us hl => match us, hl with | [_], _ => rfl)
  have hx : PySem.W.exmOne K (.ref (adK K).c_InvalidText) (.ref (adK K).c_InvalidText) = some true := He.exm_ok (c.t.d.fact 32 (f := .exm "InvalidText" "InvalidText" true) rfl)
  obtain ⟨fd__law_source, FDx__law_source⟩ := c.t.d.def_ 24 (d := dd__law_source) rfl
  have FD__law_source : FunD K "_law_source" "_law_source" (defArgs s__law_source) (defBody s__law_source) (defScope s__law_source) [] [] (He.ga K "_law_source") fd__law_source := FDx__law_source
  have GG__law_source : FnG PP w K mg base 2 (He.ga K "_law_source") fd__law_source ["script"] (toSp K 1 (spSource)) := fn__law_source G FD__law_source (fun ds w2 E Q _ hs => pure_law_source ds w2 E Q hs)
  have F__law_source : FnD PP w K mg base 2 "_law_source" 1 (spSource) [] := DLH.fnd0 GG__law_source (He.glo_ok X GN (c.t.d.fact 53 (f := .glo "_law_source") rfl)) FD__law_source.kp (FD__law_source.bindsN fun _ _ _ _ _ _ us hl => match us, hl with | [_], _ => rfl)
  obtain ⟨fd__law_draw, FDx__law_draw⟩ := c.t.d.def_ 25 (d := dd__law_draw) rfl
  have FD__law_draw : FunD K "_law_draw" "_law_draw" (defArgs s__law_draw) (defBody s__law_draw) (defScope s__law_draw) [] [] (He.ga K "_law_draw") fd__law_draw := FDx__law_draw
  have GG__law_draw : FnG PP w K mg base 2 (He.ga K "_law_draw") fd__law_draw ["source", "many"] (toSp K 2 (spDraw)) := fn__law_draw G FD__law_draw (fun ds w2 E Q _ hs => pure_law_draw ds w2 E Q hs)
  have F__law_draw : FnD PP w K mg base 2 "_law_draw" 2 (spDraw) [] := DLH.fnd0 GG__law_draw (He.glo_ok X GN (c.t.d.fact 54 (f := .glo "_law_draw") rfl)) FD__law_draw.kp (FD__law_draw.bindsN fun _ _ _ _ _ _ us hl => match us, hl with | [_, _], _ => rfl)
  obtain ⟨fd__law_pick, FDx__law_pick⟩ := c.t.d.def_ 26 (d := dd__law_pick) rfl
  have FD__law_pick : FunD K "_law_pick" "_law_pick" (defArgs s__law_pick) (defBody s__law_pick) (defScope s__law_pick) [] [] (He.ga K "_law_pick") fd__law_pick := FDx__law_pick
  have GG__law_pick : FnG PP w K mg base 3 (He.ga K "_law_pick") fd__law_pick ["source", "some"] (toSp K 2 (spPick)) := fn__law_pick G F__law_draw FD__law_pick (fun ds w2 E Q _ hs => pure_law_pick ds w2 E Q hs)
  have F__law_pick : FnD PP w K mg base 3 "_law_pick" 2 (spPick) [] := DLH.fnd0 GG__law_pick (He.glo_ok X GN (c.t.d.fact 55 (f := .glo "_law_pick") rfl)) FD__law_pick.kp (FD__law_pick.bindsN fun _ _ _ _ _ _ us hl => match us, hl with | [_, _], _ => rfl)
  obtain ⟨fd__law_number, FDx__law_number⟩ := c.t.d.def_ 27 (d := dd__law_number) rfl
  have FD__law_number : FunD K "_law_number" "_law_number" (defArgs s__law_number) (defBody s__law_number) (defScope s__law_number) [] [] (He.ga K "_law_number") fd__law_number := FDx__law_number
  have GG__law_number : FnG PP w K mg base 2 (He.ga K "_law_number") fd__law_number ["word"] (toSp K 1 (spB1 numB)) := fn__law_number G FD__law_number (fun ds w2 E Q _ hs => pure_law_number ds w2 E Q hs)
  have F__law_number : FnD PP w K mg base 2 "_law_number" 1 (spB1 numB) [] := DLH.fnd0 GG__law_number (He.glo_ok X GN (c.t.d.fact 56 (f := .glo "_law_number") rfl)) FD__law_number.kp (FD__law_number.bindsN fun _ _ _ _ _ _ us hl => match us, hl with | [_], _ => rfl)
  obtain ⟨fd__law_is_key, FDx__law_is_key⟩ := c.t.d.def_ 28 (d := dd__law_is_key) rfl
  have FD__law_is_key : FunD K "_law_is_key" "_law_is_key" (defArgs s__law_is_key) (defBody s__law_is_key) (defScope s__law_is_key) [] [] (He.ga K "_law_is_key") fd__law_is_key := FDx__law_is_key
  have GG__law_is_key : FnG PP w K mg base 3 (He.ga K "_law_is_key") fd__law_is_key ["word"] (toSp K 1 (spB1 keyB)) := fn__law_is_key G F__law_number FD__law_is_key (fun ds w2 E Q _ hs => pure_law_key ds w2 E Q hs)
  have F__law_is_key : FnD PP w K mg base 3 "_law_is_key" 1 (spB1 keyB) [] := DLH.fnd0 GG__law_is_key (He.glo_ok X GN (c.t.d.fact 57 (f := .glo "_law_is_key") rfl)) FD__law_is_key.kp (FD__law_is_key.bindsN fun _ _ _ _ _ _ us hl => match us, hl with | [_], _ => rfl)
  obtain ⟨fd__law_is_string, FDx__law_is_string⟩ := c.t.d.def_ 29 (d := dd__law_is_string) rfl
  have FD__law_is_string : FunD K "_law_is_string" "_law_is_string" (defArgs s__law_is_string) (defBody s__law_is_string) (defScope s__law_is_string) [] [] (He.ga K "_law_is_string") fd__law_is_string := FDx__law_is_string
  have GG__law_is_string : FnG PP w K mg base 2 (He.ga K "_law_is_string") fd__law_is_string ["word"] (toSp K 1 (spB1 strB)) := fn__law_is_string G FD__law_is_string (fun ds w2 E Q _ hs => pure_law_string ds w2 E Q hs)
  have F__law_is_string : FnD PP w K mg base 2 "_law_is_string" 1 (spB1 strB) [] := DLH.fnd0 GG__law_is_string (He.glo_ok X GN (c.t.d.fact 58 (f := .glo "_law_is_string") rfl)) FD__law_is_string.kp (FD__law_is_string.bindsN fun _ _ _ _ _ _ us hl => match us, hl with | [_], _ => rfl)
  obtain ⟨fd__law_is_held, FDx__law_is_held⟩ := c.t.d.def_ 30 (d := dd__law_is_held) rfl
  have FD__law_is_held : FunD K "_law_is_held" "_law_is_held" (defArgs s__law_is_held) (defBody s__law_is_held) (defScope s__law_is_held) [] [] (He.ga K "_law_is_held") fd__law_is_held := FDx__law_is_held
  have GG__law_is_held : FnG PP w K mg base 3 (He.ga K "_law_is_held") fd__law_is_held ["word"] (toSp K 1 (spB1 heldB)) := fn__law_is_held G F__law_is_string F__law_number FD__law_is_held (fun ds w2 E Q _ hs => pure_law_held ds w2 E Q hs)
  have F__law_is_held : FnD PP w K mg base 3 "_law_is_held" 1 (spB1 heldB) [] := DLH.fnd0 GG__law_is_held (He.glo_ok X GN (c.t.d.fact 59 (f := .glo "_law_is_held") rfl)) FD__law_is_held.kp (FD__law_is_held.bindsN fun _ _ _ _ _ _ us hl => match us, hl with | [_], _ => rfl)
  obtain ⟨fd__law_fits, FDx__law_fits⟩ := c.t.d.def_ 31 (d := dd__law_fits) rfl
  have FD__law_fits : FunD K "_law_fits" "_law_fits" (defArgs s__law_fits) (defBody s__law_fits) (defScope s__law_fits) [] [] (He.ga K "_law_fits") fd__law_fits := FDx__law_fits
  have GG__law_fits : FnG PP w K mg base 4 (He.ga K "_law_fits") fd__law_fits ["word", "slot"] (toSp K 2 (spFits)) := fn__law_fits G F__law_is_held F__law_is_key F__law_is_string F__law_number FD__law_fits (fun ds w2 E Q _ hs => pure_law_fits ds w2 E Q hs)
  have F__law_fits : FnD PP w K mg base 4 "_law_fits" 2 (spFits) [] := DLH.fnd0 GG__law_fits (He.glo_ok X GN (c.t.d.fact 60 (f := .glo "_law_fits") rfl)) FD__law_fits.kp (FD__law_fits.bindsN fun _ _ _ _ _ _ us hl => match us, hl with | [_, _], _ => rfl)
  obtain ⟨fd__law_slot, FDx__law_slot⟩ := c.t.d.def_ 32 (d := dd__law_slot) rfl
  have FD__law_slot : FunD K "_law_slot" "_law_slot" (defArgs s__law_slot) (defBody s__law_slot) (defScope s__law_slot) [] [] (He.ga K "_law_slot") fd__law_slot := FDx__law_slot
  have GG__law_slot : FnG PP w K mg base 2 (He.ga K "_law_slot") fd__law_slot ["word", "at"] (toSp K 2 (spSlot)) := fn__law_slot G FD__law_slot (fun ds w2 E Q _ hs => pure_law_slot ds w2 E Q hs)
  have F__law_slot : FnD PP w K mg base 2 "_law_slot" 2 (spSlot) [] := DLH.fnd0 GG__law_slot (He.glo_ok X GN (c.t.d.fact 61 (f := .glo "_law_slot") rfl)) FD__law_slot.kp (FD__law_slot.bindsN fun _ _ _ _ _ _ us hl => match us, hl with | [_, _], _ => rfl)
  obtain ⟨fd__law_image_wrong, FDx__law_image_wrong⟩ := c.t.d.def_ 33 (d := dd__law_image_wrong) rfl
  have FD__law_image_wrong : FunD K "_law_image_wrong" "_law_image_wrong" (defArgs s__law_image_wrong) (defBody s__law_image_wrong) (defScope s__law_image_wrong) [] [] (He.ga K "_law_image_wrong") fd__law_image_wrong := FDx__law_image_wrong
  have GG__law_image_wrong : FnG PP w K mg base 5 (He.ga K "_law_image_wrong") fd__law_image_wrong ["row"] (toSp K 1 (spWrong)) := fn__law_image_wrong G F__law_fits F__law_slot FD__law_image_wrong (fun ds w2 E Q _ hs => pure_law_image_wrong ds w2 E Q hs)
  have F__law_image_wrong : FnD PP w K mg base 5 "_law_image_wrong" 1 (spWrong) [] := DLH.fnd0 GG__law_image_wrong (He.glo_ok X GN (c.t.d.fact 62 (f := .glo "_law_image_wrong") rfl)) FD__law_image_wrong.kp (FD__law_image_wrong.bindsN fun _ _ _ _ _ _ us hl => match us, hl with | [_], _ => rfl)
  obtain ⟨fd__law_file_wrong, FDx__law_file_wrong⟩ := c.t.d.def_ 34 (d := dd__law_file_wrong) rfl
  have FD__law_file_wrong : FunD K "_law_file_wrong" "_law_file_wrong" (defArgs s__law_file_wrong) (defBody s__law_file_wrong) (defScope s__law_file_wrong) [] [] (He.ga K "_law_file_wrong") fd__law_file_wrong := FDx__law_file_wrong
  have GG__law_file_wrong : FnG PP w K mg base 6 (He.ga K "_law_file_wrong") fd__law_file_wrong ["rows"] (toSp K 1 (spFileW)) := fn__law_file_wrong G F__law_image_wrong FD__law_file_wrong (fun ds w2 E Q _ hs => pure_law_file_wrong ds w2 E Q hs)
  have F__law_file_wrong : FnD PP w K mg base 6 "_law_file_wrong" 1 (spFileW) [] := DLH.fnd0 GG__law_file_wrong (He.glo_ok X GN (c.t.d.fact 63 (f := .glo "_law_file_wrong") rfl)) FD__law_file_wrong.kp (FD__law_file_wrong.bindsN fun _ _ _ _ _ _ us hl => match us, hl with | [_], _ => rfl)
  obtain ⟨fd__law_images, FDx__law_images⟩ := c.t.d.def_ 35 (d := dd__law_images) rfl
  have FD__law_images : FunD K "_law_images" "_law_images" (defArgs s__law_images) (defBody s__law_images) (defScope s__law_images) [] [] (He.ga K "_law_images") fd__law_images := FDx__law_images
  have GG__law_images : FnG PP w K mg base 4 (He.ga K "_law_images") fd__law_images ["source"] (toSp K 1 (spImages)) := fn__law_images G F__law_draw F__law_pick FD__law_images (fun ds w2 E Q _ hs => pure_law_images ds w2 E Q hs)
  have F__law_images : FnD PP w K mg base 4 "_law_images" 1 (spImages) [] := DLH.fnd0 GG__law_images (He.glo_ok X GN (c.t.d.fact 64 (f := .glo "_law_images") rfl)) FD__law_images.kp (FD__law_images.bindsN fun _ _ _ _ _ _ us hl => match us, hl with | [_], _ => rfl)
  obtain ⟨fd__law_bent, FDx__law_bent⟩ := c.t.d.def_ 36 (d := dd__law_bent) rfl
  have FD__law_bent : FunD K "_law_bent" "_law_bent" (defArgs s__law_bent) (defBody s__law_bent) (defScope s__law_bent) [] [] (He.ga K "_law_bent") fd__law_bent := FDx__law_bent
  have GG__law_bent : FnG PP w K mg base 4 (He.ga K "_law_bent") fd__law_bent ["source", "page"] (toSp K 2 (spBent)) := fn__law_bent G F__law_draw F__law_pick FD__law_bent (fun ds w2 E Q _ hs => pure_law_bent ds w2 E Q hs)
  have F__law_bent : FnD PP w K mg base 4 "_law_bent" 2 (spBent) [] := DLH.fnd0 GG__law_bent (He.glo_ok X GN (c.t.d.fact 65 (f := .glo "_law_bent") rfl)) FD__law_bent.kp (FD__law_bent.bindsN fun _ _ _ _ _ _ us hl => match us, hl with | [_, _], _ => rfl)
  obtain ⟨fd__law_told, FDx__law_told⟩ := c.t.d.def_ 37 (d := dd__law_told) rfl
  have FD__law_told : FunD K "_law_told" "_law_told" (defArgs s__law_told) (defBody s__law_told) (defScope s__law_told) [] [] (He.ga K "_law_told") fd__law_told := FDx__law_told
  have GG__law_told : FnG PP w K mg base 11 (He.ga K "_law_told") fd__law_told ["page"] (toSp K 1 (spTold (adK K))) := fn__law_told G F_read_file F_show_file FD__law_told (fun ds w2 E Q _ hs => pure_law_told hx ds w2 E Q hs)
  have F__law_told : FnD PP w K mg base 11 "_law_told" 1 (spTold (adK K)) [] := DLH.fnd0 GG__law_told (He.glo_ok X GN (c.t.d.fact 66 (f := .glo "_law_told") rfl)) FD__law_told.kp (FD__law_told.bindsN fun _ _ _ _ _ _ us hl => match us, hl with | [_], _ => rfl)
  obtain ⟨fd__law_due, FDx__law_due⟩ := c.t.d.def_ 38 (d := dd__law_due) rfl
  have FD__law_due : FunD K "_law_due" "_law_due" (defArgs s__law_due) (defBody s__law_due) (defScope s__law_due) [] [] (He.ga K "_law_due") fd__law_due := FDx__law_due
  have GG__law_due : FnG PP w K mg base 7 (He.ga K "_law_due") fd__law_due ["page"] (toSp K 1 (spDue)) := fn__law_due G F__law_file_wrong FD__law_due (fun ds w2 E Q _ hs => pure_law_due ds w2 E Q hs)
  have F__law_due : FnD PP w K mg base 7 "_law_due" 1 (spDue) [] := DLH.fnd0 GG__law_due (He.glo_ok X GN (c.t.d.fact 67 (f := .glo "_law_due") rfl)) FD__law_due.kp (FD__law_due.bindsN fun _ _ _ _ _ _ us hl => match us, hl with | [_], _ => rfl)
  obtain ⟨fd_law, FDx_law⟩ := c.t.d.def_ 39 (d := dd_law) rfl
  have FD_law : FunD K "law" "law" (defArgs s_law) (defBody s_law) (defScope s_law) [] [] (He.ga K "law") fd_law := FDx_law
  have GG_law : FnG PP w K mg base 12 (He.ga K "law") fd_law ["script"] (toSp K 1 (spLaw (adK K))) := fn_law G F__law_bent F__law_due F__law_images F__law_source F__law_told F_read_file FD_law (fun ds w2 E Q _ hs => pure_law ds w2 E Q hs)
  exact ⟨fd_law, FD_law, GG_law⟩
theorem law_at {w : World} {K : PySem.W.Frag} {h : Heap} {mg : Str → Option Value} (c : DLH.SaysH faL fnL tsL tfL esL mfL exL w h K) (X : K.In h) (GN : h.Ns mainGlobals mg) : mg "law" = some (.ref (He.ga K "law")) := He.glo_ok X GN (c.t.d.fact 68 (f := .glo "law") rfl)
end K97
set_option Elab.async false
set_option linter.all false
set_option maxRecDepth 100000
set_option maxHeartbeats 0
namespace K97
open PySem PySem.Spec PyProof.Rows L2 DL
abbrev R : PySem.W.OpenRow := PySem.W.OpenLaw.row PySem.Challenge.rw_splitscar_k97_texts_of_files_refused
abbrev hk : PySem.W.Hook := DLH.hookH 4 faL fnL tsL tfL esL mfL exL
def ob (s : PySem.W.SharedT) : DLH.AlH := DLH.obsH 4 faL fnL tsL tfL esL mfL exL (HandSHeadRun.getT s)
theorem ob_eq (s : PySem.W.SharedT) : ob s = hk.obs s.abs := DLH.obsH_eq (HandSHeadRun.getT_eq s)
def loose1 : List Str := ["__name__", "ScarError", "InvalidText", "DIGITS", "MOST_DIGITS", "lines_in", "number_in", "key_in", "need_word", "NOTHING_reader", "ESCAPED", "string_in", "held_in", "Line", "word_of", "leaf_image_in", "inner_image_in", "image_in", "read_file", "NOTHING_texts"]
def loose2 : List Str := ["show_numbers", "show_string", "show_held", "show_link", "show_leaf", "show_inner", "show_image", "show_file", "_law_source", "_law_draw", "_law_pick", "_law_number", "_law_is_key", "_law_is_string", "_law_is_held", "_law_fits", "_law_slot", "_law_image_wrong", "_law_file_wrong", "_law_images", "_law_bent", "_law_told", "_law_due"]
def loose : List Str := loose1 ++ loose2
theorem run (w : World) : HandSHeadRun.RunEq R (PySem.W.view R.prog [47]) hk ob 3000 loose w := by
  refine PySem.W.byRow2 "special-get-raises" (P := fun w => HandSHeadRun.RunEq R (PySem.W.view R.prog [47]) hk ob 3000 loose w) (fun w => ?_) (fun w => ?_) w
  · intro os
    kernel_rfl
  · intro os
    kernel_rfl
end K97
set_option Elab.async false
set_option linter.all false
set_option maxRecDepth 100000
set_option maxHeartbeats 0
namespace K97
open PySem PySem.Spec PyProof.Rows L2 DL
theorem law_ends {w : World} {K : PySem.W.Frag} {h : Heap} {mg : Str → Option Value} {fa : Addr} (KX : K.In h) (c : DLH.SaysH faL fnL tsL tfL esL mfL exL w h K) (GN : h.Ns mainGlobals mg) (hmg : mg ("law" : Str) = some (.ref fa)) :
    DLH.LawG PySem.Challenge.rw_splitscar_k97_texts_of_files_refused w K 12 63 "script" mg fa h := by
  have e := hmg.symm.trans (law_at c KX GN)
  cases e
  obtain ⟨fd, FDx⟩ := c.t.d.def_ 39 (d := dd_law) rfl
  have FD : FunD K "law" "law" (defArgs s_law) (defBody s_law) (defScope s_law) [] [] (He.ga K "law") fd := FDx
  have b := FunD.bindsA (ps := ["script"]) FD fun _ _ _ _ _ _ us hl => match us, hl with | [_], _ => rfl
  refine ⟨fd, tfL.map (He.cT K), toSp K 1 (spLaw (adK K)), fun p hp => ?_, fun p hp => ?_, fun p hp => ?_, fun s v => b s [v] rfl, fun H a ns hl _ hT hS => ?_, fun base KB GB TB => ?_⟩
  · obtain ⟨q, hq, rfl⟩ := List.mem_map.1 hp
    exact c.empty q hq
  · obtain ⟨q, hq, rfl⟩ := List.mem_map.1 hp
    exact c.out q hq
  · obtain ⟨q, hq, rfl⟩ := List.mem_map.1 hp
    exact PySem.W.codeHd_of_K KX (c.hd q hq)
  · refine DLH.prom_of (ts := [(adK K).tL]) (fun t ht => ?_) hS ⟨ns, rfl, hl, DLH.tbW_nil (by simp), fun _ => rfl⟩
    rw [List.mem_singleton.1 ht]
    exact hT (He.cT K ("word_of", none)) (List.mem_map_of_mem (by simp [tfL]))
  · obtain ⟨fd', FD', F⟩ := chain c KX GN TB
    rw [DLH.funD_same FD FD']
    exact F
end K97
open PySem PySem.W PySem.Calls PyProof.Rows
theorem PySem.Challenge.cw_splitscar_k97_texts_of_files_refused_holds : PySem.Challenge.rw_splitscar_k97_texts_of_files_refused.Holds := by
  w_on; o_law
  refine HandSHeadRun.head_any (r := OpenLaw.row PySem.Challenge.rw_splitscar_k97_texts_of_files_refused) (q := view (OpenLaw.row PySem.Challenge.rw_splitscar_k97_texts_of_files_refused).prog [47]) (H := K97.hk) (ob := K97.ob) (M := 3000) (loose := K97.loose) (d := HandSHeadRun.topDef (OpenLaw.row PySem.Challenge.rw_splitscar_k97_texts_of_files_refused).prog 47) (kwd := []) K97.ob_eq
    (by kernel_rfl) (fun s => by kernel_rfl) K97.run (by kernel_rfl) (by kernel_rfl) (by kernel_rfl) (by rfl) (by first | assumption | decide +kernel) (by decide +kernel) ⟨rfl, rfl, rfl, rfl, rfl, by decide +kernel⟩ ?hw ?hc
  case hw => w_witness2
  case hc =>
    refine DLH.walk_G (l := PySem.Challenge.rw_splitscar_k97_texts_of_files_refused) (n := 63) (k := 12) (x := "script") rfl (by decide) (by kernel_rfl) ⟨⟨rfl, by decide, by decide⟩, rfl⟩ ?F
    intro w mg fa h Y GN hmg0
    obtain ⟨K, KX, c⟩ := Y
    have hmg : mg ("law" : PySem.Str) = some (.ref fa) := by
      have e : (HandSHeadRun.topDef (OpenLaw.row PySem.Challenge.rw_splitscar_k97_texts_of_files_refused).prog 47).name = ("law" : PySem.Str) := by kernel_rfl
      rw [← e]
      exact hmg0
    exact ⟨K, KX, K97.law_ends KX c GN hmg⟩
