import PyProof.Rows.All
import Wide.All
import OpenK.AllK
import Wide.FinOn
import HandS.ForMost
import HandS.Walk
import HandS.Evl
import HandS.Zip
import HandS.Conv
import HandS.IsInst
import HandS.TupAny
import HandS.WordsExc
import HandS.TupMul
import HandS.Lambda
import HandS.Deep
import HandS.SortInts
import KE.GoesEnum
import KE.GoesMore
import HandS.Style
import KE.GoesZip
import HandS.SortRule
import HandS.NamedTupSort
import HandS.Hot
import HandS.ExcCtx
import HandS.ExcIs
import HandS.HotCalls
import HandS.Comp
import HandS.EndTab
import HandS.EndOwn
import HandS.ExcInit
import HandS.ExcField
import KE.KExcIs
import HandS.SlotsOwn
import PySem.Challenge.RW_freerides_k12_whole_a_purse_kept_deed_by
set_option Elab.async false
set_option linter.all false
set_option maxRecDepth 100000
set_option maxHeartbeats 8000000
/-! The data layer: what a piece of code does, told by data alone (PyData), no heap in sight. -/
namespace DL
open PySem PySem.Spec PyProof.Rows L2
abbrev D := PyData
abbrev Ex := Evl.Ex

/-! ### data at values -/
/-- the fixed part: the text's constants; what else an address may stand for -/
structure Par where
  K : PySem.W.Frag
  fx : Hp → Addr → Nat → Prop
  fxm : ∀ {F F' : Hp} {a : Addr} {n : Nat}, Ex F F' → fx F a n → fx F' a n
  tab : Addr → Str → Prop
def bagD : D := .dict []
def scrD (ns : List Int) : D := .dict ((.none, .none) :: ns.map fun n => (.int n, .none))
def fxD (n : Nat) : D := .dict [(.int (n : Int), .bool true)]
mutual
inductive Rep (Z : Par) (F : Hp) (B : Addr → Prop) : V → D → Prop
  | non : Rep Z F B .non .none
  | bl (b : Bool) : Rep Z F B (.bl b) (.bool b)
  | int (i : Int) : Rep Z F B (.int i) (.int i)
  | str (x : Str) : Rep Z F B (.str x) (.str x)
  | lst {a : Addr} {xs : List V} {ds : List D} : F a = some (.lst xs) → RepAll Z F B xs ds → Rep Z F B (.ref a) (.list ds)
  | tup {a : Addr} {xs : List V} {ds : List D} : F a = some (.tup xs) → RepAll Z F B xs ds → Rep Z F B (.ref a) (.tuple ds)
  | bag {a : Addr} : B a → (∀ q, ¬ Z.tab a q) → Rep Z F B (.ref a) (.dict [])
  | scr {a : Addr} {ns : List Int} : SqL Z.K F a (ns.map V.int) → ns.length ≤ 100 → Rep Z F B (.ref a) (.dict ((.none, .none) :: ns.map fun n => (.int n, .none)))
  | fx {a : Addr} {n : Nat} : Z.fx F a n → Rep Z F B (.ref a) (.dict [(.int (n : Int), .bool true)])
inductive RepAll (Z : Par) (F : Hp) (B : Addr → Prop) : List V → List D → Prop
  | nil : RepAll Z F B [] []
  | cons {v : V} {vs : List V} {d : D} {ds : List D} : Rep Z F B v d → RepAll Z F B vs ds → RepAll Z F B (v :: vs) (d :: ds)
end
section
variable {Z : Par} {F F' : Hp} {B B' : Addr → Prop}
mutual
theorem Rep.mono (e : Ex F F') (b : ∀ a, B a → B' a) : ∀ {v : V} {d : D}, Rep Z F B v d → Rep Z F' B' v d
  | _, _, .non => .non
  | _, _, .bl b => .bl b
  | _, _, .int i => .int i
  | _, _, .str x => .str x
  | _, _, .lst h r => .lst (e _ _ h) (RepAll.mono e b r)
  | _, _, .tup h r => .tup (e _ _ h) (RepAll.mono e b r)
  | _, _, .bag h t => .bag (b _ h) t
  | _, _, .scr h l => .scr (Evl.ex_l e h) l
  | _, _, .fx h => .fx (Z.fxm e h)
theorem RepAll.mono (e : Ex F F') (b : ∀ a, B a → B' a) : ∀ {vs : List V} {ds : List D}, RepAll Z F B vs ds → RepAll Z F' B' vs ds
  | _, _, .nil => .nil
  | _, _, .cons h r => .cons (Rep.mono e b h) (RepAll.mono e b r)
end
theorem RepAll.length : ∀ {vs : List V} {ds : List D}, RepAll Z F B vs ds → vs.length = ds.length
  | _, _, .nil => rfl
  | _, _, .cons _ r => by
    show _ + 1 = _ + 1
    rw [RepAll.length r]
theorem RepAll.get : ∀ {vs : List V} {ds : List D} {i : Nat} {d : D}, RepAll Z F B vs ds → ds[i]? = some d → ∃ v, vs[i]? = some v ∧ Rep Z F B v d
  | _, _, _, _, .nil, h => by simp at h
  | _, _, 0, _, .cons h _, e => by simp at e; subst e; exact ⟨_, rfl, h⟩
  | _, _, i + 1, _, .cons _ r, e => RepAll.get (i := i) r (by simpa using e)
theorem RepAll.getV : ∀ {vs : List V} {ds : List D} {i : Nat} {v : V}, RepAll Z F B vs ds → vs[i]? = some v → ∃ d, ds[i]? = some d ∧ Rep Z F B v d
  | _, _, _, _, .nil, h => by simp at h
  | _, _, 0, _, .cons h _, e => by simp at e; subst e; exact ⟨_, rfl, h⟩
  | _, _, i + 1, _, .cons _ r, e => RepAll.getV (i := i) r (by simpa using e)
theorem RepAll.append : ∀ {vs ws : List V} {ds es : List D}, RepAll Z F B vs ds → RepAll Z F B ws es → RepAll Z F B (vs ++ ws) (ds ++ es)
  | _, _, _, _, .nil, s => s
  | _, _, _, _, .cons h r, s => .cons h (RepAll.append r s)
theorem RepAll.set {v : V} {d : D} (h : Rep Z F B v d) : ∀ {vs : List V} {ds : List D} (i : Nat), RepAll Z F B vs ds → RepAll Z F B (vs.set i v) (ds.set i d)
  | _, _, _, .nil => .nil
  | _, _, 0, .cons _ r => .cons h r
  | _, _, i + 1, .cons q r => .cons q (RepAll.set h i r)
theorem RepAll.take : ∀ {vs : List V} {ds : List D} (n : Nat), RepAll Z F B vs ds → RepAll Z F B (vs.take n) (ds.take n)
  | _, _, 0, _ => .nil
  | _, _, _ + 1, .nil => .nil
  | _, _, n + 1, .cons h r => .cons h (RepAll.take n r)
theorem RepAll.drop : ∀ {vs : List V} {ds : List D} (n : Nat), RepAll Z F B vs ds → RepAll Z F B (vs.drop n) (ds.drop n)
  | _, _, 0, r => r
  | _, _, _ + 1, .nil => .nil
  | _, _, n + 1, .cons _ r => RepAll.drop n r
theorem RepAll.ints : ∀ {vs : List V} {ns : List Int}, RepAll Z F B vs (ns.map PyData.int) → vs = ns.map V.int
  | [], [], _ => rfl
  | _, n :: ns, .cons h r => by
    cases h
    rw [RepAll.ints (ns := ns) r]
    rfl
theorem RepAll.bools : ∀ {vs : List V} {ns : List Bool}, RepAll Z F B vs (ns.map PyData.bool) → vs = ns.map V.bl
  | [], [], _ => rfl
  | _, n :: ns, .cons h r => by
    cases h
    rw [RepAll.bools (ns := ns) r]
    rfl
theorem RepAll.of_ints : ∀ (ns : List Int), RepAll Z F B (ns.map V.int) (ns.map PyData.int)
  | [] => .nil
  | n :: ns => .cons (.int n) (RepAll.of_ints ns)
theorem Rep.int_inv {v : V} {i : Int} (h : Rep Z F B v (.int i)) : v = .int i := by cases h; rfl
theorem Rep.bl_inv {v : V} {i : Bool} (h : Rep Z F B v (.bool i)) : v = .bl i := by cases h; rfl
theorem Rep.str_inv {v : V} {i : Str} (h : Rep Z F B v (.str i)) : v = .str i := by cases h; rfl
theorem Rep.non_inv {v : V} (h : Rep Z F B v .none) : v = .non := by cases h; rfl
theorem Rep.non_iff {v : V} {d : D} (h : Rep Z F B v d) : decide (v = .non) = (match d with | .none => true | _ => false) := by
  cases h <;> rfl
theorem Rep.lst_inv {v : V} {ds : List D} (h : Rep Z F B v (.list ds)) : ∃ a xs, v = .ref a ∧ F a = some (.lst xs) ∧ RepAll Z F B xs ds := by
  cases h with
  | lst h r => exact ⟨_, _, rfl, h, r⟩
theorem Rep.tup_inv {v : V} {ds : List D} (h : Rep Z F B v (.tuple ds)) : ∃ a xs, v = .ref a ∧ F a = some (.tup xs) ∧ RepAll Z F B xs ds := by
  cases h with
  | tup h r => exact ⟨_, _, rfl, h, r⟩
theorem Rep.bag_inv {v : V} (h : Rep Z F B v bagD) : ∃ a, v = .ref a ∧ B a ∧ ∀ q, ¬ Z.tab a q := by
  generalize e : bagD = d at h
  unfold bagD at e
  cases h with
  | bag h t => exact ⟨_, rfl, h, t⟩
  | scr h => cases e
  | fx h => cases e
  | _ => cases e
theorem scr_inj : ∀ {ns ms : List Int}, (ns.map fun n => ((PyData.int n, PyData.none) : D × D)) = ms.map (fun n => (PyData.int n, PyData.none)) → ns = ms
  | [], [], _ => rfl
  | [], _ :: _, h => by cases h
  | _ :: _, [], h => by cases h
  | a :: r, b :: q, h => by
    injection h with h1 h2
    injection h1 with h3
    injection h3 with h4
    rw [h4, scr_inj h2]
theorem Rep.scr_inv {v : V} {ns : List Int} (h : Rep Z F B v (scrD ns)) : ∃ a, v = .ref a ∧ SqL Z.K F a (ns.map V.int) ∧ ns.length ≤ 100 := by
  generalize e : scrD ns = d at h
  unfold scrD at e
  cases h with
  | bag h => cases e
  | scr h l =>
    injection e with e1
    injection e1 with _ e2
    have := scr_inj e2
    subst this
    exact ⟨_, rfl, h, l⟩
  | fx h => cases e
  | _ => cases e
theorem Rep.fx_inv {v : V} {n : Nat} (h : Rep Z F B v (fxD n)) : ∃ a, v = .ref a ∧ Z.fx F a n := by
  generalize e : fxD n = d at h
  unfold fxD at e
  cases h with
  | bag h => cases e
  | scr h => cases e
  | @fx a m h =>
    have e1 : (n : Int) = (m : Int) := by
      injection e with e1
      injection e1 with e2 _
      injection e2 with e3 _
      injection e3
    have e2 : n = m := by omega
    subst e2
    exact ⟨_, rfl, h⟩
  | _ => cases e
mutual
theorem Rep.dp {H : Hp} (e : Ex F H) : ∀ (d : D) {v : V}, Rep Z F B v d → d.canLay0 = true → Dp Z.K H v d
  | .none, v, h, _ => by cases h; exact .non
  | .bool b, v, h, _ => by cases h; exact .bl b
  | .int b, v, h, _ => by cases h; exact .int b
  | .str b, v, h, _ => by cases h; exact .str b
  | .list ds, v, h, c => by
    obtain ⟨a, xs, rfl, h1, h2⟩ := h.lst_inv
    exact .lst (SqL.of (e _ _ h1)) (RepAll.dp e ds h2 (by simpa [PyData.canLay0] using c))
  | .tuple ds, v, h, c => by
    obtain ⟨a, xs, rfl, h1, h2⟩ := h.tup_inv
    exact .tup (SqT.of (e _ _ h1)) (RepAll.dp e ds h2 (by simpa [PyData.canLay0] using c))
  | .dict _, v, h, c => by simp [PyData.canLay0] at c
theorem RepAll.dp {H : Hp} (e : Ex F H) : ∀ (ds : List D) {vs : List V}, RepAll Z F B vs ds → PyData.canLayAll0 ds = true → DpAll Z.K H vs ds
  | [], _, h, _ => by cases h; exact .nil
  | d :: ds, _, h, c => by
    have c' : d.canLay0 = true ∧ PyData.canLayAll0 ds = true := by simpa [PyData.canLayAll0] using c
    cases h with
    | cons h1 h2 => exact .cons (Rep.dp e d h1 c'.1) (RepAll.dp e ds h2 c'.2)
end
end

/-! ### worlds -/
/-- a code object's table: what it tells are code objects of the name q -/
def TabAt (F H : Hp) (b : Addr) (q : Str) : Prop := ∃ ps : Array Value, H b = some (.tbl ps) ∧ TriplesOk ps.toList ∧ ∀ (pos : Pos) (cv : Value), codeAmong pos ps.toList = some cv → ∃ c, cv = .ref c ∧ F c = some (LamX.CodeO c q)
/-- a bag: its draws, a count; or a table -/
def BagAt (Z : Par) (F H : Hp) (b : Addr) : Prop := (∃ o, H b = some o) ∧
  ((∀ q, ¬ Z.tab b q) → ∃ (l : Addr) (n : Int) (xs : List Int), H b = some (.lst [.ref l, .int n]) ∧ 0 ≤ n ∧ F l = some (.lst (xs.map V.int)) ∧ xs.length = 400 ∧ ∀ x ∈ xs, 0 ≤ x ∧ x < 1000) ∧
  ∀ q, Z.tab b q → TabAt F H b q
structure Wf (Z : Par) (F : Hp) (B : Addr → Prop) (H : Hp) : Prop where
  ex : Ex F H
  bags : ∀ b, B b → F b = none ∧ BagAt Z F H b
  tabs : ∀ b q, Z.tab b q → B b
/-- a step: P what stands under protection -/
structure Le (P : Addr → Prop) (F : Hp) (B : Addr → Prop) (H : Hp) (F' : Hp) (B' : Addr → Prop) (H' : Hp) : Prop where
  ex : Ex F F'
  bg : ∀ a, B a → B' a
  hp : ∀ a o, P a → ¬ B a → H a = some o → H' a = some o
  dom : ∀ a, H a ≠ none → H' a ≠ none
  nf : ∀ a, P a → F a = none → F' a = none
  nb : ∀ a, P a → B' a → B a
def dm (H : Hp) : Addr → Prop := fun a => H a ≠ none
section
variable {Z : Par} {P P' : Addr → Prop} {F F1 F2 : Hp} {B B1 B2 : Addr → Prop} {H H1 H2 : Hp}
theorem Le.refl : Le P F B H F B H := ⟨Evl.Ex.refl F, fun _ h => h, fun _ _ _ _ h => h, fun _ h => h, fun _ _ h => h, fun _ _ h => h⟩
theorem Le.trans (a : Le P F B H F1 B1 H1) (b : Le P F1 B1 H1 F2 B2 H2) : Le P F B H F2 B2 H2 :=
  ⟨a.ex.trans b.ex, fun x h => b.bg x (a.bg x h), fun x o p nb h => b.hp x o p (fun z => nb (a.nb x p z)) (a.hp x o p nb h), fun x h => b.dom x (a.dom x h), fun x p h => b.nf x p (a.nf x p h), fun x p h => a.nb x p (b.nb x p h)⟩
theorem Le.mono (a : Le P F B H F1 B1 H1) (h : ∀ x, P' x → P x) : Le P' F B H F1 B1 H1 :=
  ⟨a.ex, a.bg, fun x o p => a.hp x o (h x p), a.dom, fun x p => a.nf x (h x p), fun x p => a.nb x (h x p)⟩
theorem Le.then (a : Le (dm H) F B H F1 B1 H1) (b : Le (dm H1) F1 B1 H1 F2 B2 H2) : Le (dm H) F B H F2 B2 H2 := a.trans (b.mono fun x h => a.dom x h)
theorem BagAt.mono {b : Addr} (e : Ex F F1) (h : BagAt Z F H b) (hb : H1 b = H b) : BagAt Z F1 H1 b := by
  obtain ⟨⟨o, h0⟩, h1, h2⟩ := h
  refine ⟨⟨o, by rw [hb, h0]⟩, fun t => ?_, fun q t => ?_⟩
  · obtain ⟨l, n, xs, h1, h2, h3, h4⟩ := h1 t
    exact ⟨l, n, xs, by rw [hb, h1], h2, e _ _ h3, h4⟩
  · obtain ⟨ps, g1, g2, g3⟩ := h2 q t
    exact ⟨ps, by rw [hb, g1], g2, fun pos cv hc => let ⟨c, e1, e2⟩ := g3 pos cv hc; ⟨c, e1, e _ _ e2⟩⟩
theorem Wf.bagNew {b : Addr} (w : Wf Z F B H) (h : H b = none) : ¬ B b := fun z => by
  obtain ⟨_, ⟨o, q⟩, _⟩ := w.bags b z
  rw [h] at q
  cases q
/-- a new object p, frozen -/
theorem Wf.new {p : Addr} {o : HO} (w : Wf Z F B H) (h : H p = none) : Wf Z (upd F p o) B (upd H p o) := by
  have fp : F p = none := Evl.fresh_back w.ex h
  refine ⟨fun a u e => ?_, fun b hb => ?_, w.tabs⟩
  · by_cases ha : a = p
    · subst ha; rw [upd_same] at e ⊢; exact e
    · rw [upd_ne ha] at e ⊢; exact w.ex a u e
  · obtain ⟨h1, h2⟩ := w.bags b hb
    have nb : b ≠ p := fun z => w.bagNew h (by rw [← z]; exact hb)
    exact ⟨by rw [upd_ne nb]; exact h1, h2.mono (Evl.Ex.new fp) (upd_ne nb)⟩
theorem Le.new {p : Addr} {o : HO} (w : Wf Z F B H) (h : H p = none) : Le (dm H) F B H (upd F p o) B (upd H p o) := by
  have fp : F p = none := Evl.fresh_back w.ex h
  refine ⟨Evl.Ex.new fp, fun _ h => h, fun a u _ _ e => by rw [upd_ne (ne_of_none e h)]; exact e, fun a n => ?_, fun a n e => ?_, fun _ _ h => h⟩
  · by_cases ha : a = p
    · subst ha; rw [upd_same]; exact fun q => nomatch q
    · rw [upd_ne ha]; exact n
  · rw [upd_ne (fun z => n (by rw [z]; exact h))]; exact e
end
/-- a value of an expression: data that stands, or a list of the frame's own -/
inductive X where
  | fr (d : D)
  | ow (ds : List D)
def X.dat : X → D
  | .fr d => d
  | .ow ds => .list ds
structure OwnAt (Z : Par) (F : Hp) (B : Addr → Prop) (H : Hp) (l : Addr) (ds : List D) : Prop where
  nf : F l = none
  nb : ¬ B l
  at_ : ∃ vs, H l = some (.lst vs) ∧ RepAll Z F B vs ds
def XR (Z : Par) (F : Hp) (B : Addr → Prop) (H : Hp) (P : Addr → Prop) (v : V) : X → Prop
  | .fr d => Rep Z F B v d
  | .ow ds => ∃ l, v = .ref l ∧ OwnAt Z F B H l ds ∧ ¬ P l
abbrev Ρ := List (Option X)
structure RS (Z : Par) (F : Hp) (B : Addr → Prop) (H : Hp) (P : Addr → Prop) (σ : L2.St) (ρ : Ρ) : Prop where
  len : σ.length = ρ.length
  val : ∀ (i : Nat) (x : X), ρ[i]? = some (some x) → ∃ v, σ[i]? = some (some v) ∧ XR Z F B H P v x
  dif : ∀ (i j : Nat) (ds es : List D) (l : Addr), i ≠ j → ρ[i]? = some (some (.ow ds)) → ρ[j]? = some (some (.ow es)) → σ[i]? = some (some (.ref l)) → σ[j]? ≠ some (some (.ref l))
section
variable {Z : Par} {P : Addr → Prop} {F F1 F2 : Hp} {B B1 B2 : Addr → Prop} {H H1 H2 : Hp} {σ : L2.St} {ρ : Ρ} {v : V} {x : X}
theorem OwnAt.mono {l : Addr} {ds : List D} (h : OwnAt Z F B H l ds) (e : Le (dm H) F B H F1 B1 H1) : OwnAt Z F1 B1 H1 l ds := by
  obtain ⟨vs, h1, h2⟩ := h.at_
  have hd : dm H l := by unfold dm; rw [h1]; exact fun q => nomatch q
  exact ⟨e.nf l hd h.nf, fun z => h.nb (e.nb l hd z), vs, e.hp l _ hd h.nb h1, h2.mono e.ex e.bg⟩
theorem XR.mono (h : XR Z F B H P v x) (e : Le (dm H) F B H F1 B1 H1) : XR Z F1 B1 H1 P v x := by
  cases x with
  | fr d => exact Rep.mono e.ex e.bg h
  | ow ds =>
    obtain ⟨l, h1, h2, h3⟩ := h
    exact ⟨l, h1, h2.mono e, h3⟩
theorem RS.mono (h : RS Z F B H P σ ρ) (e : Le (dm H) F B H F1 B1 H1) : RS Z F1 B1 H1 P σ ρ :=
  ⟨h.len, fun i x hx => let ⟨v, h1, h2⟩ := h.val i x hx; ⟨v, h1, h2.mono e⟩, h.dif⟩
theorem RS.setFr (h : RS Z F B H P σ ρ) {d : D} (i : Nat) (r : Rep Z F B v d) : RS Z F B H P (σ.set i (some v)) (ρ.set i (some (.fr d))) := by
  refine ⟨by rw [List.length_set, List.length_set]; exact h.len, fun j x hx => ?_, fun j k ds es l hne hj hk hs => ?_⟩
  · by_cases hij : i = j
    · subst hij
      by_cases hl : i < ρ.length
      · rw [List.getElem?_set_self hl] at hx
        cases hx
        exact ⟨v, List.getElem?_set_self (by rw [h.len]; exact hl), r⟩
      · rw [List.getElem?_eq_none (by rw [List.length_set]; omega)] at hx
        cases hx
    · rw [List.getElem?_set_ne hij] at hx ⊢
      exact h.val j x hx
  · have nj : i ≠ j := fun z => by
      subst z
      by_cases hl : i < ρ.length
      · rw [List.getElem?_set_self hl] at hj; cases hj
      · rw [List.getElem?_eq_none (by rw [List.length_set]; omega)] at hj; cases hj
    have nk : i ≠ k := fun z => by
      subst z
      by_cases hl : i < ρ.length
      · rw [List.getElem?_set_self hl] at hk; cases hk
      · rw [List.getElem?_eq_none (by rw [List.length_set]; omega)] at hk; cases hk
    rw [List.getElem?_set_ne nj] at hj hs
    rw [List.getElem?_set_ne nk] at hk ⊢
    exact h.dif j k ds es l hne hj hk hs
theorem RS.forget (h : RS Z F B H P σ ρ) (i : Nat) (o : Option V) : RS Z F B H P (σ.set i o) (ρ.set i none) := by
  refine ⟨by rw [List.length_set, List.length_set]; exact h.len, fun j x hx => ?_, fun j k ds es l hne hj hk hs => ?_⟩
  · by_cases hij : i = j
    · subst hij
      by_cases hl : i < ρ.length
      · rw [List.getElem?_set_self hl] at hx; cases hx
      · rw [List.getElem?_eq_none (by rw [List.length_set]; omega)] at hx; cases hx
    · rw [List.getElem?_set_ne hij] at hx ⊢
      exact h.val j x hx
  · have nj : i ≠ j := fun z => by
      subst z
      by_cases hl : i < ρ.length
      · rw [List.getElem?_set_self hl] at hj; cases hj
      · rw [List.getElem?_eq_none (by rw [List.length_set]; omega)] at hj; cases hj
    have nk : i ≠ k := fun z => by
      subst z
      by_cases hl : i < ρ.length
      · rw [List.getElem?_set_self hl] at hk; cases hk
      · rw [List.getElem?_eq_none (by rw [List.length_set]; omega)] at hk; cases hk
    rw [List.getElem?_set_ne nj] at hj hs
    rw [List.getElem?_set_ne nk] at hk ⊢
    exact h.dif j k ds es l hne hj hk hs
/-- a list of the frame's own, at an address that no slot's own list has -/
theorem RS.setOw (h : RS Z F B H P σ ρ) {ds : List D} {l : Addr} (i : Nat) (o : OwnAt Z F B H l ds) (np : ¬ P l) (new : ∀ (j : Nat) (es : List D), j ≠ i → ρ[j]? = some (some (.ow es)) → σ[j]? ≠ some (some (.ref l))) : RS Z F B H P (σ.set i (some (.ref l))) (ρ.set i (some (.ow ds))) := by
  refine ⟨by rw [List.length_set, List.length_set]; exact h.len, fun j x hx => ?_, fun j k es fs m hne hj hk hs => ?_⟩
  · by_cases hij : i = j
    · subst hij
      by_cases hl : i < ρ.length
      · rw [List.getElem?_set_self hl] at hx
        cases hx
        exact ⟨.ref l, List.getElem?_set_self (by rw [h.len]; exact hl), l, rfl, o, np⟩
      · rw [List.getElem?_eq_none (by rw [List.length_set]; omega)] at hx
        cases hx
    · rw [List.getElem?_set_ne hij] at hx ⊢
      exact h.val j x hx
  · by_cases hij : i = j
    · subst hij
      have nk : i ≠ k := hne
      rw [List.getElem?_set_ne nk] at hk ⊢
      by_cases hl : i < σ.length
      · rw [List.getElem?_set_self hl] at hs
        cases hs
        exact new k fs (Ne.symm nk) hk
      · rw [List.getElem?_eq_none (by rw [List.length_set]; omega)] at hs; cases hs
    · rw [List.getElem?_set_ne hij] at hj hs
      by_cases hik : i = k
      · subst hik
        intro q
        by_cases hl : i < σ.length
        · rw [List.getElem?_set_self hl] at q
          cases q
          exact new j es (Ne.symm hij) hj hs
        · rw [List.getElem?_eq_none (by rw [List.length_set]; omega)] at q; cases q
      · rw [List.getElem?_set_ne hik] at hk ⊢
        exact h.dif j k es fs m hne hj hk hs
theorem RS.fresh (h : RS Z F B H P σ ρ) {l : Addr} (n : H l = none) : ∀ (j : Nat) (es : List D), ρ[j]? = some (some (.ow es)) → σ[j]? ≠ some (some (.ref l)) := fun j es e q => by
  obtain ⟨v, h1, h2⟩ := h.val j _ e
  obtain ⟨m, rfl, o, _⟩ := h2
  rw [h1] at q
  obtain ⟨vs, h3, _⟩ := o.at_
  have e : m = l := by
    have := Option.some.inj (Option.some.inj q)
    exact V.ref.inj this
  rw [e, n] at h3
  cases h3
end

/-! ### the transformers, and their readings -/
abbrev WE := Ρ → (X → Prop) → Prop
abbrev WN := Ρ → (List D → Prop) → Prop
abbrev WT := Ρ → (Bool → Prop) → Prop
abbrev WA := Ρ → (List X → Prop) → Prop
structure WEnds where
  nx : Ρ → Prop
  rt : D → Prop
  bk : Ρ → Prop := fun _ => False
  ct : Ρ → Prop := fun _ => False
abbrev WS := WEnds → Ρ → Prop
abbrev WFn := List D → (D → Prop) → Prop
/-- all values of a list -/
inductive XRs (Z : Par) (F : Hp) (B : Addr → Prop) (H : Hp) (P : Addr → Prop) : List V → List X → Prop
  | nil : XRs Z F B H P [] []
  | cons {v : V} {vs : List V} {x : X} {xs : List X} : XR Z F B H P v x → XRs Z F B H P vs xs → XRs Z F B H P (v :: vs) (x :: xs)
structure At (Z : Par) (σ : L2.St) (H : Hp) (F : Hp) (B : Addr → Prop) (P : Addr → Prop) (ρ : Ρ) : Prop where
  wf : Wf Z F B H
  rs : RS Z F B H P σ ρ
  pd : ∀ a, P a → H a ≠ none
def LE (Z : Par) (w : WE) : TE := fun σ H Q => ∃ F B P ρ post, At Z σ H F B P ρ ∧ w ρ post ∧ ∀ F' B' H' v x, Le (dm H) F B H F' B' H' → Wf Z F' B' H' → XR Z F' B' H' P v x → post x → Q v H'
def LN (Z : Par) (w : WN) : TE := fun σ H Q => ∃ F B P ρ post, At Z σ H F B P ρ ∧ w ρ post ∧ ∀ F' B' H' l ds, Le (dm H) F B H F' B' H' → Wf Z F' B' H' → H l = none → OwnAt Z F' B' H' l ds → post ds → Q (.ref l) H'
def LT (Z : Par) (w : WT) : TT := fun σ H Q => ∃ F B P ρ post, At Z σ H F B P ρ ∧ w ρ post ∧ ∀ F' B' H' b, Le (dm H) F B H F' B' H' → Wf Z F' B' H' → post b → Q b H'
def LA (Z : Par) (w : WA) : TA := fun σ H Q => ∃ F B P ρ post, At Z σ H F B P ρ ∧ w ρ post ∧ ∀ F' B' H' vs xs, Le (dm H) F B H F' B' H' → Wf Z F' B' H' → XRs Z F' B' H' P vs xs → post xs → Q vs H'
def LS (Z : Par) (w : WS) : TS := fun Dd σ H => ∃ F B P ρ W, At Z σ H F B P ρ ∧ w W ρ ∧
  (∀ F' B' H' σ' ρ', Le P F B H F' B' H' → At Z σ' H' F' B' P ρ' → W.nx ρ' → Dd.nx σ' H') ∧
  (∀ F' B' H' v d, Le P F B H F' B' H' → Wf Z F' B' H' → Rep Z F' B' v d → W.rt d → Dd.rt v H') ∧
  (∀ F' B' H' σ' ρ', Le P F B H F' B' H' → At Z σ' H' F' B' P ρ' → W.bk ρ' → Dd.bk σ' H') ∧
  (∀ F' B' H' σ' ρ', Le P F B H F' B' H' → At Z σ' H' F' B' P ρ' → W.ct ρ' → Dd.ct σ' H')
def LF (Z : Par) (w : WFn) : Sp := fun vs H Q _ => ∃ F B ds post, Wf Z F B H ∧ RepAll Z F B vs ds ∧ w ds post ∧ ∀ F' B' H' v d, Le (dm H) F B H F' B' H' → Wf Z F' B' H' → Rep Z F' B' v d → post d → Q v H'
section
variable {Z : Par} {P : Addr → Prop} {F F1 F2 : Hp} {B B1 B2 : Addr → Prop} {H H1 H2 : Hp} {σ : L2.St} {ρ : Ρ} {v : V} {x : X}
theorem At.step (a : At Z σ H F B P ρ) (e : Le (dm H) F B H F1 B1 H1) (w : Wf Z F1 B1 H1) : At Z σ H1 F1 B1 P ρ := ⟨w, a.rs.mono e, fun x h => e.dom x (a.pd x h)⟩
theorem At.setFr (a : At Z σ H F B P ρ) {d : D} (i : Nat) (r : Rep Z F B v d) : At Z (σ.set i (some v)) H F B P (ρ.set i (some (.fr d))) := ⟨a.wf, a.rs.setFr i r, a.pd⟩
theorem XRs.mono : ∀ {vs : List V} {xs : List X}, XRs Z F B H P vs xs → Le (dm H) F B H F1 B1 H1 → XRs Z F1 B1 H1 P vs xs
  | _, _, .nil, _ => .nil
  | _, _, .cons h r, e => .cons (h.mono e) (XRs.mono r e)
theorem XRs.fr : ∀ {vs : List V} {ds : List D}, XRs Z F B H P vs (ds.map X.fr) → RepAll Z F B vs ds
  | [], [], _ => .nil
  | _, d :: ds, .cons h r => .cons h (XRs.fr r)
theorem XRs.of : ∀ {vs : List V} {ds : List D}, RepAll Z F B vs ds → XRs Z F B H P vs (ds.map X.fr)
  | _, _, .nil => .nil
  | _, _, .cons h r => .cons h (XRs.of r)
end
end DL

/-! The data layer's rules. -/
namespace DL
open PySem PySem.Spec PyProof.Rows L2
/-! ### weakening -/
section
variable {X : Cx}
theorem peW {e : Expr} {t t' : TE} (h : PE X e t) (k : ∀ σ H Q, t' σ H Q → t σ H Q) : PE X e t' := ⟨fun pins s σ H Q I q => h.run pins s σ H Q I (k σ H Q q)⟩
theorem ptW {e : Expr} {t t' : TT} (h : PT X e t) (k : ∀ σ H Q, t' σ H Q → t σ H Q) : PT X e t' := ⟨fun pins s σ H Q I q => h.run pins s σ H Q I (k σ H Q q)⟩
theorem pwW {e : Expr} {t t' : TT} (h : PW X e t) (k : ∀ σ H Q, t' σ H Q → t σ H Q) : PW X e t' := ⟨fun wh pins s σ H Q I q => h.run wh pins s σ H Q I (k σ H Q q)⟩
theorem paW {e : List Expr} {t t' : TA} (h : PA X e t) (k : ∀ σ H Q, t' σ H Q → t σ H Q) : PA X e t' := ⟨fun pos pins s σ H Q I q => h.run pos pins s σ H Q I (k σ H Q q)⟩
theorem psW {e : Stmt} {t t' : TS} (h : PS X e t) (k : ∀ Dd σ H, t' Dd σ H → t Dd σ H) : PS X e t' := ⟨fun pins s σ H Dd I q => h.run pins s σ H Dd I (k Dd σ H q)⟩
theorem pssW {e : List Stmt} {t t' : TS} (h : PSs X e t) (k : ∀ Dd σ H, t' Dd σ H → t Dd σ H) : PSs X e t' := ⟨fun pins s σ H Dd I q => h.run pins s σ H Dd I (k Dd σ H q)⟩
theorem ptsW {e : List Expr} {t t' : TT} (h : PTs X e t) (k : ∀ σ H Q, t' σ H Q → t σ H Q) : PTs X e t' := ⟨fun pins s σ H Q I q => h.run pins s σ H Q I (k σ H Q q)⟩
theorem piW {tg e : Expr} {t t' : TI} (h : PI X tg e t) (k : ∀ σ H R, t' σ H R → t σ H R) : PI X tg e t' := ⟨fun pins s σ H R I q => h.run pins s σ H R I (k σ H R q)⟩
end
/-! ### what stands at an end -/
abbrev KX (Z : Par) (P : Addr → Prop) (F : Hp) (B : Addr → Prop) (H : Hp) (post : X → Prop) (Q : VK) : Prop := ∀ F' B' H' v x, Le (dm H) F B H F' B' H' → Wf Z F' B' H' → XR Z F' B' H' P v x → post x → Q v H'
section
variable {Z : Par} {P : Addr → Prop} {F F1 : Hp} {B B1 : Addr → Prop} {H H1 : Hp} {post : X → Prop} {Q : VK}
theorem KX.later (k : KX Z P F B H post Q) (e : Le (dm H) F B H F1 B1 H1) : KX Z P F1 B1 H1 post Q := fun F' B' H' v x e' w r p => k F' B' H' v x (e.then e') w r p
/-- where it stands -/
theorem KX.here {v : V} {x : X} (k : KX Z P F B H post Q) (w : Wf Z F B H) (r : XR Z F B H P v x) (p : post x) : Q v H := k F B H v x Le.refl w r p
/-- a new object, frozen -/
theorem KX.new {p : Addr} {o : HO} {d : D} (k : KX Z P F B H post Q) (w : Wf Z F B H) (hp : H p = none) (r : Rep Z (upd F p o) B (.ref p) d) (q : post (.fr d)) : Q (.ref p) (upd H p o) := k _ _ _ _ (.fr d) (Le.new w hp) (w.new hp) r q
end

/-! ### names, constants -/
def wVar (i : Nat) : WE := fun ρ post => ∃ x, ρ[i]? = some (some x) ∧ post x
def wC (d : D) : WE := fun _ post => post (.fr d)
section
variable {Z : Par} {X : Cx}
theorem s_var {i : Nat} {σ : L2.St} {H : Hp} {Q : VK} (h : LE Z (wVar i) σ H Q) : tVar i σ H Q := by
  obtain ⟨F, B, P, ρ, post, a, ⟨x, e, p⟩, k⟩ := h
  obtain ⟨v, e1, r⟩ := a.rs.val i x e
  exact ⟨v, e1, k _ _ _ _ x Le.refl a.wf r p⟩
theorem qv (i : Nat) {x : Str} {pos : Pos} (hN : X.N[i]? = some x := by rfl) (hv : Vis X.env.scope x := by first | exact Or.inl rfl | exact Or.inr (Or.inl rfl) | exact Or.inr (Or.inr rfl)) (hd : (x == ("__debug__" : Str)) = false := by decide)
    (hcd : (x == ("__classdict__" : Str)) = false := by decide) : PE X (.Name x pos) (LE Z (wVar i)) := peW (pe_var hN hv hd hcd) fun _ _ _ h => s_var h
theorem s_c {v : V} {d : D} (r : ∀ F B, Rep Z F B v d) {σ : L2.St} {H : Hp} {Q : VK} (h : LE Z (wC d) σ H Q) : tC v σ H Q := by
  obtain ⟨F, B, P, ρ, post, a, p, k⟩ := h
  exact k _ _ _ _ (.fr d) Le.refl a.wf (r _ _) p
theorem qe_int {i j pos} : PE X (.Constant (.int i) j pos) (LE Z (wC (.int i))) := peW pe_int fun _ _ _ h => s_c (fun _ _ => .int i) h
theorem qe_bl {b j pos} : PE X (.Constant (.bool b) j pos) (LE Z (wC (.bool b))) := peW pe_bl fun _ _ _ h => s_c (fun _ _ => .bl b) h
theorem qe_non {j pos} : PE X (.Constant .none j pos) (LE Z (wC .none)) := peW pe_non fun _ _ _ h => s_c (fun _ _ => .non) h
theorem qe_str {x j pos} : PE X (.Constant (.str x) j pos) (LE Z (wC (.str x))) := peW pe_str fun _ _ _ h => s_c (fun _ _ => .str x) h
/-- a module's int -/
theorem qe_globI {x : Str} {i : Int} {t : Tok} {pos : Pos} (hg : Gl X x) (hm : X.mg x = some (.int i t)) (hd : (x == ("__debug__" : Str)) = false := by decide) : PE X (.Name x pos) (LE Z (wC (.int i))) :=
  peW (pe_glob (v := .int i) hg hm ⟨_, rfl⟩ hd) fun _ _ _ h => s_c (fun _ _ => .int i) h
/-- a def of the module as a value -/
theorem qe_globF {x : Str} {f : Addr} {n : Nat} {pos : Pos} (hg : Gl X x) (hm : X.mg x = some (.ref f)) (hf : ∀ F, Z.fx F f n) (hd : (x == ("__debug__" : Str)) = false := by decide) : PE X (.Name x pos) (LE Z (wC (fxD n))) :=
  peW (pe_glob (v := .ref f) hg hm rfl hd) fun _ _ _ h => s_c (fun F _ => .fx (hf F)) h
end

/-! ### operators by values -/
def OpS (Z : Par) (r : R2) (wr : X → X → (X → Prop) → Prop) : Prop := ∀ F B H P v u x y post Q, Wf Z F B H → XR Z F B H P v x → XR Z F B H P u y → wr x y post → KX Z P F B H post Q → r v u H Q
def UnS (Z : Par) (r : V → Hp → VK → Prop) (wr : X → (X → Prop) → Prop) : Prop := ∀ F B H P v x post Q, Wf Z F B H → XR Z F B H P v x → wr x post → KX Z P F B H post Q → r v H Q
def CallS (Z : Par) (r : List V → Hp → VK → Prop) (wr : List X → (X → Prop) → Prop) : Prop := ∀ F B H P vs xs post Q, Wf Z F B H → XRs Z F B H P vs xs → wr xs post → KX Z P F B H post Q → r vs H Q
def wOp (wr : X → X → (X → Prop) → Prop) (wa wb : WE) : WE := fun ρ post => wa ρ fun x => wb ρ fun y => wr x y post
def wUn (wr : X → (X → Prop) → Prop) (wa : WE) : WE := fun ρ post => wa ρ fun x => wr x post
def wCall (wr : List X → (X → Prop) → Prop) (wa : WA) : WE := fun ρ post => wa ρ fun xs => wr xs post
def wNil : WA := fun _ post => post []
def wCons (we : WE) (wr : WA) : WA := fun ρ post => we ρ fun x => wr ρ fun xs => post (x :: xs)
section
variable {Z : Par} {r : R2} {wr : X → X → (X → Prop) → Prop} {wa wb : WE} {σ : L2.St} {H : Hp} {Q : VK}
theorem s_op (hs : OpS Z r wr) (h : LE Z (wOp wr wa wb) σ H Q) : tOp r (LE Z wa) (LE Z wb) σ H Q := by
  obtain ⟨F, B, P, ρ, post, a, w, k⟩ := h
  refine ⟨F, B, P, ρ, _, a, w, fun F1 B1 H1 v x e1 w1 r1 p1 => ?_⟩
  refine ⟨F1, B1, P, ρ, _, a.step e1 w1, p1, fun F2 B2 H2 u y e2 w2 r2 p2 => ?_⟩
  exact hs F2 B2 H2 P v u x y post Q w2 (r1.mono e2) r2 p2 (KX.later k (e1.then e2))
theorem s_un {r : V → Hp → VK → Prop} {wr : X → (X → Prop) → Prop} (hs : UnS Z r wr) (h : LE Z (wUn wr wa) σ H Q) : tUn r (LE Z wa) σ H Q := by
  obtain ⟨F, B, P, ρ, post, a, w, k⟩ := h
  exact ⟨F, B, P, ρ, _, a, w, fun F1 B1 H1 v x e1 w1 r1 p1 => hs F1 B1 H1 P v x post Q w1 r1 p1 (KX.later k e1)⟩
theorem s_call {r : List V → Hp → VK → Prop} {wr : List X → (X → Prop) → Prop} {wa : WA} (hs : CallS Z r wr) (h : LE Z (wCall wr wa) σ H Q) : tCB r (LA Z wa) σ H Q := by
  obtain ⟨F, B, P, ρ, post, a, w, k⟩ := h
  exact ⟨F, B, P, ρ, _, a, w, fun F1 B1 H1 vs xs e1 w1 r1 p1 => hs F1 B1 H1 P vs xs post Q w1 r1 p1 (KX.later k e1)⟩
theorem s_nil {Q : List V → Hp → Prop} (h : LA Z wNil σ H Q) : tNil σ H Q := by
  obtain ⟨F, B, P, ρ, post, a, w, k⟩ := h
  exact k _ _ _ [] [] Le.refl a.wf .nil w
theorem s_cons {we : WE} {wr : WA} {Q : List V → Hp → Prop} (h : LA Z (wCons we wr) σ H Q) : tCons (LE Z we) (LA Z wr) σ H Q := by
  obtain ⟨F, B, P, ρ, post, a, w, k⟩ := h
  refine ⟨F, B, P, ρ, _, a, w, fun F1 B1 H1 v x e1 w1 r1 p1 => ?_⟩
  refine ⟨F1, B1, P, ρ, _, a.step e1 w1, p1, fun F2 B2 H2 vs xs e2 w2 r2 p2 => ?_⟩
  exact k F2 B2 H2 (v :: vs) (x :: xs) (e1.then e2) w2 (.cons (r1.mono e2) r2) p2
end
section
variable {Z : Par} {X : Cx} {a b e : Expr} {es : List Expr} {wa wb we : WE} {wl : WA} {pos : Pos}
theorem qa_nil : PA X [] (LA Z wNil) := paW pa_nil fun _ _ _ h => s_nil h
theorem qa_cons (ha : PE X e (LE Z we)) (hr : PA X es (LA Z wl)) (hs : starEach (e :: es) X.env = (false, eval e X.env) :: starEach es X.env := by rfl) : PA X (e :: es) (LA Z (wCons we wl)) := paW (pa_cons ha hr hs) fun _ _ _ h => s_cons h
theorem qe_op {op : Operator} {r : R2} {wr : DL.X → DL.X → (DL.X → Prop) → Prop} (ho : OpR X (binaryOp op) r) (hs : OpS Z r wr) (ha : PE X a (LE Z wa)) (hb : PE X b (LE Z wb)) : PE X (.BinOp a op b pos) (LE Z (wOp wr wa wb)) := peW (pe_op ho ha hb) fun _ _ _ h => s_op hs h
theorem qe_un {op : UnaryOp} {r : V → Hp → VK → Prop} {wr : DL.X → (DL.X → Prop) → Prop} (ho : UnR X (unaryOp op) r) (hs : UnS Z r wr) (ha : PE X a (LE Z wa)) : PE X (.UnaryOp op a pos) (LE Z (wUn wr wa)) := peW (pe_un ho ha) fun _ _ _ h => s_un hs h
theorem qe_ix {r : R2} {wr : DL.X → DL.X → (DL.X → Prop) → Prop} (hr : IxR X r) (hs : OpS Z r wr) (ha : PE X a (LE Z wa)) (hb : PE X b (LE Z wb)) (hp : PlainIx b := by exact fun _ _ => rfl) : PE X (.Subscript a b pos) (LE Z (wOp wr wa wb)) := peW (pe_ix hr ha hb hp) fun _ _ _ h => s_op hs h
theorem qe_cmpR {op : CmpOp} {r : R2} {wr : DL.X → DL.X → (DL.X → Prop) → Prop} (ho : OpR X (compareOp op) r) (hs : OpS Z r wr) (ha : PE X a (LE Z wa)) (hb : PE X b (LE Z wb)) (hm : behindInMarks op b = false) : PE X (.Compare a [op] [b] pos) (LE Z (wOp wr wa wb)) := peW (pe_cmpR ho ha hb hm) fun _ _ _ h => s_op hs h
end

/-! ### ints -/
def wI (C : Int → Int → Prop) (g : Int → Int → D) : X → X → (X → Prop) → Prop := fun x y post => ∃ i j, x = .fr (.int i) ∧ y = .fr (.int j) ∧ C i j ∧ post (.fr (g i j))
def wI0 (g : Int → Int → D) : X → X → (X → Prop) → Prop := fun x y post => ∃ i j, x = .fr (.int i) ∧ y = .fr (.int j) ∧ post (.fr (g i j))
section
variable {Z : Par} {X : Cx} {a b : Expr} {wa wb : WE} {pos : Pos}
theorem o_I {C : Int → Int → Prop} {g : Int → Int → V} {gd : Int → Int → D} (h : ∀ F B i j, Rep Z F B (g i j) (gd i j)) : OpS Z (rI C g) (wI C gd) := by
  intro F B H P v u x y post Q w rx ry wr k
  obtain ⟨i, j, rfl, rfl, c, p⟩ := wr
  exact ⟨i, j, Rep.int_inv rx, Rep.int_inv ry, c, KX.here k w (x := .fr _) (h _ _ i j) p⟩
theorem o_I0 {g : Int → Int → V} {gd : Int → Int → D} (h : ∀ F B i j, Rep Z F B (g i j) (gd i j)) : OpS Z (rI0 g) (wI0 gd) := by
  intro F B H P v u x y post Q w rx ry wr k
  obtain ⟨i, j, rfl, rfl, p⟩ := wr
  exact ⟨i, j, Rep.int_inv rx, Rep.int_inv ry, KX.here k w (x := .fr _) (h _ _ i j) p⟩
abbrev wAdd := wI0 fun i j => .int (i + j)
abbrev wSub := wI0 fun i j => .int (i - j)
abbrev wMul := wI CMul fun i j => .int (i * j)
abbrev wDiv := wI CDiv fun i j => .int (i / j)
abbrev wMod := wI (fun _ j => 0 < j) fun i j => .int (i % j)
abbrev wPow := wI CPow fun i j => .int (i ^ j.toNat)
theorem qe_add (ha : PE X a (LE Z wa)) (hb : PE X b (LE Z wb)) : PE X (.BinOp a .Add b pos) (LE Z (wOp wAdd wa wb)) := qe_op op_add (o_I0 fun _ _ i j => .int _) ha hb
theorem qe_sub (ha : PE X a (LE Z wa)) (hb : PE X b (LE Z wb)) : PE X (.BinOp a .Sub b pos) (LE Z (wOp wSub wa wb)) := qe_op op_sub (o_I0 fun _ _ i j => .int _) ha hb
theorem qe_mul (ha : PE X a (LE Z wa)) (hb : PE X b (LE Z wb)) : PE X (.BinOp a .Mult b pos) (LE Z (wOp wMul wa wb)) := qe_op op_mul (o_I fun _ _ i j => .int _) ha hb
theorem qe_fdiv (ha : PE X a (LE Z wa)) (hb : PE X b (LE Z wb)) : PE X (.BinOp a .FloorDiv b pos) (LE Z (wOp wDiv wa wb)) := qe_op op_fdiv (o_I fun _ _ i j => .int _) ha hb
theorem qe_mod (ha : PE X a (LE Z wa)) (hb : PE X b (LE Z wb)) : PE X (.BinOp a .Mod b pos) (LE Z (wOp wMod wa wb)) := qe_op op_mod (o_I fun _ _ i j => .int _) ha hb
theorem qe_pow (ha : PE X a (LE Z wa)) (hb : PE X b (LE Z wb)) : PE X (.BinOp a .Pow b pos) (LE Z (wOp wPow wa wb)) := qe_op op_pow (o_I fun _ _ i j => .int _) ha hb
abbrev wNeg : DL.X → (DL.X → Prop) → Prop := fun x post => ∃ i, x = .fr (.int i) ∧ post (.fr (.int (-i)))
theorem qe_neg (ha : PE X a (LE Z wa)) : PE X (.UnaryOp .USub a pos) (LE Z (wUn wNeg wa)) := qe_un un_neg (fun F B H P v x post Q w rx wr k => by
  obtain ⟨i, rfl, p⟩ := wr
  exact ⟨i, Rep.int_inv rx, KX.here k w (x := .fr _) (.int _) p⟩) ha
abbrev wLt := wI0 fun i j => .bool (decide (i < j))
abbrev wLe := wI0 fun i j => .bool (decide (i ≤ j))
abbrev wGt := wI0 fun i j => .bool (decide (j < i))
abbrev wGe := wI0 fun i j => .bool (decide (j ≤ i))
theorem o_bI {p : Int → Int → Bool} : OpS Z (rI0 fun i j => .bl (p i j)) (wI0 fun i j => .bool (p i j)) := o_I0 fun _ _ i j => .bl _
theorem qe_lt (ha : PE X a (LE Z wa)) (hb : PE X b (LE Z wb)) : PE X (.Compare a [.Lt] [b] pos) (LE Z (wOp wLt wa wb)) := qe_cmpR op_lt o_bI ha hb (nomark _)
theorem qe_le (ha : PE X a (LE Z wa)) (hb : PE X b (LE Z wb)) : PE X (.Compare a [.LtE] [b] pos) (LE Z (wOp wLe wa wb)) := qe_cmpR op_le o_bI ha hb (nomark _)
theorem qe_gt (ha : PE X a (LE Z wa)) (hb : PE X b (LE Z wb)) : PE X (.Compare a [.Gt] [b] pos) (LE Z (wOp wGt wa wb)) := qe_cmpR op_gt o_bI ha hb (nomark _)
theorem qe_ge (ha : PE X a (LE Z wa)) (hb : PE X b (LE Z wb)) : PE X (.Compare a [.GtE] [b] pos) (LE Z (wOp wGe wa wb)) := qe_cmpR op_ge o_bI ha hb (nomark _)
/-! ### is None -/
def dIsN : D → Bool
  | .none => true
  | _ => false
def xIsN : DL.X → Bool
  | .fr d => dIsN d
  | .ow _ => false
theorem XR_isN {F : Hp} {B : Addr → Prop} {H : Hp} {P : Addr → Prop} {v : V} {x : DL.X} (h : XR Z F B H P v x) : decide (v = .non) = xIsN x := by
  cases x with
  | fr d =>
    have h : Rep Z F B v d := h
    cases h <;> rfl
  | ow ds =>
    obtain ⟨l, rfl, _⟩ := h
    rfl
def wIsN (neg : Bool) : DL.X → DL.X → (DL.X → Prop) → Prop := fun x y post => y = .fr .none ∧ post (.fr (.bool (if neg then !xIsN x else xIsN x)))
theorem qe_isN (ha : PE X a (LE Z wa)) (hb : PE X b (LE Z wb)) : PE X (.Compare a [.Is] [b] pos) (LE Z (wOp (wIsN false) wa wb)) := qe_cmpR op_isN (fun F B H P v u x y post Q w rx ry wr k => by
  obtain ⟨rfl, p⟩ := wr
  exact ⟨Rep.non_inv ry, KX.here k w (x := .fr _) (by rw [XR_isN rx]; exact .bl _) p⟩) ha hb (nomark _)
theorem qe_notN (ha : PE X a (LE Z wa)) (hb : PE X b (LE Z wb)) : PE X (.Compare a [.IsNot] [b] pos) (LE Z (wOp (wIsN true) wa wb)) := qe_cmpR op_notN (fun F B H P v u x y post Q w rx ry wr k => by
  obtain ⟨rfl, p⟩ := wr
  exact ⟨Rep.non_inv ry, KX.here k w (x := .fr _) (by rw [XR_isN rx]; exact .bl _) p⟩) ha hb (nomark _)
/-! ### == of data -/
theorem XR.dp {F : Hp} {B : Addr → Prop} {H : Hp} {P : Addr → Prop} {v : V} {x : DL.X} (w : Wf Z F B H) (h : XR Z F B H P v x) (c : x.dat.canLay0 = true) : Dp Z.K H v x.dat := by
  cases x with
  | fr d => exact Rep.dp w.ex d h c
  | ow ds =>
    obtain ⟨l, rfl, o, _⟩ := h
    obtain ⟨vs, h1, h2⟩ := o.at_
    have c' : PyData.canLay0 (.list ds) = true := c
    exact .lst (SqL.of h1) (RepAll.dp w.ex ds h2 (by simpa [PyData.canLay0] using c'))
def wEq (neg : Bool) : DL.X → DL.X → (DL.X → Prop) → Prop := fun x y post => SeqAt.shaped x.dat = true ∧ SeqAt.shaped y.dat = true ∧ post (.fr (.bool (if neg then !PyData.eqv x.dat y.dat else PyData.eqv x.dat y.dat)))
theorem qe_eq (hK : X.K = Z.K) (hu : X.A.units + 64 < cLine) (ha : PE X a (LE Z wa)) (hb : PE X b (LE Z wb)) : PE X (.Compare a [.Eq] [b] pos) (LE Z (wOp (wEq false) wa wb)) := qe_cmpR (op_eqD hu) (fun F B H P v u x y post Q w rx ry wr k => by
  obtain ⟨s1, s2, p⟩ := wr
  rw [hK]
  exact ⟨_, _, XR.dp w rx (SeqAt.canLay_of_shaped s1), XR.dp w ry (SeqAt.canLay_of_shaped s2), s1, s2, KX.here k w (x := .fr _) (.bl _) p⟩) ha hb (nomark _)
theorem qe_ne (hK : X.K = Z.K) (hu : X.A.units + 64 < cLine) (ha : PE X a (LE Z wa)) (hb : PE X b (LE Z wb)) : PE X (.Compare a [.NotEq] [b] pos) (LE Z (wOp (wEq true) wa wb)) := qe_cmpR (op_neD hu) (fun F B H P v u x y post Q w rx ry wr k => by
  obtain ⟨s1, s2, p⟩ := wr
  rw [hK]
  exact ⟨_, _, XR.dp w rx (SeqAt.canLay_of_shaped s1), XR.dp w ry (SeqAt.canLay_of_shaped s2), s1, s2, KX.here k w (x := .fr _) (.bl _) p⟩) ha hb (nomark _)
end
/-! ### a test -/
def wTest (we : WE) : WT := fun ρ post => we ρ fun x => ∃ b, x = .fr (.bool b) ∧ post b
def wAnd (t u : WT) : WT := fun ρ post => t ρ fun b => if b = true then u ρ post else post false
def wOr (t u : WT) : WT := fun ρ post => t ρ fun b => if b = true then post true else u ρ post
def wNot (t : WT) : WT := fun ρ post => t ρ fun b => post (!b)
def wAndV (a b : WE) : WE := fun ρ post => a ρ fun x => ∃ c, x = .fr (.bool c) ∧ if c = true then b ρ post else post (.fr (.bool false))
def wOrV (a b : WE) : WE := fun ρ post => a ρ fun x => ∃ c, x = .fr (.bool c) ∧ if c = true then post (.fr (.bool true)) else b ρ post
def wNotV (a : WE) : WE := fun ρ post => a ρ fun x => ∃ c, x = .fr (.bool c) ∧ post (.fr (.bool (!c)))
def wIf (t : WT) (a b : WE) : WE := fun ρ post => t ρ fun c => if c = true then a ρ post else b ρ post
section
variable {Z : Par} {t u : WT} {wa wb : WE} {σ : L2.St} {H : Hp} {Q : Bool → Hp → Prop} {R : VK}
theorem s_test (h : LT Z (wTest wa) σ H Q) : tTest (LE Z wa) σ H Q := by
  obtain ⟨F, B, P, ρ, post, a, w, k⟩ := h
  refine ⟨F, B, P, ρ, _, a, w, fun F1 B1 H1 v x e1 w1 r1 p1 => ?_⟩
  obtain ⟨b, rfl, p⟩ := p1
  exact ⟨b, Rep.bl_inv r1, k _ _ _ b e1 w1 p⟩
theorem s_testB (h : LT Z (wTest wa) σ H Q) : tB (LE Z wa) σ H Q := s_test h
theorem s_and (h : LT Z (wAnd t u) σ H Q) : tAnd (LT Z t) (LT Z u) σ H Q := by
  obtain ⟨F, B, P, ρ, post, a, w, k⟩ := h
  refine ⟨F, B, P, ρ, _, a, w, fun F1 B1 H1 b e1 w1 p1 => ?_⟩
  cases b with
  | true => exact ⟨F1, B1, P, ρ, _, a.step e1 w1, p1, fun F2 B2 H2 b e2 w2 p2 => k _ _ _ b (e1.then e2) w2 p2⟩
  | false => exact k _ _ _ false e1 w1 p1
theorem s_or (h : LT Z (wOr t u) σ H Q) : tOr (LT Z t) (LT Z u) σ H Q := by
  obtain ⟨F, B, P, ρ, post, a, w, k⟩ := h
  refine ⟨F, B, P, ρ, _, a, w, fun F1 B1 H1 b e1 w1 p1 => ?_⟩
  cases b with
  | false => exact ⟨F1, B1, P, ρ, _, a.step e1 w1, p1, fun F2 B2 H2 b e2 w2 p2 => k _ _ _ b (e1.then e2) w2 p2⟩
  | true => exact k _ _ _ true e1 w1 p1
theorem s_not (h : LT Z (wNot t) σ H Q) : tNot (LT Z t) σ H Q := by
  obtain ⟨F, B, P, ρ, post, a, w, k⟩ := h
  exact ⟨F, B, P, ρ, _, a, w, fun F1 B1 H1 b e1 w1 p1 => k _ _ _ _ e1 w1 p1⟩
theorem s_if (h : LE Z (wIf t wa wb) σ H R) : tIf (LT Z t) (LE Z wa) (LE Z wb) σ H R := by
  obtain ⟨F, B, P, ρ, post, a, w, k⟩ := h
  refine ⟨F, B, P, ρ, _, a, w, fun F1 B1 H1 b e1 w1 p1 => ?_⟩
  cases b with
  | true => exact ⟨F1, B1, P, ρ, _, a.step e1 w1, p1, KX.later k e1⟩
  | false => exact ⟨F1, B1, P, ρ, _, a.step e1 w1, p1, KX.later k e1⟩
theorem s_andV (h : LE Z (wAndV wa wb) σ H R) : tAndV (LE Z wa) (LE Z wb) σ H R := by
  obtain ⟨F, B, P, ρ, post, a, w, k⟩ := h
  refine ⟨F, B, P, ρ, _, a, w, fun F1 B1 H1 v x e1 w1 r1 p1 => ?_⟩
  obtain ⟨b, rfl, p1⟩ := p1
  refine ⟨b, Rep.bl_inv r1, ?_⟩
  cases b with
  | true => exact ⟨F1, B1, P, ρ, _, a.step e1 w1, p1, KX.later k e1⟩
  | false => exact k _ _ _ _ (.fr _) e1 w1 (.bl false) p1
theorem s_orV (h : LE Z (wOrV wa wb) σ H R) : tOrV (LE Z wa) (LE Z wb) σ H R := by
  obtain ⟨F, B, P, ρ, post, a, w, k⟩ := h
  refine ⟨F, B, P, ρ, _, a, w, fun F1 B1 H1 v x e1 w1 r1 p1 => ?_⟩
  obtain ⟨b, rfl, p1⟩ := p1
  refine ⟨b, Rep.bl_inv r1, ?_⟩
  cases b with
  | false => exact ⟨F1, B1, P, ρ, _, a.step e1 w1, p1, KX.later k e1⟩
  | true => exact k _ _ _ _ (.fr _) e1 w1 (.bl true) p1
theorem s_notV (h : LE Z (wNotV wa) σ H R) : tNotV (LE Z wa) σ H R := by
  obtain ⟨F, B, P, ρ, post, a, w, k⟩ := h
  refine ⟨F, B, P, ρ, _, a, w, fun F1 B1 H1 v x e1 w1 r1 p1 => ?_⟩
  obtain ⟨b, rfl, p1⟩ := p1
  exact ⟨b, Rep.bl_inv r1, k _ _ _ _ (.fr _) e1 w1 (.bl _) p1⟩
end
section
variable {Z : Par} {X : Cx} {a b c : Expr} {rest : List Expr} {wa wb wc : WE} {t u : WT} {pos : Pos}
theorem qt_cmpR {op : CmpOp} {r : R2} {wr : DL.X → DL.X → (DL.X → Prop) → Prop} (ho : OpR X (compareOp op) r) (hs : OpS Z r wr) (ha : PE X a (LE Z wa)) (hb : PE X b (LE Z wb)) (hm : behindInMarks op b = false) : PT X (.Compare a [op] [b] pos) (LT Z (wTest (wOp wr wa wb))) :=
  ptW (pt_cmpR ho ha hb hm) fun σ H Q h => by
    obtain ⟨F, B, P, ρ, post, a, w, k⟩ := h
    refine s_op hs ⟨F, B, P, ρ, _, a, w, fun F1 B1 H1 v x e1 w1 r1 p1 => ?_⟩
    obtain ⟨b, rfl, p⟩ := p1
    exact ⟨b, Rep.bl_inv r1, k _ _ _ b e1 w1 p⟩
theorem qt_val (h : PE X a (LE Z wa)) (he : ∀ whole, isTrue a X.env whole = (do let v ← whole; standAt a.pos; holding [v] (truthy v)) := by intro _; rfl) : PT X a (LT Z (wTest wa)) := ptW (pt_val h he) fun _ _ _ q => s_testB q
theorem qt_lt (ha : PE X a (LE Z wa)) (hb : PE X b (LE Z wb)) : PT X (.Compare a [.Lt] [b] pos) (LT Z (wTest (wOp wLt wa wb))) := qt_cmpR op_lt o_bI ha hb (nomark _)
theorem qt_le (ha : PE X a (LE Z wa)) (hb : PE X b (LE Z wb)) : PT X (.Compare a [.LtE] [b] pos) (LT Z (wTest (wOp wLe wa wb))) := qt_cmpR op_le o_bI ha hb (nomark _)
theorem qt_gt (ha : PE X a (LE Z wa)) (hb : PE X b (LE Z wb)) : PT X (.Compare a [.Gt] [b] pos) (LT Z (wTest (wOp wGt wa wb))) := qt_cmpR op_gt o_bI ha hb (nomark _)
theorem qt_ge (ha : PE X a (LE Z wa)) (hb : PE X b (LE Z wb)) : PT X (.Compare a [.GtE] [b] pos) (LT Z (wTest (wOp wGe wa wb))) := qt_cmpR op_ge o_bI ha hb (nomark _)
theorem qt_isN (ha : PE X a (LE Z wa)) (hb : PE X b (LE Z wb)) : PT X (.Compare a [.Is] [b] pos) (LT Z (wTest (wOp (wIsN false) wa wb))) := qt_cmpR op_isN (fun F B H P v u x y post Q w rx ry wr k => by
  obtain ⟨rfl, p⟩ := wr
  exact ⟨Rep.non_inv ry, KX.here k w (x := .fr _) (by rw [XR_isN rx]; exact .bl _) p⟩) ha hb (nomark _)
theorem qt_notN (ha : PE X a (LE Z wa)) (hb : PE X b (LE Z wb)) : PT X (.Compare a [.IsNot] [b] pos) (LT Z (wTest (wOp (wIsN true) wa wb))) := qt_cmpR op_notN (fun F B H P v u x y post Q w rx ry wr k => by
  obtain ⟨rfl, p⟩ := wr
  exact ⟨Rep.non_inv ry, KX.here k w (x := .fr _) (by rw [XR_isN rx]; exact .bl _) p⟩) ha hb (nomark _)
theorem qt_eq (hK : X.K = Z.K) (hu : X.A.units + 64 < cLine) (ha : PE X a (LE Z wa)) (hb : PE X b (LE Z wb)) : PT X (.Compare a [.Eq] [b] pos) (LT Z (wTest (wOp (wEq false) wa wb))) := qt_cmpR (op_eqD hu) (fun F B H P v u x y post Q w rx ry wr k => by
  obtain ⟨s1, s2, p⟩ := wr
  rw [hK]
  exact ⟨_, _, XR.dp w rx (SeqAt.canLay_of_shaped s1), XR.dp w ry (SeqAt.canLay_of_shaped s2), s1, s2, KX.here k w (x := .fr _) (.bl _) p⟩) ha hb (nomark _)
theorem qt_ne (hK : X.K = Z.K) (hu : X.A.units + 64 < cLine) (ha : PE X a (LE Z wa)) (hb : PE X b (LE Z wb)) : PT X (.Compare a [.NotEq] [b] pos) (LT Z (wTest (wOp (wEq true) wa wb))) := qt_cmpR (op_neD hu) (fun F B H P v u x y post Q w rx ry wr k => by
  obtain ⟨s1, s2, p⟩ := wr
  rw [hK]
  exact ⟨_, _, XR.dp w rx (SeqAt.canLay_of_shaped s1), XR.dp w ry (SeqAt.canLay_of_shaped s2), s1, s2, KX.here k w (x := .fr _) (.bl _) p⟩) ha hb (nomark _)
theorem qw_and1 (ha : PT X a (LT Z t)) : PW X (.BoolOp .And [a] pos) (LT Z t) := pw_and1 ha
theorem qw_or1 (ha : PT X a (LT Z t)) : PW X (.BoolOp .Or [a] pos) (LT Z t) := pw_or1 ha
theorem qw_and (ha : PT X a (LT Z t)) (hb : PW X (.BoolOp .And (b :: rest) pos) (LT Z u)) : PW X (.BoolOp .And (a :: b :: rest) pos) (LT Z (wAnd t u)) := pwW (pw_and ha hb) fun _ _ _ h => s_and h
theorem qw_or (ha : PT X a (LT Z t)) (hb : PW X (.BoolOp .Or (b :: rest) pos) (LT Z u)) : PW X (.BoolOp .Or (a :: b :: rest) pos) (LT Z (wOr t u)) := pwW (pw_or ha hb) fun _ _ _ h => s_or h
theorem qt_not (ha : PT X a (LT Z t)) : PT X (.UnaryOp .Not a pos) (LT Z (wNot t)) := ptW (pt_not ha) fun _ _ _ h => s_not h
theorem qe_one {op} (h : PE X a (LE Z wa)) : PE X (.BoolOp op [a] pos) (LE Z wa) := pe_one h
theorem qe_and (ha : PE X a (LE Z wa)) (hb : PE X (.BoolOp .And (b :: rest) pos) (LE Z wb)) : PE X (.BoolOp .And (a :: b :: rest) pos) (LE Z (wAndV wa wb)) := peW (pe_and ha hb) fun _ _ _ h => s_andV h
theorem qe_or (ha : PE X a (LE Z wa)) (hb : PE X (.BoolOp .Or (b :: rest) pos) (LE Z wb)) : PE X (.BoolOp .Or (a :: b :: rest) pos) (LE Z (wOrV wa wb)) := peW (pe_or ha hb) fun _ _ _ h => s_orV h
theorem qe_not (ha : PE X a (LE Z wa)) : PE X (.UnaryOp .Not a pos) (LE Z (wNotV wa)) := peW (pe_not ha) fun _ _ _ h => s_notV h
theorem qe_ifExp (hc : PT X c (LT Z t)) (ha : PE X a (LE Z wa)) (hb : PE X b (LE Z wb)) : PE X (.IfExp c a b pos) (LE Z (wIf t wa wb)) := peW (pe_ifExp hc ha hb) fun _ _ _ h => s_if h
/-- a <= b <= c of ints -/
def wChain (p q : Int → Int → Bool) (wa wb wc : WE) : WE := fun ρ post => wa ρ fun x => wb ρ fun y => ∃ i j, x = .fr (.int i) ∧ y = .fr (.int j) ∧ if p i j = true then wc ρ fun z => ∃ k, z = .fr (.int k) ∧ post (.fr (.bool (q j k))) else post (.fr (.bool false))
end
end DL

/-! The data layer's rules: displays, built-ins, places, comprehensions, statements, defs. -/
namespace DL
open PySem PySem.Spec PyProof.Rows L2
theorem sz {n : Nat} (h : n ≤ 100000) : n ≤ sizeLine := Nat.le_trans h (by decide)
theorem szl {n : Nat} (h : n < 100000) : n < sizeLine := Nat.lt_of_lt_of_le h (by decide)
abbrev KN (Z : Par) (F : Hp) (B : Addr → Prop) (H : Hp) (post : List D → Prop) (Q : VK) : Prop := ∀ F' B' H' l ds, Le (dm H) F B H F' B' H' → Wf Z F' B' H' → H l = none → OwnAt Z F' B' H' l ds → post ds → Q (.ref l) H'
section
variable {Z : Par} {P : Addr → Prop} {F F1 : Hp} {B B1 : Addr → Prop} {H H1 : Hp} {Q : VK}
/-- a new list that is nobody's yet -/
theorem KN.new {p : Addr} {vs : List V} {ds : List D} {post : List D → Prop} (k : KN Z F B H post Q) (w : Wf Z F B H) (hp : H p = none) (r : RepAll Z F B vs ds) (q : post ds) : Q (.ref p) (upd H p (.lst vs)) := by
  have fp : F p = none := Evl.fresh_back w.ex hp
  have nb : ¬ B p := w.bagNew hp
  refine k F B (upd H p (.lst vs)) p ds ⟨Evl.Ex.refl F, fun _ h => h, fun a u _ _ e => by rw [upd_ne (ne_of_none e hp)]; exact e, fun a n => ?_, fun _ _ h => h, fun _ _ h => h⟩ ⟨w.ex.mut fp, fun b hb => ?_, w.tabs⟩ hp ⟨fp, nb, vs, upd_same, r⟩ q
  · by_cases ha : a = p
    · subst ha; rw [upd_same]; exact fun q => nomatch q
    · rw [upd_ne ha]; exact n
  · obtain ⟨h1, h2⟩ := w.bags b hb
    exact ⟨h1, h2.mono (Evl.Ex.refl F) (upd_ne fun z => nb (z ▸ hb))⟩
theorem back_dm (e : Le (dm H) F B H F1 B1 H1) {l : Addr} (n : H1 l = none) : H l = none := Classical.byContradiction fun h => e.dom l h n
theorem KN.later {post : List D → Prop} (k : KN Z F B H post Q) (e : Le (dm H) F B H F1 B1 H1) : KN Z F1 B1 H1 post Q := fun F' B' H' l ds e' w n o p => k F' B' H' l ds (e.then e') w (back_dm e n) o p
/-- a new list that is frozen at once -/
theorem fr_list {F' : Hp} {B' : Addr → Prop} {H' : Hp} {l : Addr} {ds : List D} {post : DL.X → Prop} (k : KX Z P F B H post Q) (e : Le (dm H) F B H F' B' H') (w : Wf Z F' B' H') (n : H l = none) (o : OwnAt Z F' B' H' l ds) (q : post (.fr (.list ds))) : Q (.ref l) H' := by
  obtain ⟨vs, h1, h2⟩ := o.at_
  have ex : Ex F' (upd F' l (.lst vs)) := Evl.Ex.new o.nf
  refine k (upd F' l (.lst vs)) B' H' _ (.fr (.list ds)) ⟨e.ex.trans ex, e.bg, e.hp, e.dom, fun a ha hf => ?_, e.nb⟩ ⟨fun a u h => ?_, fun b hb => ?_, w.tabs⟩ (.lst upd_same (h2.mono ex fun _ h => h)) q
  · rw [upd_ne (fun z => ha (by rw [z]; exact n))]
    exact e.nf a ha hf
  · by_cases ha : a = l
    · subst ha; rw [upd_same] at h; rw [h1]; exact h
    · rw [upd_ne ha] at h; exact w.ex a u h
  · obtain ⟨b1, b2⟩ := w.bags b hb
    exact ⟨by rw [upd_ne (fun z => o.nb (by rw [← z]; exact hb))]; exact b1, b2.mono ex rfl⟩
end
def wFrz (wn : WN) : WE := fun ρ post => wn ρ fun ds => post (.fr (.list ds))
section
variable {Z : Par} {X : Cx} {a b c e : Expr} {es : List Expr} {wa wb wc we : WE} {wl : WA} {wn wm : WN} {pos : Pos} {σ : L2.St} {H : Hp} {Q : VK}
theorem s_frz (h : LE Z (wFrz wn) σ H Q) : LN Z wn σ H Q := by
  obtain ⟨F, B, P, ρ, post, a, w, k⟩ := h
  exact ⟨F, B, P, ρ, _, a, w, fun F' B' H' l ds e w' n o p => fr_list k e w' n o p⟩
theorem qe_frz (h : PE X a (LN Z wn)) : PE X a (LE Z (wFrz wn)) := peW h fun _ _ _ h => s_frz h
/-! ### a <= b <= c -/
theorem s_chain {p q : Int → Int → Bool} (h : LE Z (wChain p q wa wb wc) σ H Q) : tChain (rI0 fun i j => .bl (p i j)) (rI0 fun i j => .bl (q i j)) (LE Z wa) (LE Z wb) (LE Z wc) σ H Q := by
  obtain ⟨F, B, P, ρ, post, a, w, k⟩ := h
  refine ⟨F, B, P, ρ, _, a, w, fun F1 B1 H1 v x e1 w1 r1 p1 => ?_⟩
  refine ⟨F1, B1, P, ρ, _, a.step e1 w1, p1, fun F2 B2 H2 u y e2 w2 r2 p2 => ?_⟩
  obtain ⟨i, j, rfl, rfl, p3⟩ := p2
  refine ⟨i, j, Rep.int_inv (r1.mono e2), Rep.int_inv r2, _, rfl, ?_⟩
  cases hp : p i j with
  | true =>
    rw [hp, if_pos rfl] at p3
    rw [if_pos rfl]
    refine ⟨F2, B2, P, ρ, _, a.step (e1.then e2) w2, p3, fun F3 B3 H3 z y e3 w3 r3 p4 => ?_⟩
    obtain ⟨k', rfl, p4⟩ := p4
    exact ⟨j, k', Rep.int_inv (XR.mono r2 e3), Rep.int_inv r3, k _ _ _ _ (.fr _) ((e1.then e2).then e3) w3 (.bl _) p4⟩
  | false =>
    rw [hp, if_neg Bool.false_ne_true] at p3
    rw [if_neg Bool.false_ne_true]
    exact k _ _ _ _ (.fr _) (e1.then e2) w2 (.bl _) p3
theorem qe_leLe (ha : PE X a (LE Z wa)) (hb : PE X b (LE Z wb)) (hc : PE X c (LE Z wc)) (hm : lastMarks [.LtE, .LtE] [b, c] = false := by with_unfolding_all rfl) : PE X (.Compare a [.LtE, .LtE] [b, c] pos) (LE Z (wChain (fun i j => decide (i ≤ j)) (fun i j => decide (i ≤ j)) wa wb wc)) :=
  peW (pe_chain op_le op_le ha hb hc hm) fun _ _ _ h => s_chain h
theorem qt_leLe (ha : PE X a (LE Z wa)) (hb : PE X b (LE Z wb)) (hc : PE X c (LE Z wc)) (hm : lastMarks [.LtE, .LtE] [b, c] = false := by with_unfolding_all rfl) : PT X (.Compare a [.LtE, .LtE] [b, c] pos) (LT Z (wTest (wChain (fun i j => decide (i ≤ j)) (fun i j => decide (i ≤ j)) wa wb wc))) :=
  ptW (pt_chain op_le op_le ha hb hc hm) fun σ H Q h => by
    obtain ⟨F, B, P, ρ, post, a, w, k⟩ := h
    refine s_chain ⟨F, B, P, ρ, _, a, w, fun F1 B1 H1 v x e1 w1 r1 p1 => ?_⟩
    obtain ⟨b, rfl, p⟩ := p1
    exact ⟨b, Rep.bl_inv r1, k _ _ _ b e1 w1 p⟩
/-! ### displays -/
def wTup (wl : WA) : WE := fun ρ post => wl ρ fun xs => ∃ ds, xs = ds.map DL.X.fr ∧ ds.length ≤ 100000 ∧ post (.fr (.tuple ds))
def wLst (wl : WA) : WN := fun ρ post => wl ρ fun xs => ∃ ds, xs = ds.map DL.X.fr ∧ ds.length ≤ 100000 ∧ post ds
theorem s_tup (h : LE Z (wTup wl) σ H Q) : tTup (LA Z wl) σ H Q := by
  obtain ⟨F, B, P, ρ, post, a, w, k⟩ := h
  refine ⟨F, B, P, ρ, _, a, w, fun F1 B1 H1 vs xs e1 w1 r1 p1 => ?_⟩
  obtain ⟨ds, rfl, hl, p⟩ := p1
  have r := XRs.fr r1
  refine ⟨by rw [r.length]; exact sz hl, fun q hq => ?_⟩
  have fq : F1 q = none := Evl.fresh_back w1.ex hq
  exact KX.new (KX.later k e1) w1 hq (.tup upd_same (r.mono (Evl.Ex.new fq) fun _ h => h)) p
theorem qe_tup {x1} (h : PA X es (LA Z wl)) : PE X (.Tuple es x1 pos) (LE Z (wTup wl)) := peW (pe_tup h) fun _ _ _ h => s_tup h
theorem s_lst (h : LN Z (wLst wl) σ H Q) : tLst (LA Z wl) σ H Q := by
  obtain ⟨F, B, P, ρ, post, a, w, k⟩ := h
  refine ⟨F, B, P, ρ, _, a, w, fun F1 B1 H1 vs xs e1 w1 r1 p1 => ?_⟩
  obtain ⟨ds, rfl, hl, p⟩ := p1
  have r := XRs.fr r1
  exact ⟨by rw [r.length]; exact sz hl, fun q hq => KN.new (KN.later k e1) w1 hq r p⟩
theorem qn_lst (h : PA X es (LA Z wl)) : PE X (.List es pos) (LN Z (wLst wl)) := peW (pe_lst h) fun _ _ _ h => s_lst h
/-! ### built-ins by value -/
def CallN (Z : Par) (r : List V → Hp → VK → Prop) (wr : List DL.X → (List D → Prop) → Prop) : Prop := ∀ F B H P vs xs post Q, Wf Z F B H → XRs Z F B H P vs xs → wr xs post → KN Z F B H post Q → r vs H Q
def OpN (Z : Par) (r : R2) (wr : DL.X → DL.X → (List D → Prop) → Prop) : Prop := ∀ F B H P v u x y post Q, Wf Z F B H → XR Z F B H P v x → XR Z F B H P u y → wr x y post → KN Z F B H post Q → r v u H Q
def wCallN (wr : List DL.X → (List D → Prop) → Prop) (wa : WA) : WN := fun ρ post => wa ρ fun xs => wr xs post
def wOpN (wr : DL.X → DL.X → (List D → Prop) → Prop) (wa wb : WE) : WN := fun ρ post => wa ρ fun x => wb ρ fun y => wr x y post
theorem s_callN {r : List V → Hp → VK → Prop} {wr : List DL.X → (List D → Prop) → Prop} (hs : CallN Z r wr) (h : LN Z (wCallN wr wl) σ H Q) : tCB r (LA Z wl) σ H Q := by
  obtain ⟨F, B, P, ρ, post, a, w, k⟩ := h
  exact ⟨F, B, P, ρ, _, a, w, fun F1 B1 H1 vs xs e1 w1 r1 p1 => hs F1 B1 H1 P vs xs post Q w1 r1 p1 (KN.later k e1)⟩
theorem s_opN {r : R2} {wr : DL.X → DL.X → (List D → Prop) → Prop} (hs : OpN Z r wr) (h : LN Z (wOpN wr wa wb) σ H Q) : tOp r (LE Z wa) (LE Z wb) σ H Q := by
  obtain ⟨F, B, P, ρ, post, a, w, k⟩ := h
  refine ⟨F, B, P, ρ, _, a, w, fun F1 B1 H1 v x e1 w1 r1 p1 => ?_⟩
  refine ⟨F1, B1, P, ρ, _, a.step e1 w1, p1, fun F2 B2 H2 u y e2 w2 r2 p2 => ?_⟩
  exact hs F2 B2 H2 P v u x y post Q w2 (r1.mono e2) r2 p2 (KN.later k (e1.then e2))
variable {id : String} {x : Str} {T : String} {r : List V → Hp → VK → Prop} {p : Pos}
theorem qe_callB {wr : List DL.X → (DL.X → Prop) → Prop} (hc : CallR X (.builtin id) r) (hs : CallS Z r wr) (hm : X.mg x = none) (ha : PA X (e :: es) (LA Z wl)) (hg : Gl X x := by rfl) (hv : bootBuiltins x = some (.builtin id) := by decide +kernel) (hn : x ≠ "__name__" := by decide) (hdb : (x == ("__debug__" : Str)) = false := by decide)
    (he : starEach (e :: es) X.env = (false, eval e X.env) :: starEach es X.env := by rfl) (hpl : (backTo pos (starEach es X.env)).any (·.1) = false := by rfl) : PE X (.Call (.Name x p) (e :: es) [] pos) (LE Z (wCall wr wl)) :=
  peW (pe_callB hc hg hm hv ha hn hdb he hpl) fun _ _ _ h => s_call hs h
theorem qe_callTy {wr : List DL.X → (DL.X → Prop) → Prop} (hc : CallR X (.type T) r) (hs : CallS Z r wr) (hm : X.mg x = none) (ha : PA X (e :: es) (LA Z wl)) (hg : Gl X x := by rfl) (hv : bootBuiltins x = some (.type T) := by decide +kernel) (hn : x ≠ "__name__" := by decide) (hdb : (x == ("__debug__" : Str)) = false := by decide)
    (he : starEach (e :: es) X.env = (false, eval e X.env) :: starEach es X.env := by rfl) (hpl : (backTo pos (starEach es X.env)).any (·.1) = false := by rfl) : PE X (.Call (.Name x p) (e :: es) [] pos) (LE Z (wCall wr wl)) :=
  peW (pe_callTy hc hg hm hv ha hn hdb he hpl) fun _ _ _ h => s_call hs h
theorem qn_callTy {wr : List DL.X → (List D → Prop) → Prop} (hc : CallR X (.type T) r) (hs : CallN Z r wr) (hm : X.mg x = none) (ha : PA X (e :: es) (LA Z wl)) (hg : Gl X x := by rfl) (hv : bootBuiltins x = some (.type T) := by decide +kernel) (hn : x ≠ "__name__" := by decide) (hdb : (x == ("__debug__" : Str)) = false := by decide)
    (he : starEach (e :: es) X.env = (false, eval e X.env) :: starEach es X.env := by rfl) (hpl : (backTo pos (starEach es X.env)).any (·.1) = false := by rfl) : PE X (.Call (.Name x p) (e :: es) [] pos) (LN Z (wCallN wr wl)) :=
  peW (pe_callTy hc hg hm hv ha hn hdb he hpl) fun _ _ _ h => s_callN hs h
theorem qn_callB {wr : List DL.X → (List D → Prop) → Prop} (hc : CallR X (.builtin id) r) (hs : CallN Z r wr) (hm : X.mg x = none) (ha : PA X (e :: es) (LA Z wl)) (hg : Gl X x := by rfl) (hv : bootBuiltins x = some (.builtin id) := by decide +kernel) (hn : x ≠ "__name__" := by decide) (hdb : (x == ("__debug__" : Str)) = false := by decide)
    (he : starEach (e :: es) X.env = (false, eval e X.env) :: starEach es X.env := by rfl) (hpl : (backTo pos (starEach es X.env)).any (·.1) = false := by rfl) : PE X (.Call (.Name x p) (e :: es) [] pos) (LN Z (wCallN wr wl)) :=
  peW (pe_callB hc hg hm hv ha hn hdb he hpl) fun _ _ _ h => s_callN hs h
end
/-! ### what a value's items are -/
theorem XRs.one {Z : Par} {F : Hp} {B : Addr → Prop} {H : Hp} {P : Addr → Prop} {vs : List V} {x : X} (h : XRs Z F B H P vs [x]) : ∃ v, vs = [v] ∧ XR Z F B H P v x := by
  cases h with
  | cons h r =>
    cases r
    exact ⟨_, rfl, h⟩
theorem XRs.two {Z : Par} {F : Hp} {B : Addr → Prop} {H : Hp} {P : Addr → Prop} {vs : List V} {x y : X} (h : XRs Z F B H P vs [x, y]) : ∃ v u, vs = [v, u] ∧ XR Z F B H P v x ∧ XR Z F B H P u y := by
  cases h with
  | cons h r =>
    obtain ⟨u, rfl, h2⟩ := r.one
    exact ⟨_, _, rfl, h, h2⟩
/-- a list's, a tuple's, the script's items -/
inductive Its : X → List D → Prop
  | lst (ds : List D) : Its (.fr (.list ds)) ds
  | tup (ds : List D) : Its (.fr (.tuple ds)) ds
  | ow (ds : List D) : Its (.ow ds) ds
  | scr (ns : List Int) : Its (.fr (scrD ns)) (ns.map PyData.int)
section
variable {Z : Par} {F : Hp} {B : Addr → Prop} {H : Hp} {P : Addr → Prop} {v : V} {x : X} {ds : List D}
theorem Its.at (w : Wf Z F B H) (i : Its x ds) (r : XR Z F B H P v x) : ∃ p vs, v = .ref p ∧ (SqL Z.K H p vs ∨ SqT Z.K H p vs) ∧ RepAll Z F B vs ds := by
  cases i with
  | lst =>
    obtain ⟨a, vs, rfl, h1, h2⟩ := Rep.lst_inv r
    exact ⟨a, vs, rfl, .inl (SqL.of (w.ex _ _ h1)), h2⟩
  | tup =>
    obtain ⟨a, vs, rfl, h1, h2⟩ := Rep.tup_inv r
    exact ⟨a, vs, rfl, .inr (SqT.of (w.ex _ _ h1)), h2⟩
  | ow =>
    obtain ⟨l, rfl, o, _⟩ := r
    obtain ⟨vs, h1, h2⟩ := o.at_
    exact ⟨l, vs, rfl, .inl (SqL.of h1), h2⟩
  | scr ns =>
    obtain ⟨a, rfl, h, _⟩ := Rep.scr_inv r
    exact ⟨a, _, rfl, .inl (Evl.ex_l w.ex h), RepAll.of_ints ns⟩
/-- a list that one can join -/
inductive ItL : X → List D → Prop
  | lst (ds : List D) : ItL (.fr (.list ds)) ds
  | ow (ds : List D) : ItL (.ow ds) ds
theorem ItL.at (w : Wf Z F B H) (i : ItL x ds) (r : XR Z F B H P v x) : ∃ p vs, v = .ref p ∧ H p = some (.lst vs) ∧ RepAll Z F B vs ds := by
  cases i with
  | lst =>
    obtain ⟨a, vs, rfl, h1, h2⟩ := Rep.lst_inv r
    exact ⟨a, vs, rfl, w.ex _ _ h1, h2⟩
  | ow =>
    obtain ⟨l, rfl, o, _⟩ := r
    obtain ⟨vs, h1, h2⟩ := o.at_
    exact ⟨l, vs, rfl, h1, h2⟩
end
def wLen : List X → (X → Prop) → Prop := fun xs post => ∃ x ds, xs = [x] ∧ Its x ds ∧ post (.fr (.int (ds.length : Int)))
def wMax : List X → (X → Prop) → Prop := fun xs post => ∃ i j : Int, xs = [.fr (.int i), .fr (.int j)] ∧ post (.fr (.int (if j > i then j else i)))
def wMin : List X → (X → Prop) → Prop := fun xs post => ∃ i j : Int, xs = [.fr (.int i), .fr (.int j)] ∧ post (.fr (.int (if j < i then j else i)))
def wSum : List X → (X → Prop) → Prop := fun xs post => ∃ (x : X) (ns : List Int), xs = [x] ∧ ItL x (ns.map PyData.int) ∧ post (.fr (.int ns.sum))
def wAll : List X → (X → Prop) → Prop := fun xs post => ∃ (x : X) (bs : List Bool), xs = [x] ∧ ItL x (bs.map PyData.bool) ∧ post (.fr (.bool (bs.all fun b => b)))
def wTuple : List X → (X → Prop) → Prop := fun xs post => ∃ x ds, xs = [x] ∧ (ItL x ds ∨ x = .fr (.tuple ds)) ∧ post (.fr (.tuple ds))
def wInt1 : List X → (X → Prop) → Prop := fun xs post => (∃ i, xs = [.fr (.int i)] ∧ post (.fr (.int i))) ∨ ∃ b, xs = [.fr (.bool b)] ∧ post (.fr (.int (if b then 1 else 0)))
def wList : List X → (List D → Prop) → Prop := fun xs post => ∃ x ds, xs = [x] ∧ Its x ds ∧ post ds
def wIx : X → X → (X → Prop) → Prop := fun x y post => ∃ ds i d, y = .fr (.int i) ∧ Its x ds ∧ atI ds i = some d ∧ post (.fr d)
def wCat : X → X → (List D → Prop) → Prop := fun x y post => ∃ ds es, ItL x ds ∧ ItL y es ∧ ds.length + es.length ≤ 100000 ∧ post (ds ++ es)
def wCatT : X → X → (X → Prop) → Prop := fun x y post => ∃ ds es, x = .fr (.tuple ds) ∧ y = .fr (.tuple es) ∧ ds.length + es.length ≤ 100000 ∧ post (.fr (.tuple (ds ++ es)))
theorem atI_rep {Z : Par} {F : Hp} {B : Addr → Prop} {vs : List V} {ds : List D} {i : Int} {d : D} (r : RepAll Z F B vs ds) (h : atI ds i = some d) : ∃ v, atI vs i = some v ∧ Rep Z F B v d := by
  unfold atI at h ⊢
  rw [r.length]
  cases e : ixN ds.length i with
  | none => rw [e] at h; cases h
  | some j =>
    rw [e] at h
    obtain ⟨v, h1, h2⟩ := r.get (i := j) h
    exact ⟨v, h1, h2⟩
section
variable {Z : Par} {X : Cx} {a b c e : Expr} {es : List Expr} {wa wb wc we : WE} {wl : WA} {wn wm : WN} {pos p : Pos}
theorem qe_len (hK : X.K = Z.K) (hm : X.mg "len" = none) (ha : PA X [a] (LA Z wl)) (hg : Gl X "len" := by rfl) (he : starEach [a] X.env = (false, eval a X.env) :: starEach [] X.env := by rfl) : PE X (.Call (.Name "len" p) [a] [] pos) (LE Z (wCall wLen wl)) :=
  qe_callB call_len_seq (fun F B H P vs xs post Q w r wr k => by
    obtain ⟨x, ds, rfl, i, q⟩ := wr
    obtain ⟨v, rfl, rx⟩ := r.one
    obtain ⟨p, us, rfl, h, ra⟩ := i.at w rx
    rw [hK]
    refine ⟨p, us, rfl, h, ?_⟩
    rw [ra.length]
    exact KX.here k w (x := .fr _) (.int _) q) hm ha hg (by decide +kernel) (by decide) (by decide) he (by rfl)
theorem qe_max (hc : X.calm = true) (hm : X.mg "max" = none) (ha : PA X [a, b] (LA Z wl)) (hg : Gl X "max" := by rfl) (he : starEach [a, b] X.env = (false, eval a X.env) :: starEach [b] X.env := by rfl) (hpl : (backTo pos (starEach [b] X.env)).any (·.1) = false := by rfl) : PE X (.Call (.Name "max" p) [a, b] [] pos) (LE Z (wCall wMax wl)) :=
  qe_callB (call_max2 hc) (fun F B H P vs xs post Q w r wr k => by
    obtain ⟨i, j, rfl, q⟩ := wr
    obtain ⟨v, u, rfl, rx, ry⟩ := r.two
    rw [Rep.int_inv rx, Rep.int_inv ry]
    exact ⟨i, j, rfl, KX.here k w (x := .fr _) (.int _) q⟩) hm ha hg (by decide +kernel) (by decide) (by decide) he hpl
theorem qe_min (hc : X.calm = true) (hm : X.mg "min" = none) (ha : PA X [a, b] (LA Z wl)) (hg : Gl X "min" := by rfl) (he : starEach [a, b] X.env = (false, eval a X.env) :: starEach [b] X.env := by rfl) (hpl : (backTo pos (starEach [b] X.env)).any (·.1) = false := by rfl) : PE X (.Call (.Name "min" p) [a, b] [] pos) (LE Z (wCall wMin wl)) :=
  qe_callB (call_min2 hc) (fun F B H P vs xs post Q w r wr k => by
    obtain ⟨i, j, rfl, q⟩ := wr
    obtain ⟨v, u, rfl, rx, ry⟩ := r.two
    rw [Rep.int_inv rx, Rep.int_inv ry]
    exact ⟨i, j, rfl, KX.here k w (x := .fr _) (.int _) q⟩) hm ha hg (by decide +kernel) (by decide) (by decide) he hpl
theorem qe_sum (hK : X.K = Z.K) (hc : X.calm = true) (hm : X.mg "sum" = none) (ha : PA X [a] (LA Z wl)) (hg : Gl X "sum" := by rfl) (he : starEach [a] X.env = (false, eval a X.env) :: starEach [] X.env := by rfl) : PE X (.Call (.Name "sum" p) [a] [] pos) (LE Z (wCall wSum wl)) :=
  qe_callB (cr_sum hc) (fun F B H P vs xs post Q w r wr k => by
    obtain ⟨x, ns, rfl, i, q⟩ := wr
    obtain ⟨v, rfl, rx⟩ := r.one
    obtain ⟨p, us, rfl, h, ra⟩ := i.at w rx
    rw [hK]
    refine ⟨p, ns, rfl, ?_, KX.here k w (x := .fr _) (.int _) q⟩
    rw [← ra.ints]
    exact SqL.of h) hm ha hg (by decide +kernel) (by decide) (by decide) he (by rfl)
theorem qe_all (hK : X.K = Z.K) (hc : X.calm = true) (hm : X.mg "all" = none) (ha : PA X [a] (LA Z wl)) (hg : Gl X "all" := by rfl) (he : starEach [a] X.env = (false, eval a X.env) :: starEach [] X.env := by rfl) : PE X (.Call (.Name "all" p) [a] [] pos) (LE Z (wCall wAll wl)) :=
  qe_callB (cr_all hc) (fun F B H P vs xs post Q w r wr k => by
    obtain ⟨x, ns, rfl, i, q⟩ := wr
    obtain ⟨v, rfl, rx⟩ := r.one
    obtain ⟨p, us, rfl, h, ra⟩ := i.at w rx
    rw [hK]
    refine ⟨p, ns, rfl, ?_, KX.here k w (x := .fr _) (.bl _) q⟩
    rw [← ra.bools]
    exact SqL.of h) hm ha hg (by decide +kernel) (by decide) (by decide) he (by rfl)
theorem qe_tuple (hK : X.K = Z.K) (hm : X.mg "tuple" = none) (ha : PA X [a] (LA Z wl)) (hg : Gl X "tuple" := by rfl) (he : starEach [a] X.env = (false, eval a X.env) :: starEach [] X.env := by rfl) : PE X (.Call (.Name "tuple" p) [a] [] pos) (LE Z (wCall wTuple wl)) :=
  qe_callTy call_tuple_of (fun F B H P vs xs post Q w r wr k => by
    obtain ⟨x, ds, rfl, i, q⟩ := wr
    obtain ⟨v, rfl, rx⟩ := r.one
    rw [hK]
    rcases i with i | rfl
    · obtain ⟨p, us, rfl, h, ra⟩ := i.at w rx
      refine ⟨p, us, rfl, .inl ⟨SqL.of h, fun l hl => ?_⟩⟩
      exact KX.new k w hl (.tup upd_same (ra.mono (Evl.Ex.new (Evl.fresh_back w.ex hl)) fun _ h => h)) q
    · obtain ⟨p, us, rfl, h, ra⟩ := Rep.tup_inv rx
      exact ⟨p, us, rfl, .inr ⟨SqT.of (w.ex _ _ h), KX.here k w rx q⟩⟩) hm ha hg (by decide +kernel) (by decide) (by decide) he (by rfl)
theorem qe_int1 (hm : X.mg "int" = none) (ha : PA X [a] (LA Z wl)) (hg : Gl X "int" := by rfl) (he : starEach [a] X.env = (false, eval a X.env) :: starEach [] X.env := by rfl) : PE X (.Call (.Name "int" p) [a] [] pos) (LE Z (wCall wInt1 wl)) :=
  qe_callTy call_int1 (fun F B H P vs xs post Q w r wr k => by
    rcases wr with ⟨i, rfl, q⟩ | ⟨i, rfl, q⟩
    · obtain ⟨v, rfl, rx⟩ := r.one
      rw [Rep.int_inv rx]
      exact .inl ⟨i, rfl, KX.here k w (x := .fr _) (.int _) q⟩
    · obtain ⟨v, rfl, rx⟩ := r.one
      rw [Rep.bl_inv rx]
      exact .inr ⟨i, rfl, KX.here k w (x := .fr _) (.int _) q⟩) hm ha hg (by decide +kernel) (by decide) (by decide) he (by rfl)
theorem qn_list (hK : X.K = Z.K) (hm : X.mg "list" = none) (ha : PA X [a] (LA Z wl)) (hg : Gl X "list" := by rfl) (he : starEach [a] X.env = (false, eval a X.env) :: starEach [] X.env := by rfl) : PE X (.Call (.Name "list" p) [a] [] pos) (LN Z (wCallN wList wl)) :=
  qn_callTy call_list_of (fun F B H P vs xs post Q w r wr k => by
    obtain ⟨x, ds, rfl, i, q⟩ := wr
    obtain ⟨v, rfl, rx⟩ := r.one
    obtain ⟨p, us, rfl, h, ra⟩ := i.at w rx
    rw [hK]
    exact ⟨p, us, rfl, h, fun l hl => KN.new k w hl ra q⟩) hm ha hg (by decide +kernel) (by decide) (by decide) he (by rfl)
theorem qe_sub_ (hK : X.K = Z.K) (ha : PE X a (LE Z wa)) (hb : PE X b (LE Z wb)) (hp : PlainIx b := by exact fun _ _ => rfl) : PE X (.Subscript a b pos) (LE Z (wOp wIx wa wb)) :=
  qe_ix ix_seq (fun F B H P v u x y post Q w rx ry wr k => by
    obtain ⟨ds, i, d, rfl, it, h, q⟩ := wr
    obtain ⟨p, us, rfl, hs, ra⟩ := it.at w rx
    obtain ⟨z, h1, h2⟩ := atI_rep ra h
    rw [hK]
    rcases hs with hs | hs
    · exact .inl ⟨p, us, i, z, rfl, Rep.int_inv ry, hs, h1, KX.here k w (x := .fr d) h2 q⟩
    · exact .inr (.inl ⟨p, us, i, z, rfl, Rep.int_inv ry, hs, h1, KX.here k w (x := .fr d) h2 q⟩)) ha hb hp
theorem qn_cat (ha : PE X a (LE Z wa)) (hb : PE X b (LE Z wb)) : PE X (.BinOp a .Add b pos) (LN Z (wOpN wCat wa wb)) := peW (pe_op op_cat ha hb) fun _ _ _ h => s_opN (fun F B H P v u x y post Q w rx ry wr k => by
  obtain ⟨ds, es, i, j, hl, q⟩ := wr
  obtain ⟨p, vs, rfl, h1, r1⟩ := i.at w rx
  obtain ⟨p2, us, rfl, h2, r2⟩ := j.at w ry
  exact ⟨p, p2, vs, us, rfl, rfl, h1, h2, by rw [r1.length, r2.length]; exact sz hl, fun l hl => KN.new k w hl (r1.append r2) q⟩) h
theorem qe_catT (hK : X.K = Z.K) (ha : PE X a (LE Z wa)) (hb : PE X b (LE Z wb)) : PE X (.BinOp a .Add b pos) (LE Z (wOp wCatT wa wb)) := qe_op op_catA (fun F B H P v u x y post Q w rx ry wr k => by
  obtain ⟨ds, es, rfl, rfl, hl, q⟩ := wr
  obtain ⟨p, vs, rfl, h1, r1⟩ := Rep.tup_inv rx
  obtain ⟨p2, us, rfl, h2, r2⟩ := Rep.tup_inv ry
  rw [hK]
  refine ⟨p, p2, vs, us, rfl, rfl, SqT.of (w.ex _ _ h1), SqT.of (w.ex _ _ h2), by rw [r1.length, r2.length]; exact sz hl, fun hn => ?_, fun _ hn => ?_, fun _ _ l hl => ?_⟩
  · subst hn
    cases r1
    exact KX.here k w ry q
  · subst hn
    cases r2
    rw [List.append_nil] at q
    exact KX.here k w rx q
  · exact KX.new k w hl (.tup upd_same ((r1.append r2).mono (Evl.Ex.new (Evl.fresh_back w.ex hl)) fun _ h => h)) q) ha hb
/-! ### slices -/
def cutD (xs : List D) (lo hi : Option Int) : List D := (xs.drop (HT.sIx xs.length 0 lo)).take (HT.sIx xs.length xs.length hi - HT.sIx xs.length 0 lo)
abbrev WO := Ρ → (Option Int → Prop) → Prop
def LO (Z : Par) (w : WO) : TO := fun σ H Q => ∃ F B P ρ post, At Z σ H F B P ρ ∧ w ρ post ∧ ∀ F' B' H' o, Le (dm H) F B H F' B' H' → Wf Z F' B' H' → post o → Q o H'
def wNoPart : WO := fun _ post => post none
def wPart (we : WE) : WO := fun ρ post => we ρ fun x => ∃ i, x = .fr (.int i) ∧ post (some i)
theorem qo_none : PO X none (LO Z wNoPart) := ⟨fun pins s σ H Q I h => po_none.run pins s σ H Q I (by
  obtain ⟨F, B, P, ρ, post, a, w, k⟩ := h
  exact k _ _ _ _ Le.refl a.wf w)⟩
theorem qo_some (h : PE X e (LE Z we)) : PO X (some e) (LO Z (wPart we)) := ⟨fun pins s σ H Q I h' => (po_some h).run pins s σ H Q I (by
  obtain ⟨F, B, P, ρ, post, a, w, k⟩ := h'
  refine ⟨F, B, P, ρ, _, a, w, fun F1 B1 H1 v x e1 w1 r1 p1 => ?_⟩
  obtain ⟨i, rfl, q⟩ := p1
  exact ⟨i, Rep.int_inv r1, k _ _ _ _ e1 w1 q⟩)⟩
def wSlT (we : WE) (wl wh : WO) : WE := fun ρ post => we ρ fun x => wl ρ fun l => wh ρ fun h => ∃ ds, x = .fr (.tuple ds) ∧ post (.fr (.tuple (cutD ds l h)))
def wSlL (we : WE) (wl wh : WO) : WN := fun ρ post => we ρ fun x => wl ρ fun l => wh ρ fun h => ∃ ds, Its x ds ∧ (∀ es, x ≠ .fr (.tuple es)) ∧ post (cutD ds l h)
theorem cutV_rep {F : Hp} {B : Addr → Prop} {vs : List V} {ds : List D} (lo hi : Option Int) (r : RepAll Z F B vs ds) : RepAll Z F B (cutV vs lo hi) (cutD ds lo hi) := by
  unfold cutV cutD
  rw [r.length]
  exact (r.drop _).take _
theorem cut_whole {ds : List D} {lo hi : Option Int} (h : HT.sIx ds.length 0 lo = 0 ∧ HT.sIx ds.length ds.length hi = ds.length) : cutD ds lo hi = ds := by
  unfold cutD
  rw [h.1, h.2]
  simp
theorem qe_slT (hK : X.K = Z.K) {lo hi : Option Expr} {ol oh : WO} {p2 : Pos} (he : PE X e (LE Z we)) (hl : PO X lo (LO Z ol)) (hu : PO X hi (LO Z oh)) : PE X (.Subscript e (.Slice lo hi none p2) pos) (LE Z (wSlT we ol oh)) := peW (pe_slice sl_tupA he hl hu) fun σ H Q h => by
  obtain ⟨F, B, P, ρ, post, a, w, k⟩ := h
  refine ⟨F, B, P, ρ, _, a, w, fun F1 B1 H1 v x e1 w1 r1 p1 => ?_⟩
  refine ⟨F1, B1, P, ρ, _, a.step e1 w1, p1, fun F2 B2 H2 l e2 w2 p2 => ?_⟩
  refine ⟨F2, B2, P, ρ, _, a.step (e1.then e2) w2, p2, fun F3 B3 H3 h e3 w3 p3 => ?_⟩
  obtain ⟨ds, rfl, q⟩ := p3
  have e123 := (e1.then e2).then e3
  obtain ⟨p, vs, rfl, h1, h2⟩ := Rep.tup_inv (XR.mono r1 (e2.then e3))
  rw [hK]
  refine ⟨p, vs, rfl, SqT.of (w3.ex _ _ h1), fun hw => ?_, fun _ q' hq => ?_⟩
  · rw [h2.length] at hw
    rw [cut_whole hw] at q
    exact KX.here (KX.later k e123) w3 (x := .fr (.tuple ds)) (.tup h1 h2) q
  · exact KX.new (KX.later k e123) w3 hq (.tup upd_same ((cutV_rep l h h2).mono (Evl.Ex.new (Evl.fresh_back w3.ex hq)) fun _ h => h)) q
theorem qn_slL (hK : X.K = Z.K) {lo hi : Option Expr} {ol oh : WO} {p2 : Pos} (he : PE X e (LE Z we)) (hl : PO X lo (LO Z ol)) (hu : PO X hi (LO Z oh)) : PE X (.Subscript e (.Slice lo hi none p2) pos) (LN Z (wSlL we ol oh)) := peW (pe_slice sl_list he hl hu) fun σ H Q h => by
  obtain ⟨F, B, P, ρ, post, a, w, k⟩ := h
  refine ⟨F, B, P, ρ, _, a, w, fun F1 B1 H1 v x e1 w1 r1 p1 => ?_⟩
  refine ⟨F1, B1, P, ρ, _, a.step e1 w1, p1, fun F2 B2 H2 l e2 w2 p2 => ?_⟩
  refine ⟨F2, B2, P, ρ, _, a.step (e1.then e2) w2, p2, fun F3 B3 H3 h e3 w3 p3 => ?_⟩
  obtain ⟨ds, it, nt, q⟩ := p3
  have e123 := (e1.then e2).then e3
  have r3 := XR.mono r1 (e2.then e3)
  have ⟨p, vs, ev, h1, h2⟩ : ∃ p vs, v = .ref p ∧ SqL Z.K H3 p vs ∧ RepAll Z F3 B3 vs ds := by
    cases it with
    | lst =>
      obtain ⟨a, vs, rfl, h1, h2⟩ := Rep.lst_inv r3
      exact ⟨a, vs, rfl, SqL.of (w3.ex _ _ h1), h2⟩
    | tup => exact absurd rfl (nt _)
    | ow =>
      obtain ⟨l, rfl, o, _⟩ := r3
      obtain ⟨vs, h1, h2⟩ := o.at_
      exact ⟨l, vs, rfl, SqL.of h1, h2⟩
    | scr ns =>
      obtain ⟨a, rfl, h, _⟩ := Rep.scr_inv r3
      exact ⟨a, _, rfl, Evl.ex_l w3.ex h, RepAll.of_ints ns⟩
  subst ev
  rw [hK]
  exact ⟨p, vs, rfl, h1, fun q' hq => KN.new (KN.later k e123) w3 hq (cutV_rep l h h2) q⟩
end
end DL

/-! The data layer's rules: what is walked, comprehensions, statements, defs. -/
namespace DL
open PySem PySem.Spec PyProof.Rows L2
/-! ### targets -/
abbrev WG := D → Ρ → (Ρ → Prop) → Prop
def Out (js : List Nat) (σ σ' : L2.St) : Prop := σ'.length = σ.length ∧ ∀ i, i ∉ js → σ'[i]? = σ[i]?
theorem Out.refl {js : List Nat} {σ : L2.St} : Out js σ σ := ⟨rfl, fun _ _ => rfl⟩
theorem Out.trans {js : List Nat} {σ σ1 σ2 : L2.St} (a : Out js σ σ1) (b : Out js σ1 σ2) : Out js σ σ2 := ⟨b.1.trans a.1, fun i h => (b.2 i h).trans (a.2 i h)⟩
theorem Out.set {js : List Nat} {σ : L2.St} {j : Nat} (h : j ∈ js) (o : Option V) : Out js σ (σ.set j o) := ⟨List.length_set, fun i hi => List.getElem?_set_ne (fun z => hi (by rw [← z]; exact h))⟩
theorem Out.mono {js ks : List Nat} {σ σ' : L2.St} (a : Out js σ σ') (h : ∀ j ∈ js, j ∈ ks) : Out ks σ σ' := ⟨a.1, fun i hi => a.2 i fun z => hi (h i z)⟩
theorem wipe_get {σ : L2.St} {i : Nat} : ∀ {vs : List Nat}, i ∉ vs → (wipe σ vs)[i]? = σ[i]?
  | [], _ => rfl
  | v :: vs, h => by
    have h1 : i ≠ v := fun z => h (by rw [z]; exact List.mem_cons_self)
    have h2 : i ∉ vs := fun z => h (List.mem_cons_of_mem _ z)
    show ((wipe σ vs).set v none)[i]? = _
    rw [List.getElem?_set_ne (Ne.symm h1), wipe_get h2]
theorem wipe_in {σ : L2.St} {i : Nat} : ∀ {vs : List Nat}, i ∈ vs → i < σ.length → (wipe σ vs)[i]? = some none
  | v :: vs, h, hl => by
    show ((wipe σ vs).set v none)[i]? = _
    by_cases e : v = i
    · subst e
      rw [List.getElem?_set_self (by rw [wipe_length]; exact hl)]
    · rw [List.getElem?_set_ne e]
      rcases List.mem_cons.mp h with z | z
      · exact absurd z.symm e
      · exact wipe_in z hl
theorem wipe_out {σ σ' : L2.St} {vs : List Nat} (o : Out vs (wipe σ vs) σ') : wipe σ' vs = wipe σ vs := by
  apply List.ext_getElem?
  intro i
  by_cases h : i ∈ vs
  · by_cases hl : i < σ.length
    · rw [wipe_in h hl, wipe_in h (by rw [o.1, wipe_length]; exact hl)]
    · rw [List.getElem?_eq_none (l := wipe σ' vs) (by rw [wipe_length, o.1, wipe_length]; omega), List.getElem?_eq_none (by rw [wipe_length]; omega)]
  · rw [wipe_get h, o.2 i h]
def wipeR (ρ : Ρ) : List Nat → Ρ
  | [] => ρ
  | v :: vs => (wipeR ρ vs).set v none
section
variable {Z : Par} {P : Addr → Prop} {F F1 F2 : Hp} {B B1 B2 : Addr → Prop} {H H1 H2 : Hp} {σ : L2.St} {ρ : Ρ} {v : V} {x : X}
theorem At.wipe (a : At Z σ H F B P ρ) : ∀ vs : List Nat, At Z (L2.wipe σ vs) H F B P (wipeR ρ vs)
  | [] => a
  | v :: vs => ⟨a.wf, (At.wipe a vs).rs.forget v none, a.pd⟩
theorem At.rebase (a : At Z σ H F B P ρ) (e : Le (dm H) F B H F1 B1 H1) : Le P F B H F1 B1 H1 := e.mono fun x h => a.pd x h
end
def GS (Z : Par) (g : TG) (wg : WG) (js : List Nat) : Prop := ∀ F B H P σ ρ v d post Q, At Z σ H F B P ρ → Rep Z F B v d → wg d ρ post → (∀ σ' ρ', At Z σ' H F B P ρ' → Out js σ σ' → post ρ' → Q σ' H) → g v σ H Q
def gNames : List Nat → TGs
  | [] => gNil
  | i :: is => gCons (gName i) (gNames is)
def wName (j : Nat) : WG := fun d ρ post => post (ρ.set j (some (.fr d)))
def setAll : Ρ → List Nat → List D → Ρ
  | ρ, i :: is, d :: ds => setAll (ρ.set i (some (.fr d))) is ds
  | ρ, _, _ => ρ
def wNames (is : List Nat) : WG := fun d ρ post => ∃ ds, d = .tuple ds ∧ ds.length = is.length ∧ post (setAll ρ is ds)
section
variable {Z : Par}
theorem gs_name {j : Nat} : GS Z (gName j) (wName j) [j] := fun F B H P σ ρ v d post Q a r w k => k _ _ (a.setFr j r) (Out.set List.mem_cons_self _) w
theorem gs_each : ∀ (is : List Nat) (js : List Nat), (∀ i ∈ is, i ∈ js) → ∀ {F : Hp} {B : Addr → Prop} {H : Hp} {P : Addr → Prop} {σ : L2.St} {ρ : Ρ} {vs : List V} {ds : List D} {Q : L2.St → Hp → Prop}, At Z σ H F B P ρ → RepAll Z F B vs ds → ds.length = is.length →
    (∀ σ', At Z σ' H F B P (setAll ρ is ds) → Out js σ σ' → Q σ' H) → gNames is vs σ H Q
  | [], js, _, F, B, H, P, σ, ρ, vs, ds, Q, a, r, hl, k => by
    have hd : ds = [] := List.length_eq_zero_iff.mp hl
    subst hd
    cases r
    exact ⟨rfl, k σ a Out.refl⟩
  | i :: is, js, hj, F, B, H, P, σ, ρ, vs, ds, Q, a, r, hl, k => by
    cases r with
    | nil => cases hl
    | cons h r =>
      refine ⟨_, _, rfl, ?_⟩
      exact gs_each is js (fun i hi => hj i (List.mem_cons_of_mem _ hi)) (a.setFr i h) r (Nat.succ.inj hl) fun σ' a' o => k σ' a' ((Out.set (hj i List.mem_cons_self) _).trans o)
theorem gs_names {K : PySem.W.Frag} (hK : K = Z.K) {n : Nat} {is : List Nat} (hn : is.length = n) : GS Z (gTup K n (gNames is)) (wNames is) is := fun F B H P σ ρ v d post Q a r w k => by
  obtain ⟨ds, rfl, hl, p⟩ := w
  obtain ⟨b, vs, rfl, h1, h2⟩ := Rep.tup_inv r
  exact ⟨b, vs, rfl, SqT.of (a.wf.ex _ _ h1), by rw [h2.length, hl, hn], gs_each is is (fun _ h => h) a h2 hl fun σ' a' o => k σ' _ a' o p⟩
end
/-! ### what is walked -/
structure WalkD (Z : Par) (F : Hp) (B : Addr → Prop) (J : It) (ds : List D) : Prop where
  go : ∀ i F1 B1 H1, Ex F F1 → (∀ a, B a → B1 a) → Wf Z F1 B1 H1 → i < ds.length → J.go i H1
  stop : ∀ F1 B1 H1, Ex F F1 → (∀ a, B a → B1 a) → Wf Z F1 B1 H1 → J.stop ds.length H1
  yld : ∀ i F1 B1 H1 x H2, Ex F F1 → (∀ a, B a → B1 a) → Wf Z F1 B1 H1 → i < ds.length → J.yld i H1 x H2 → ∃ F2 d, ds[i]? = some d ∧ Le (dm H1) F1 B1 H1 F2 B1 H2 ∧ Wf Z F2 B1 H2 ∧ Rep Z F2 B1 x d
abbrev WI := Ρ → (List D → Prop) → Prop
def LI (Z : Par) (w : WI) : TI := fun σ H R => ∃ F B P ρ post, At Z σ H F B P ρ ∧ w ρ post ∧ ∀ F' B' H' J ds, Le (dm H) F B H F' B' H' → Wf Z F' B' H' → WalkD Z F' B' J ds → post ds → R J H'
section
variable {Z : Par} {X : Cx} {tg e e2 : Expr} {we : WE} {wl : WA} {p pos tpos : Pos} {elts : List Expr} {kk : Nat}
theorem walkD_tup {F : Hp} {B : Addr → Prop} {a : Addr} {vs : List V} {ds : List D} (h : SqT Z.K F a vs) (r : RepAll Z F B vs ds) : WalkD Z F B (Itt Z.K a) ds := by
  have w := walk_tup (K := Z.K) (a := a) (xs := vs)
  have hl := r.length
  refine ⟨fun i F1 B1 H1 e b wf hi => w.goes i H1 (by omega) (Evl.ex_t (e.trans wf.ex) h), fun F1 B1 H1 e b wf => by rw [← hl]; exact w.stops H1 (Evl.ex_t (e.trans wf.ex) h), fun i F1 B1 H1 x H2 e b wf hi y => ?_⟩
  obtain ⟨rfl, hx⟩ := w.yields i H1 x H2 (by omega) (Evl.ex_t (e.trans wf.ex) h) y
  obtain ⟨d, h1, h2⟩ := r.getV hx
  exact ⟨F1, d, h1, Le.refl, wf, h2.mono e b⟩
theorem walkD_list {F : Hp} {B : Addr → Prop} {a : Addr} {vs : List V} {ds : List D} (h : SqL Z.K F a vs) (r : RepAll Z F B vs ds) : WalkD Z F B (Itl Z.K a) ds := by
  have w := walk_list (K := Z.K) (a := a) (xs := vs)
  have hl := r.length
  refine ⟨fun i F1 B1 H1 e b wf hi => w.goes i H1 (by omega) (Evl.ex_l (e.trans wf.ex) h), fun F1 B1 H1 e b wf => by rw [← hl]; exact w.stops H1 (Evl.ex_l (e.trans wf.ex) h), fun i F1 B1 H1 x H2 e b wf hi y => ?_⟩
  obtain ⟨rfl, hx⟩ := w.yields i H1 x H2 (by omega) (Evl.ex_l (e.trans wf.ex) h) y
  obtain ⟨d, h1, h2⟩ := r.getV hx
  exact ⟨F1, d, h1, Le.refl, wf, h2.mono e b⟩
/-- lo, lo + 1, .. n of them -/
def rgD (lo : Int) (n : Nat) : List D := (List.range n).map fun (i : Nat) => .int (lo + (i : Int))
theorem rgD_len (lo : Int) (n : Nat) : (rgD lo n).length = n := by unfold rgD; rw [List.length_map, List.length_range]
theorem rgD_get {lo : Int} {n i : Nat} (h : i < n) : (rgD lo n)[i]? = some (.int (lo + (i : Int))) := by
  unfold rgD
  rw [List.getElem?_map, List.getElem?_range h]
  rfl
theorem walkD_range {F : Hp} {B : Addr → Prop} {lo : Int} {n : Nat} : WalkD Z F B (Itr lo n) (rgD lo n) := by
  have w := walk_range (lo := lo) (n := n)
  refine ⟨fun i F1 B1 H1 e b wf hi => w.goes i H1 (by rw [rgD_len] at hi; exact hi) True.intro, fun F1 B1 H1 e b wf => by rw [rgD_len]; exact w.stops H1 True.intro, fun i F1 B1 H1 x H2 e b wf hi y => ?_⟩
  rw [rgD_len] at hi
  obtain ⟨rfl, rfl⟩ := w.yields i H1 x H2 hi True.intro y
  exact ⟨F1, _, rgD_get hi, Le.refl, wf, .int _⟩
theorem walkD_zipT {F : Hp} {B : Addr → Prop} {a b : Addr} {vs us : List V} {ds es : List D} (h : SqT Z.K F a vs) (r : RepAll Z F B vs ds) (h2 : SqT Z.K F b us) (r2 : RepAll Z F B us es) : WalkD Z F B (RZ.ItzT Z.K a b) ((ds.zip es).map fun q => .tuple [q.1, q.2]) := by
  have hl := r.length
  have hl2 := r2.length
  have hz : ((ds.zip es).map fun q => PyData.tuple [q.1, q.2]).length = min ds.length es.length := by rw [List.length_map, List.length_zip]
  refine ⟨fun i F1 B1 H1 e bb wf hi => ?_, fun F1 B1 H1 e bb wf => ?_, fun i F1 B1 H1 x H2 e bb wf hi y => ?_⟩
  · rw [hz] at hi
    have i1 : i < vs.length := by omega
    have i2 : i < us.length := by omega
    exact ⟨vs, us, vs[i], us[i], Evl.ex_t (e.trans wf.ex) h, Evl.ex_t (e.trans wf.ex) h2, List.getElem?_eq_getElem i1, List.getElem?_eq_getElem i2⟩
  · rw [hz]
    exact ⟨vs, us, Evl.ex_t (e.trans wf.ex) h, Evl.ex_t (e.trans wf.ex) h2, by omega⟩
  · obtain ⟨T, x1, x2, rfl, hT, rfl, f1, f2⟩ := y
    have g1 := f1 vs (Evl.ex_t (e.trans wf.ex) h)
    have g2 := f2 us (Evl.ex_t (e.trans wf.ex) h2)
    obtain ⟨d1, q1, q2⟩ := r.getV g1
    obtain ⟨d2, q3, q4⟩ := r2.getV g2
    have fT : F1 T = none := Evl.fresh_back wf.ex hT
    refine ⟨upd F1 T (.tup [x1, x2]), .tuple [d1, d2], ?_, Le.new wf hT, wf.new hT, .tup upd_same (.cons ((q2.mono e bb).mono (Evl.Ex.new fT) fun _ h => h) (.cons ((q4.mono e bb).mono (Evl.Ex.new fT) fun _ h => h) .nil))⟩
    have hz2 : (ds.zip es)[i]? = some (d1, d2) := List.getElem?_zip_eq_some.mpr ⟨q1, q3⟩
    rw [List.getElem?_map, hz2]
    rfl
/-- for x in t, t a tuple -/
def wiTup (we : WE) : WI := fun ρ post => we ρ fun x => ∃ ds, x = .fr (.tuple ds) ∧ post ds
/-- for x in l, l a list that stands -/
def wiLst (we : WE) : WI := fun ρ post => we ρ fun x => ∃ ds, x = .fr (.list ds) ∧ post ds
def wiR1 (wl : WA) : WI := fun ρ post => wl ρ fun xs => ∃ n : Int, xs = [.fr (.int n)] ∧ (-(2 ^ 62) ≤ n ∧ n < 2 ^ 62) ∧ post (rgD 0 n.toNat)
def wiR2 (wl : WA) : WI := fun ρ post => wl ρ fun xs => ∃ m n : Int, xs = [.fr (.int m), .fr (.int n)] ∧ (-(2 ^ 62) ≤ m ∧ m < 2 ^ 62 ∧ -(2 ^ 62) ≤ n ∧ n < 2 ^ 62) ∧ post (rgD m (n - m).toNat)
def wiZipT (wl : WA) : WI := fun ρ post => wl ρ fun xs => ∃ ds es, xs = [.fr (.tuple ds), .fr (.tuple es)] ∧ post ((ds.zip es).map fun q => .tuple [q.1, q.2])
theorem qi_tup (hK : X.K = Z.K) (h : PE X e (LE Z we)) : PI X tg e (LI Z (wiTup we)) := piW (pi_tup h) fun σ H R h => by
  obtain ⟨F, B, P, ρ, post, a, w, k⟩ := h
  refine ⟨F, B, P, ρ, _, a, w, fun F1 B1 H1 v x e1 w1 r1 p1 => ?_⟩
  obtain ⟨ds, rfl, q⟩ := p1
  obtain ⟨b, vs, rfl, h1, h2⟩ := Rep.tup_inv r1
  rw [hK]
  exact ⟨b, rfl, ⟨vs, SqT.of (w1.ex _ _ h1)⟩, k _ _ _ _ _ e1 w1 (walkD_tup (SqT.of h1) h2) q⟩
theorem qi_lst (hK : X.K = Z.K) (h : PE X e (LE Z we)) : PI X tg e (LI Z (wiLst we)) := piW (pi_list h) fun σ H R h => by
  obtain ⟨F, B, P, ρ, post, a, w, k⟩ := h
  refine ⟨F, B, P, ρ, _, a, w, fun F1 B1 H1 v x e1 w1 r1 p1 => ?_⟩
  obtain ⟨ds, rfl, q⟩ := p1
  obtain ⟨b, vs, rfl, h1, h2⟩ := Rep.lst_inv r1
  rw [hK]
  exact ⟨b, rfl, ⟨vs, SqL.of (w1.ex _ _ h1)⟩, k _ _ _ _ _ e1 w1 (walkD_list (SqL.of h1) h2) q⟩
theorem qi_range1 (hm : X.mg "range" = none) (ha : PA X [e] (LA Z wl)) (hg : Gl X "range" := by rfl) (hs : starEach [e] X.env = [(false, eval e X.env)] := by rfl) : PI X tg (.Call (.Name "range" p) [e] [] pos) (LI Z (wiR1 wl)) := piW (pi_range1 hg hm ha hs) fun σ H R h => by
  obtain ⟨F, B, P, ρ, post, a, w, k⟩ := h
  refine ⟨F, B, P, ρ, _, a, w, fun F1 B1 H1 vs xs e1 w1 r1 p1 => ?_⟩
  obtain ⟨n, rfl, ⟨b1, b2⟩, q⟩ := p1
  obtain ⟨v, rfl, rx⟩ := r1.one
  rw [Rep.int_inv rx]
  exact ⟨n, rfl, b1, b2, k _ _ _ _ _ e1 w1 walkD_range q⟩
theorem qi_range2 (hm : X.mg "range" = none) (ha : PA X [e, e2] (LA Z wl)) (hg : Gl X "range" := by rfl) (hs : starEach [e, e2] X.env = [(false, eval e X.env), (false, eval e2 X.env)] := by rfl) (hs2 : starEach [e2] X.env = [(false, eval e2 X.env)] := by rfl) : PI X tg (.Call (.Name "range" p) [e, e2] [] pos) (LI Z (wiR2 wl)) := piW (pi_range2 hg hm ha hs hs2) fun σ H R h => by
  obtain ⟨F, B, P, ρ, post, a, w, k⟩ := h
  refine ⟨F, B, P, ρ, _, a, w, fun F1 B1 H1 vs xs e1 w1 r1 p1 => ?_⟩
  obtain ⟨m, n, rfl, b, q⟩ := p1
  obtain ⟨v, u, rfl, rx, ry⟩ := r1.two
  rw [Rep.int_inv rx, Rep.int_inv ry]
  exact ⟨m, n, rfl, b, k _ _ _ _ _ e1 w1 walkD_range q⟩
theorem qi_zipT (hK : X.K = Z.K) (hm : X.mg "zip" = none) (ha : PA X [e, e2] (LA Z wl)) (hg : Gl X "zip" := by rfl) (hs : starEach [e, e2] X.env = (false, eval e X.env) :: starEach [e2] X.env := by rfl) (hpl : (backTo pos (starEach [e2] X.env)).any (·.1) = false := by rfl) :
    PI X (.Tuple elts kk tpos) (.Call (.Name "zip" p) [e, e2] [] pos) (LI Z (wiZipT wl)) := piW (RZ.pi_zipA hg hm ha hs hpl) fun σ H R h => by
  obtain ⟨F, B, P, ρ, post, a, w, k⟩ := h
  refine ⟨F, B, P, ρ, _, a, w, fun F1 B1 H1 vs xs e1 w1 r1 p1 => ?_⟩
  obtain ⟨ds, es, rfl, q⟩ := p1
  obtain ⟨v, u, rfl, rx, ry⟩ := r1.two
  obtain ⟨b, ws, rfl, h1, h2⟩ := Rep.tup_inv rx
  obtain ⟨c, us, rfl, h3, h4⟩ := Rep.tup_inv ry
  rw [hK]
  exact ⟨b, c, ws, us, rfl, .inr ⟨SqT.of (w1.ex _ _ h1), SqT.of (w1.ex _ _ h3), k _ _ _ _ _ e1 w1 (walkD_zipT (SqT.of h1) h2 (SqT.of h3) h4) q⟩⟩
end
/-! ### comprehensions -/
def wYes : WT := fun _ post => post true
def wLc (wi : WI) (wg : WG) (wt : WT) (we : WE) (vs : List Nat) : WN := fun ρ post => wi ρ fun ds => ds.length < 100000 ∧ ∃ Inv : Nat → List D → Prop, Inv 0 [] ∧
  (∀ i d acc, ds[i]? = some d → Inv i acc → wg d (wipeR ρ vs) fun ρ2 => wt ρ2 fun b => if b = true then we ρ2 fun x => ∃ e, x = .fr e ∧ Inv (i + 1) (acc ++ [e]) else Inv (i + 1) acc) ∧ ∀ acc, Inv ds.length acc → post acc
theorem s_lc {Z : Par} {wi : WI} {g : TG} {wg : WG} {js vs : List Nat} {wt : WT} {we : WE} {σ : L2.St} {H : Hp} {Q : VK} (gs : GS Z g wg js) (hj : ∀ j ∈ js, j ∈ vs) (h : LN Z (wLc wi wg wt we vs) σ H Q) : tLc (LI Z wi) g (LT Z wt) (LE Z we) vs σ H Q := by
  obtain ⟨F, B, P, ρ, post, a, w, k⟩ := h
  refine ⟨F, B, P, ρ, _, a, w, fun F1 B1 H1 J ds e1 w1 wk p1 => ?_⟩
  obtain ⟨hlen, Inv, i0, turn, fin⟩ := p1
  intro Dl hD
  have fD : F1 Dl = none := Evl.fresh_back w1.ex hD
  have nbD : ¬ B1 Dl := w1.bagNew hD
  let Good : Nat → Hp → Prop := fun i H' => ∃ F' B' acc vs', Le (dm H1) F1 B1 H1 F' B' H' ∧ Wf Z F' B' H' ∧ F' Dl = none ∧ ¬ B' Dl ∧ H' Dl = some (.lst vs') ∧ RepAll Z F' B' vs' acc ∧ acc.length ≤ i ∧ Inv i acc
  have g0 : Good 0 (upd H1 Dl (.lst [])) := by
    refine ⟨F1, B1, [], [], ⟨Evl.Ex.refl _, fun _ h => h, fun x u _ _ e => by rw [upd_ne (ne_of_none e hD)]; exact e, fun x n => ?_, fun _ _ h => h, fun _ _ h => h⟩, ⟨w1.ex.mut fD, fun b hb => ?_, w1.tabs⟩, fD, nbD, upd_same, .nil, Nat.le_refl _, i0⟩
    · by_cases hx : x = Dl
      · subst hx; rw [upd_same]; exact fun q => nomatch q
      · rw [upd_ne hx]; exact n
    · obtain ⟨b1, b2⟩ := w1.bags b hb
      exact ⟨b1, b2.mono (Evl.Ex.refl _) (upd_ne fun z => nbD (by rw [← z]; exact hb))⟩
  refine ⟨fun i m H' => m = ds.length - i ∧ i ≤ ds.length ∧ Good i H', ⟨ds.length, by simp, Nat.zero_le _, g0⟩, ?_⟩
  rintro i m H' ⟨rfl, hi, F', B', acc, vs', e2, w2, fD2, nb2, hL, ra, hl, inv⟩
  have e12 := e1.then e2
  by_cases hlt : i < ds.length
  · refine .inr ⟨wk.go i F' B' H' e2.ex e2.bg w2 hlt, Good (i + 1), fun H'' g => ⟨ds.length - (i + 1), by omega, rfl, hlt, g⟩, fun x H3 y => ?_⟩
    obtain ⟨F3, d, hd, e3, w3, rx⟩ := wk.yld i F' B' H' x H3 e2.ex e2.bg w2 hlt y
    have dD : dm H' Dl := by unfold dm; rw [hL]; exact fun q => nomatch q
    have hL3 : H3 Dl = some (.lst vs') := e3.hp Dl _ dD nb2 hL
    have A3 : At Z (L2.wipe σ vs) H3 F3 B' P (wipeR ρ vs) := (a.step (e12.then e3) w3).wipe vs
    refine gs F3 B' H3 P _ _ x d _ _ A3 rx (turn i d acc hd inv) fun σ4 ρ4 A4 o4 t4 => ⟨wipe_out (o4.mono hj), ?_⟩
    refine ⟨F3, B', P, ρ4, _, A4, t4, fun F5 B5 H5 b e5 w5 p5 => ?_⟩
    have dD3 : dm H3 Dl := e3.dom _ dD
    have fD3 : F3 Dl = none := e3.nf Dl dD fD2
    have hL5 : H5 Dl = some (.lst vs') := e5.hp Dl _ dD3 nb2 hL3
    have e25 : Le (dm H1) F1 B1 H1 F5 B5 H5 := (e2.then e3).then e5
    cases b with
    | false =>
      rw [if_neg Bool.false_ne_true] at p5
      refine iteF ?_
      exact ⟨F5, B5, acc, vs', e25, w5, e5.nf Dl dD3 fD3, fun z => nb2 (e5.nb Dl dD3 z), hL5, ra.mono (e3.ex.trans e5.ex) fun _ h => e5.bg _ h, by omega, p5⟩
    | true =>
      rw [if_pos rfl] at p5
      refine iteT ?_
      refine ⟨F5, B5, P, ρ4, _, A4.step e5 w5, p5, fun F6 B6 H6 z xz e6 w6 r6 p6 => ?_⟩
      obtain ⟨e, rfl, q6⟩ := p6
      have dD5 : dm H5 Dl := e5.dom _ dD3
      have nb5 : ¬ B5 Dl := fun z => nb2 (e5.nb Dl dD3 z)
      have fD5 : F5 Dl = none := e5.nf Dl dD3 fD3
      have hL6 : H6 Dl = some (.lst vs') := e6.hp Dl _ dD5 nb5 hL5
      have nb6 : ¬ B6 Dl := fun z => nb5 (e6.nb Dl dD5 z)
      have fD6 : F6 Dl = none := e6.nf Dl dD5 fD5
      have e26 := e25.then e6
      have ra6 : RepAll Z F6 B6 vs' acc := ra.mono ((e3.ex.trans e5.ex).trans e6.ex) fun _ h => e6.bg _ (e5.bg _ h)
      refine ⟨vs', hL6, szl (by rw [ra.length]; omega), F6, B6, acc ++ [e], vs' ++ [z], ⟨e26.ex, e26.bg, fun x u hx hb hu => ?_, fun x n => ?_, e26.nf, e26.nb⟩, ⟨w6.ex.mut fD6, fun b hb => ?_, w6.tabs⟩, fD6, nb6, upd_same, ra6.append (.cons r6 .nil), by rw [List.length_append, List.length_singleton]; omega, q6⟩
      · rw [upd_ne (fun z => hx (by rw [z]; exact hD))]
        exact e26.hp x u hx hb hu
      · by_cases hx : x = Dl
        · subst hx; rw [upd_same]; exact fun q => nomatch q
        · rw [upd_ne hx]; exact e26.dom x n
      · obtain ⟨b1, b2⟩ := w6.bags b hb
        exact ⟨b1, b2.mono (Evl.Ex.refl _) (upd_ne fun z => nb6 (by rw [← z]; exact hb))⟩
  · have ei : i = ds.length := by omega
    subst ei
    exact .inl ⟨wk.stop F' B' H' e2.ex e2.bg w2, k F' B' H' Dl acc e12 w2 (back_dm e1 hD) ⟨fD2, nb2, vs', hL, ra⟩ (fin acc inv)⟩
section
variable {Z : Par} {X : Cx} {elt tg iter : Expr} {ifs : List Expr} {scope : Scope} {own : List (Str × Nat)} {pos spos py : Pos} {wi : WI} {g : TG} {wg : WG} {js : List Nat} {wt : WT} {we : WE}
theorem qn_lc (own : List (Str × Nat)) (hc : X.calm = true) (hN : X.N.Nodup) (hi : PI X tg iter (LI Z wi)) (ok : BlkOk X.N X.env.scope scope own) (gs : GS Z g wg js) (hj : ∀ j ∈ js, j ∈ own.map (·.2))
    (hg : ∀ (s : Shared) (H : Hp) (C : Addr) (cl : List (Str × Addr)) (fp : List Addr), PG (X.blk s H scope (compEnvC scope cl C X.env) fp) tg g) (ht : ∀ (s : Shared) (H : Hp) (C : Addr) (cl : List (Str × Addr)) (fp : List Addr), PTs (X.blk s H scope (compEnvC scope cl C X.env) fp) ifs (LT Z wt))
    (he : ∀ (s : Shared) (H : Hp) (C : Addr) (cl : List (Str × Addr)) (fp : List Addr), PE (X.blk s H scope (compEnvC scope cl C X.env) fp) elt (LE Z we)) (hs : ∀ x, foldedSetIterable iter X.env x = pure x := by intro _; rfl) :
    PE X (.ListComp elt [⟨tg, iter, ifs, 0⟩] scope pos) (LN Z (wLc wi wg wt we (own.map (·.2)))) := peW (pe_lc hc hN hi ok hg ht he hs) fun _ _ _ h => s_lc gs hj h
theorem qts_nil : PTs X [] (LT Z wYes) := ptsW pts_nil fun σ H Q h => by
  obtain ⟨F, B, P, ρ, post, a, w, k⟩ := h
  exact k _ _ _ _ Le.refl a.wf w
theorem qts_one {c : Expr} (h : PT X c (LT Z wt)) : PTs X [c] (LT Z wt) := pts_one h
end
/-! ### statements -/
def wsSeq (t u : WS) : WS := fun W ρ => t { W with nx := u W } ρ
def wsNext : WS := fun W ρ => W.nx ρ
def wsNever : WS := fun _ _ => False
def wsSet (i : Nat) (we : WE) : WS := fun W ρ => we ρ fun x => ∃ d, x = .fr d ∧ W.nx (ρ.set i (some (.fr d)))
def wsSetN (i : Nat) (wn : WN) : WS := fun W ρ => wn ρ fun ds => W.nx (ρ.set i (some (.ow ds)))
def wsAsg (we : WE) (wg : WG) : WS := fun W ρ => we ρ fun x => ∃ d, x = .fr d ∧ wg d ρ W.nx
def wsPar (i j : Nat) (wl : WA) : WS := fun W ρ => wl ρ fun xs => ∃ d e, xs = [.fr d, .fr e] ∧ W.nx ((ρ.set i (some (.fr d))).set j (some (.fr e)))
def wsRet (we : WE) : WS := fun W ρ => we ρ fun x => W.rt x.dat
def wsRetN : WS := fun W _ => W.rt .none
def wsExpr (we : WE) : WS := fun W ρ => we ρ fun _ => W.nx ρ
def wsIf (wt : WT) (a b : WS) : WS := fun W ρ => wt ρ fun c => if c = true then a W ρ else b W ρ
def wsFrz (i : Nat) (w : WS) : WS := fun W ρ => ∃ ds, ρ[i]? = some (some (.ow ds)) ∧ w W (ρ.set i (some (.fr (.list ds))))
def wsApp (i : Nat) (we : WE) : WS := fun W ρ => ∃ ds, ρ[i]? = some (some (.ow ds)) ∧ ds.length < 100000 ∧ we ρ fun x => ∃ d, x = .fr d ∧ W.nx (ρ.set i (some (.ow (ds ++ [d]))))
def wsSetI (i : Nat) (wi we : WE) : WS := fun W ρ => ∃ ds, ρ[i]? = some (some (.ow ds)) ∧ we ρ fun x => wi ρ fun y => ∃ d k j, x = .fr d ∧ y = .fr (.int k) ∧ ixN ds.length k = some j ∧ W.nx (ρ.set i (some (.ow (ds.set j d))))
def wsWhile (wt : WT) (wb : WS) : WS := fun W ρ => ∃ Inv : Nat → Ρ → Prop, (∃ m, Inv m ρ) ∧ ∀ m ρ', Inv m ρ' → wt ρ' fun b => if b = true then wb { W with nx := fun ρ2 => ∃ m', m' < m ∧ Inv m' ρ2, ct := fun ρ2 => ∃ m', m' < m ∧ Inv m' ρ2, bk := W.nx } ρ' else W.nx ρ'
def wsFor (wi : WI) (wg : WG) (wb : WS) : WS := fun W ρ => wi ρ fun ds => ∃ Inv : Nat → Ρ → Prop, Inv 0 ρ ∧ (∀ i d ρ', ds[i]? = some d → Inv i ρ' → wg d ρ' fun ρ2 => wb { W with nx := Inv (i + 1), ct := Inv (i + 1), bk := W.nx } ρ2) ∧ ∀ ρ', Inv ds.length ρ' → W.nx ρ'
section
variable {Z : Par} {Dd : Ends} {σ : L2.St} {H : Hp} {t u : WS} {we wa wb : WE} {wn : WN} {wt : WT} {wl : WA}
theorem s_seq (h : LS Z (wsSeq t u) Dd σ H) : tSeq (LS Z t) (LS Z u) Dd σ H := by
  obtain ⟨F, B, P, ρ, W, a, w, kn, kr, kb, kc⟩ := h
  refine ⟨F, B, P, ρ, _, a, w, fun F1 B1 H1 σ1 ρ1 e1 a1 p1 => ?_, kr, kb, kc⟩
  exact ⟨F1, B1, P, ρ1, W, a1, p1, fun F2 B2 H2 σ2 ρ2 e2 a2 p2 => kn _ _ _ _ _ (e1.trans e2) a2 p2, fun F2 B2 H2 v d e2 w2 r2 p2 => kr _ _ _ _ _ (e1.trans e2) w2 r2 p2, fun F2 B2 H2 σ2 ρ2 e2 a2 p2 => kb _ _ _ _ _ (e1.trans e2) a2 p2, fun F2 B2 H2 σ2 ρ2 e2 a2 p2 => kc _ _ _ _ _ (e1.trans e2) a2 p2⟩
theorem s_next (h : LS Z wsNext Dd σ H) : tNext Dd σ H := by
  obtain ⟨F, B, P, ρ, W, a, w, kn, kr, kb, kc⟩ := h
  exact kn _ _ _ _ _ Le.refl a w
theorem s_setS {i : Nat} (h : LS Z (wsSet i we) Dd σ H) : tAsg (LE Z we) (gName i) Dd σ H := by
  obtain ⟨F, B, P, ρ, W, a, w, kn, kr, kb, kc⟩ := h
  refine ⟨F, B, P, ρ, _, a, w, fun F1 B1 H1 v x e1 w1 r1 p1 => ?_⟩
  obtain ⟨d, rfl, q⟩ := p1
  exact kn _ _ _ _ _ (a.rebase e1) ((a.step e1 w1).setFr i r1) q
theorem s_setN {i : Nat} (h : LS Z (wsSetN i wn) Dd σ H) : tAsg (LN Z wn) (gName i) Dd σ H := by
  obtain ⟨F, B, P, ρ, W, a, w, kn, kr, kb, kc⟩ := h
  refine ⟨F, B, P, ρ, _, a, w, fun F1 B1 H1 l ds e1 w1 n1 o1 p1 => ?_⟩
  have a1 := a.step e1 w1
  have np : ¬ P l := fun z => a.pd l z n1
  refine kn _ _ _ _ _ (a.rebase e1) ⟨w1, a1.rs.setOw i o1 np fun j es _ hj hs => ?_, a1.pd⟩ p1
  exact a.rs.fresh n1 j es hj hs
theorem s_asgG {g : TG} {wg : WG} {js : List Nat} (gs : GS Z g wg js) (h : LS Z (wsAsg we wg) Dd σ H) : tAsg (LE Z we) g Dd σ H := by
  obtain ⟨F, B, P, ρ, W, a, w, kn, kr, kb, kc⟩ := h
  refine ⟨F, B, P, ρ, _, a, w, fun F1 B1 H1 v x e1 w1 r1 p1 => ?_⟩
  obtain ⟨d, rfl, q⟩ := p1
  exact gs F1 B1 H1 P σ ρ v d _ _ (a.step e1 w1) r1 q fun σ' ρ' a' _ p' => kn _ _ _ _ _ (a.rebase e1) a' p'
theorem s_par {i j : Nat} (h : LS Z (wsPar i j wl) Dd σ H) : tPar i j (LA Z wl) Dd σ H := by
  obtain ⟨F, B, P, ρ, W, a, w, kn, kr, kb, kc⟩ := h
  refine ⟨F, B, P, ρ, _, a, w, fun F1 B1 H1 vs xs e1 w1 r1 p1 => ?_⟩
  obtain ⟨d, e, rfl, q⟩ := p1
  obtain ⟨v, u, rfl, rx, ry⟩ := r1.two
  exact ⟨v, u, rfl, kn _ _ _ _ _ (a.rebase e1) (((a.step e1 w1).setFr i rx).setFr j ry) q⟩
/-- a value that leaves the frame -/
theorem out_of {P : Addr → Prop} {F : Hp} {B : Addr → Prop} {v : V} {x : X} (w : Wf Z F B H) (r : XR Z F B H P v x) : ∃ F', Le P F B H F' B H ∧ Wf Z F' B H ∧ Rep Z F' B v x.dat := by
  cases x with
  | fr d => exact ⟨F, Le.refl, w, r⟩
  | ow ds =>
    obtain ⟨l, rfl, o, np⟩ := r
    obtain ⟨vs, h1, h2⟩ := o.at_
    have ex : Ex F (upd F l (.lst vs)) := Evl.Ex.new o.nf
    refine ⟨upd F l (.lst vs), ⟨ex, fun _ h => h, fun _ _ _ _ h => h, fun _ h => h, fun a ha hf => ?_, fun _ _ h => h⟩, ⟨fun a u h => ?_, fun b hb => ?_, w.tabs⟩, .lst upd_same (h2.mono ex fun _ h => h)⟩
    · rw [upd_ne (fun z => np (by rw [← z]; exact ha))]; exact hf
    · by_cases ha : a = l
      · subst ha; rw [upd_same] at h; rw [h1]; exact h
      · rw [upd_ne ha] at h; exact w.ex a u h
    · obtain ⟨b1, b2⟩ := w.bags b hb
      exact ⟨by rw [upd_ne (fun z => o.nb (by rw [← z]; exact hb))]; exact b1, b2.mono ex rfl⟩
theorem s_ret (h : LS Z (wsRet we) Dd σ H) : tRet (LE Z we) Dd σ H := by
  obtain ⟨F, B, P, ρ, W, a, w, kn, kr, kb, kc⟩ := h
  refine ⟨F, B, P, ρ, _, a, w, fun F1 B1 H1 v x e1 w1 r1 p1 => ?_⟩
  obtain ⟨F2, e2, w2, r2⟩ := out_of w1 r1
  exact kr _ _ _ _ _ ((a.rebase e1).trans e2) w2 r2 p1
theorem s_retN (h : LS Z wsRetN Dd σ H) : tRetN Dd σ H := by
  obtain ⟨F, B, P, ρ, W, a, w, kn, kr, kb, kc⟩ := h
  exact kr _ _ _ _ _ Le.refl a.wf .non w
theorem s_expr (h : LS Z (wsExpr we) Dd σ H) : tDrop (LE Z we) Dd σ H := by
  obtain ⟨F, B, P, ρ, W, a, w, kn, kr, kb, kc⟩ := h
  exact ⟨F, B, P, ρ, _, a, w, fun F1 B1 H1 v x e1 w1 r1 p1 => kn _ _ _ _ _ (a.rebase e1) (a.step e1 w1) p1⟩
theorem s_ifS (h : LS Z (wsIf wt t u) Dd σ H) : tIfS (LT Z wt) (LS Z t) (LS Z u) Dd σ H := by
  obtain ⟨F, B, P, ρ, W, a, w, kn, kr, kb, kc⟩ := h
  refine ⟨F, B, P, ρ, _, a, w, fun F1 B1 H1 b e1 w1 p1 => ?_⟩
  have e := a.rebase e1
  cases b with
  | true => exact ⟨F1, B1, P, ρ, W, a.step e1 w1, p1, fun F2 B2 H2 σ2 ρ2 e2 a2 p2 => kn _ _ _ _ _ (e.trans e2) a2 p2, fun F2 B2 H2 v d e2 w2 r2 p2 => kr _ _ _ _ _ (e.trans e2) w2 r2 p2, fun F2 B2 H2 σ2 ρ2 e2 a2 p2 => kb _ _ _ _ _ (e.trans e2) a2 p2, fun F2 B2 H2 σ2 ρ2 e2 a2 p2 => kc _ _ _ _ _ (e.trans e2) a2 p2⟩
  | false => exact ⟨F1, B1, P, ρ, W, a.step e1 w1, p1, fun F2 B2 H2 σ2 ρ2 e2 a2 p2 => kn _ _ _ _ _ (e.trans e2) a2 p2, fun F2 B2 H2 v d e2 w2 r2 p2 => kr _ _ _ _ _ (e.trans e2) w2 r2 p2, fun F2 B2 H2 σ2 ρ2 e2 a2 p2 => kb _ _ _ _ _ (e.trans e2) a2 p2, fun F2 B2 H2 σ2 ρ2 e2 a2 p2 => kc _ _ _ _ _ (e.trans e2) a2 p2⟩
theorem frz_le {P : Addr → Prop} {F : Hp} {B : Addr → Prop} {l : Addr} {ds : List D} {vs : List V} (w : Wf Z F B H) (o : OwnAt Z F B H l ds) (np : ¬ P l) (h1 : H l = some (.lst vs)) : Le P F B H (upd F l (.lst vs)) B H ∧ Wf Z (upd F l (.lst vs)) B H := by
  have ex : Ex F (upd F l (.lst vs)) := Evl.Ex.new o.nf
  refine ⟨⟨ex, fun _ h => h, fun _ _ _ _ h => h, fun _ h => h, fun a ha hf => ?_, fun _ _ h => h⟩, ⟨fun a u h => ?_, fun b hb => ?_, w.tabs⟩⟩
  · rw [upd_ne (fun z => np (by rw [← z]; exact ha))]; exact hf
  · by_cases ha : a = l
    · subst ha; rw [upd_same] at h; rw [h1]; exact h
    · rw [upd_ne ha] at h; exact w.ex a u h
  · obtain ⟨b1, b2⟩ := w.bags b hb
    exact ⟨by rw [upd_ne (fun z => o.nb (by rw [← z]; exact hb))]; exact b1, b2.mono ex rfl⟩
theorem s_frzS {i : Nat} (h : LS Z (wsFrz i t) Dd σ H) : LS Z t Dd σ H := by
  obtain ⟨F, B, P, ρ, W, a, ⟨ds, hi, w⟩, kn, kr, kb, kc⟩ := h
  obtain ⟨v, hv, l, ev, o, np⟩ := a.rs.val i _ hi
  subst ev
  obtain ⟨vs, g1, g2⟩ := o.at_
  obtain ⟨e2, w2⟩ := frz_le (P := P) a.wf o np g1
  have ex : Ex F (upd F l (.lst vs)) := Evl.Ex.new o.nf
  have hl : i < ρ.length := (List.getElem?_eq_some_iff.mp hi).1
  have rs2 : RS Z (upd F l (.lst vs)) B H P σ (ρ.set i (some (.fr (.list ds)))) := by
    refine ⟨by rw [List.length_set]; exact a.rs.len, fun j x hx => ?_, fun j k es fs m hne hj hk hs => ?_⟩
    · by_cases hij : i = j
      · subst hij
        rw [List.getElem?_set_self hl] at hx
        cases hx
        exact ⟨_, hv, .lst upd_same (g2.mono ex fun _ h => h)⟩
      · rw [List.getElem?_set_ne hij] at hx
        obtain ⟨u, h1, h2⟩ := a.rs.val j x hx
        refine ⟨u, h1, ?_⟩
        cases x with
        | fr d => exact Rep.mono ex (fun _ h => h) h2
        | ow es =>
          obtain ⟨m, em, om, nm⟩ := h2
          have ne : m ≠ l := fun z => a.rs.dif i j ds es l hij hi hx hv (by rw [h1, em, z])
          obtain ⟨us, q1, q2⟩ := om.at_
          exact ⟨m, em, ⟨by rw [upd_ne ne]; exact om.nf, om.nb, us, q1, q2.mono ex fun _ h => h⟩, nm⟩
    · have nj : i ≠ j := fun z => by
        subst z
        rw [List.getElem?_set_self hl] at hj; cases hj
      have nk : i ≠ k := fun z => by
        subst z
        rw [List.getElem?_set_self hl] at hk; cases hk
      rw [List.getElem?_set_ne nj] at hj
      rw [List.getElem?_set_ne nk] at hk
      exact a.rs.dif j k es fs m hne hj hk hs
  exact ⟨_, B, P, _, W, ⟨w2, rs2, a.pd⟩, w, fun F3 B3 H3 σ3 ρ3 e3 a3 p3 => kn _ _ _ _ _ (e2.trans e3) a3 p3, fun F3 B3 H3 v d e3 w3 r3 p3 => kr _ _ _ _ _ (e2.trans e3) w3 r3 p3, fun F3 B3 H3 σ3 ρ3 e3 a3 p3 => kb _ _ _ _ _ (e2.trans e3) a3 p3, fun F3 B3 H3 σ3 ρ3 e3 a3 p3 => kc _ _ _ _ _ (e2.trans e3) a3 p3⟩
/-- an own list is changed at its place -/
theorem own_step {P : Addr → Prop} {F : Hp} {B : Addr → Prop} {ρ : Ρ} {i : Nat} {l : Addr} {ds es : List D} {us : List V} (a : At Z σ H F B P ρ) (hi : ρ[i]? = some (some (.ow ds))) (hv : σ[i]? = some (some (.ref l))) (o : OwnAt Z F B H l ds) (np : ¬ P l) (r : RepAll Z F B us es) :
    Le P F B H F B (upd H l (.lst us)) ∧ At Z σ (upd H l (.lst us)) F B P (ρ.set i (some (.ow es))) := by
  obtain ⟨vs, g1, g2⟩ := o.at_
  have hl : i < ρ.length := (List.getElem?_eq_some_iff.mp hi).1
  have dd : ∀ x, H x ≠ none → upd H l (.lst us) x ≠ none := fun x n => by
    by_cases hx : x = l
    · subst hx; rw [upd_same]; exact fun q => nomatch q
    · rw [upd_ne hx]; exact n
  refine ⟨⟨Evl.Ex.refl _, fun _ h => h, fun x u p _ e => by rw [upd_ne (fun z => np (by rw [← z]; exact p))]; exact e, dd, fun _ _ h => h, fun _ _ h => h⟩, ⟨⟨a.wf.ex.mut o.nf, fun b hb => ?_, a.wf.tabs⟩, ⟨by rw [List.length_set]; exact a.rs.len, fun j x hx => ?_, fun j k fs gs m hne hj hk hs => ?_⟩, fun x p => dd x (a.pd x p)⟩⟩
  · obtain ⟨b1, b2⟩ := a.wf.bags b hb
    exact ⟨b1, b2.mono (Evl.Ex.refl _) (upd_ne fun z => o.nb (by rw [← z]; exact hb))⟩
  · by_cases hij : i = j
    · subst hij
      rw [List.getElem?_set_self hl] at hx
      cases hx
      exact ⟨_, hv, l, rfl, ⟨o.nf, o.nb, us, upd_same, r⟩, np⟩
    · rw [List.getElem?_set_ne hij] at hx
      obtain ⟨u, h1, h2⟩ := a.rs.val j x hx
      refine ⟨u, h1, ?_⟩
      cases x with
      | fr d => exact h2
      | ow es =>
        obtain ⟨m, em, om, nm⟩ := h2
        have ne : m ≠ l := fun z => a.rs.dif i j ds es l hij hi hx hv (by rw [h1, em, z])
        obtain ⟨ws, q1, q2⟩ := om.at_
        exact ⟨m, em, ⟨om.nf, om.nb, ws, by rw [upd_ne ne]; exact q1, q2⟩, nm⟩
  · have back : ∀ (j : Nat) (fs : List D), (ρ.set i (some (.ow es)))[j]? = some (some (X.ow fs)) → ∃ fs', ρ[j]? = some (some (.ow fs')) := fun j fs e => by
      by_cases hij : i = j
      · subst hij; exact ⟨ds, hi⟩
      · rw [List.getElem?_set_ne hij] at e; exact ⟨fs, e⟩
    obtain ⟨f1, h1⟩ := back j fs hj
    obtain ⟨f2, h2⟩ := back k gs hk
    exact a.rs.dif j k f1 f2 m hne h1 h2 hs
theorem s_app {i : Nat} {K : PySem.W.Frag} (hK : K = Z.K) (h : LS Z (wsApp i we) Dd σ H) : tDrop (tBM K "list" rAppend (tVar i) (tCons (LE Z we) tNil)) Dd σ H := by
  obtain ⟨F, B, P, ρ, W, a, ⟨ds, hi, hl, w⟩, kn, kr, kb, kc⟩ := h
  obtain ⟨v, hv, l, ev, o, np⟩ := a.rs.val i _ hi
  subst ev
  obtain ⟨vs, g1, g2⟩ := o.at_
  refine ⟨_, hv, .inl ⟨rfl, vs, SqL.of g1⟩, F, B, P, ρ, _, a, w, fun F1 B1 H1 v x e1 w1 r1 p1 => ?_⟩
  obtain ⟨d, rfl, q⟩ := p1
  have o1 := o.mono e1
  obtain ⟨us, h1, h2⟩ := o1.at_
  refine ⟨l, us, v, rfl, rfl, h1, szl (by rw [h2.length]; exact hl), ?_⟩
  obtain ⟨e2, a2⟩ := own_step (a.step e1 w1) hi hv o1 np (h2.append (.cons r1 .nil))
  exact kn _ _ _ _ _ ((a.rebase e1).trans e2) a2 q
theorem s_setI {i : Nat} {wi : WE} (h : LS Z (wsSetI i wi we) Dd σ H) : tAsg (LE Z we) (gSub (tVar i) (LE Z wi) rSetL) Dd σ H := by
  obtain ⟨F, B, P, ρ, W, a, ⟨ds, hi, w⟩, kn, kr, kb, kc⟩ := h
  obtain ⟨v0, hv, l, ev, o, np⟩ := a.rs.val i _ hi
  subst ev
  refine ⟨F, B, P, ρ, _, a, w, fun F1 B1 H1 v x e1 w1 r1 p1 => ?_⟩
  refine ⟨_, hv, F1, B1, P, ρ, _, a.step e1 w1, p1, fun F2 B2 H2 u y e2 w2 r2 p2 => ?_⟩
  obtain ⟨d, k, j, rfl, rfl, hj, q⟩ := p2
  have o2 := (o.mono e1).mono e2
  obtain ⟨us, h1, h2⟩ := o2.at_
  refine ⟨l, us, k, j, rfl, Rep.int_inv r2, h1, by rw [h2.length]; exact hj, ?_⟩
  obtain ⟨e3, a3⟩ := own_step ((a.step e1 w1).step e2 w2) hi hv o2 np (RepAll.set (XR.mono r1 e2) j h2)
  exact kn _ _ _ _ _ (((a.rebase e1).trans ((a.step e1 w1).rebase e2)).trans e3) a3 q
theorem s_while (h : LS Z (wsWhile wt t) Dd σ H) : tWhile (LT Z wt) (LS Z t) Dd σ H := by
  obtain ⟨F, B, P, ρ, W, a, ⟨Inv, ⟨m0, i0⟩, turn⟩, kn, kr, kb, kc⟩ := h
  refine ⟨fun m σ' H' => ∃ F' B' ρ', Le P F B H F' B' H' ∧ At Z σ' H' F' B' P ρ' ∧ Inv m ρ', ⟨m0, F, B, ρ, Le.refl, a, i0⟩, ?_⟩
  rintro m σ1 H1 ⟨F1, B1, ρ1, e1, a1, i1⟩
  refine ⟨F1, B1, P, ρ1, _, a1, turn m ρ1 i1, fun F2 B2 H2 b e2 w2 p2 => ?_⟩
  have e12 := e1.trans (a1.rebase e2)
  have a2 := a1.step e2 w2
  cases b with
  | false => exact kn _ _ _ _ _ e12 a2 p2
  | true =>
    refine ⟨fun σ' H' => ∃ m', m' < m ∧ ∃ F' B' ρ', Le P F B H F' B' H' ∧ At Z σ' H' F' B' P ρ' ∧ Inv m' ρ', fun σ' H' q => q, F2, B2, P, ρ1, _, a2, p2, fun F3 B3 H3 σ3 ρ3 e3 a3 p3 => ?_, fun F3 B3 H3 v d e3 w3 r3 p3 => kr _ _ _ _ _ (e12.trans e3) w3 r3 p3, fun F3 B3 H3 σ3 ρ3 e3 a3 p3 => kn _ _ _ _ _ (e12.trans e3) a3 p3, fun F3 B3 H3 σ3 ρ3 e3 a3 p3 => ?_⟩
    · obtain ⟨m', hm, i3⟩ := p3
      exact ⟨m', hm, F3, B3, ρ3, e12.trans e3, a3, i3⟩
    · obtain ⟨m', hm, i3⟩ := p3
      exact ⟨m', hm, F3, B3, ρ3, e12.trans e3, a3, i3⟩
theorem s_for {wi : WI} {g : TG} {wg : WG} {js : List Nat} (gs : GS Z g wg js) (h : LS Z (wsFor wi wg t) Dd σ H) : tFor (LI Z wi) g (LS Z t) Dd σ H := by
  obtain ⟨F, B, P, ρ, W, a, w, kn, kr, kb, kc⟩ := h
  refine ⟨F, B, P, ρ, _, a, w, fun F1 B1 H1 J ds e1 w1 wk p1 => ?_⟩
  obtain ⟨Inv, i0, turn, fin⟩ := p1
  have b1 := a.rebase e1
  refine ⟨fun i m σ' H' => m = ds.length - i ∧ i ≤ ds.length ∧ ∃ F' B' ρ', Le P F1 B1 H1 F' B' H' ∧ At Z σ' H' F' B' P ρ' ∧ Inv i ρ', ⟨ds.length, by simp, Nat.zero_le _, F1, B1, ρ, Le.refl, a.step e1 w1, i0⟩, ?_⟩
  rintro i m σ2 H2 ⟨rfl, hi, F2, B2, ρ2, e2, a2, i2⟩
  by_cases hlt : i < ds.length
  · refine .inr ⟨wk.go i F2 B2 H2 e2.ex e2.bg a2.wf hlt, fun σ' H' => ∃ F' B' ρ', Le P F1 B1 H1 F' B' H' ∧ At Z σ' H' F' B' P ρ' ∧ Inv (i + 1) ρ', fun σ' H' q => ⟨ds.length - (i + 1), by omega, rfl, hlt, q⟩, fun x H3 y => ?_⟩
    obtain ⟨F3, d, hd, e3, w3, rx⟩ := wk.yld i F2 B2 H2 x H3 e2.ex e2.bg a2.wf hlt y
    have a3 := a2.step e3 w3
    have e23 := e2.trans (a2.rebase e3)
    refine gs F3 B2 H3 P σ2 ρ2 x d _ _ a3 rx (turn i d ρ2 hd i2) fun σ4 ρ4 a4 _ t4 => ?_
    exact ⟨F3, B2, P, ρ4, _, a4, t4, fun F5 B5 H5 σ5 ρ5 e5 a5 p5 => ⟨F5, B5, ρ5, e23.trans e5, a5, p5⟩, fun F5 B5 H5 v d e5 w5 r5 p5 => kr _ _ _ _ _ ((b1.trans e23).trans e5) w5 r5 p5, fun F5 B5 H5 σ5 ρ5 e5 a5 p5 => kn _ _ _ _ _ ((b1.trans e23).trans e5) a5 p5, fun F5 B5 H5 σ5 ρ5 e5 a5 p5 => ⟨F5, B5, ρ5, e23.trans e5, a5, p5⟩⟩
  · have ei : i = ds.length := by omega
    subst ei
    exact .inl ⟨wk.stop F2 B2 H2 e2.ex e2.bg a2.wf, kn _ _ _ _ _ (b1.trans e2) a2 (fin ρ2 i2)⟩
end
section
variable {Z : Par} {X : Cx} {st : Stmt} {rest sts body sa sb : List Stmt} {t u : WS} {we wa wb : WE} {wn : WN} {wt : WT} {wl : WA} {e c a b tg iter : Expr} {pos pos' : Pos}
theorem qss_nil : PSs X [] (LS Z wsNext) := pssW pss_nil fun _ _ _ h => s_next h
theorem qss_cons (h1 : PS X st (LS Z t)) (h2 : PSs X rest (LS Z u)) : PSs X (st :: rest) (LS Z (wsSeq t u)) := pssW (pss_cons h1 h2) fun _ _ _ h => s_seq h
theorem qss_one (h1 : PS X st (LS Z t)) : PSs X [st] (LS Z t) := pss_one h1
theorem qss_frz (i : Nat) (h : PSs X sts (LS Z t)) : PSs X sts (LS Z (wsFrz i t)) := pssW h fun _ _ _ h => s_frzS h
theorem qs_pass : PS X (.Pass pos) (LS Z wsNext) := psW ps_pass fun _ _ _ h => s_next h
theorem qs_never : PS X st (LS Z wsNever) := ⟨fun _ _ _ _ _ _ h => by
  obtain ⟨_, _, _, _, _, _, w, _⟩ := h
  exact w.elim⟩
theorem qs_set (i : Nat) {x : Str} (hN : X.N.Nodup) (hi : X.N[i]? = some x) (hx : Loc X.env.scope x) (he : PE X e (LE Z we)) (hs : swapsWith e (some (.Name x pos')) pos.line X.env = pure false := by rfl) (hf : X.fn x = true ∨ X.env.scope.names.lookup x = some .local := by first | exact .inl rfl | exact .inr rfl | assumption) :
    PS X (.Assign [.Name x pos'] e pos) (LS Z (wsSet i we)) := psW (ps_set hN hi hx he hs hf) fun _ _ _ h => s_setS h
theorem qs_setN (i : Nat) {x : Str} (hN : X.N.Nodup) (hi : X.N[i]? = some x) (hx : Loc X.env.scope x) (he : PE X e (LN Z wn)) (hs : swapsWith e (some (.Name x pos')) pos.line X.env = pure false := by rfl) (hf : X.fn x = true ∨ X.env.scope.names.lookup x = some .local := by first | exact .inl rfl | exact .inr rfl | assumption) :
    PS X (.Assign [.Name x pos'] e pos) (LS Z (wsSetN i wn)) := psW (ps_set hN hi hx he hs hf) fun _ _ _ h => s_setN h
theorem qs_asg {g : TG} {wg : WG} {js : List Nat} (gs : GS Z g wg js) (he : PE X e (LE Z we)) (hg : PG X tg g) (hs : swapsWithSole [tg] e pos.line X.env = pure false := by rfl) (hw : swappedStores [tg] e X.env = pure none := by rfl) (h1 : (assignEach [tg] X.env).map (·.2) = [assign tg X.env] := by rfl) : PS X (.Assign [tg] e pos) (LS Z (wsAsg we wg)) := psW (ps_asg he hg hs hw h1) fun _ _ _ h => s_asgG gs h
theorem qs_ret (he : PE X e (LE Z we)) : PS X (.Return (some e) pos) (LS Z (wsRet we)) := psW (ps_ret he) fun _ _ _ h => s_ret h
theorem qs_retN : PS X (.Return none pos) (LS Z wsRetN) := psW ps_retN fun _ _ _ h => s_retN h
theorem qs_expr (he : PE X e (LE Z we)) (hs : swapsWith e none pos.line X.env = pure false := by rfl) : PS X (.Expr e pos) (LS Z (wsExpr we)) := psW (ps_expr he hs) fun _ _ _ h => s_expr h
theorem qs_if (hc : PT X c (LT Z wt)) (ha : PSs X sa (LS Z t)) (hb : PSs X sb (LS Z u)) : PS X (.If c sa sb pos) (LS Z (wsIf wt t u)) := psW (ps_if hc ha hb) fun _ _ _ h => s_ifS h
theorem qs_while (hp : PassesOwn (model X.prog X.w) X.A X.env X.xe) (hc : PT X c (LT Z wt)) (hb : PSs X body (LS Z t)) : PS X (.While c body [] pos) (LS Z (wsWhile wt t)) := psW (ps_while hp hc hb) fun _ _ _ h => s_while h
theorem qs_for {wi : WI} {g : TG} {wg : WG} {js : List Nat} (gs : GS Z g wg js) (hp : PassesOwn (model X.prog X.w) X.A X.env X.xe) (hc : X.calm = true) (hi : PI X tg iter (LI Z wi)) (hg : PG X tg g) (hb : PSs X body (LS Z t))
    (hs : ∀ x, foldedSetIterable iter X.env x = pure x := by intro _; rfl) : PS X (.For tg iter body [] pos) (LS Z (wsFor wi wg t)) := psW (ps_for hp hc hi hg hb hs) fun _ _ _ h => s_for gs h
theorem s_parN {i j : Nat} {Dd : Ends} {σ : L2.St} {H : Hp} (h : LS Z (fun W ρ => we ρ fun x => wn ρ fun ds => ∃ d, x = .fr d ∧ W.nx ((ρ.set i (some (.fr d))).set j (some (.ow ds)))) Dd σ H) : tPar i j (tCons (LE Z we) (tCons (LN Z wn) tNil)) Dd σ H := by
  obtain ⟨F, B, P, ρ, W, a, w, kn, kr, kb, kc⟩ := h
  refine ⟨F, B, P, ρ, _, a, w, fun F1 B1 H1 v x e1 w1 r1 p1 => ?_⟩
  have a1 := a.step e1 w1
  refine ⟨F1, B1, P, ρ, _, a1, p1, fun F2 B2 H2 l ds e2 w2 n2 o2 p2 => ?_⟩
  obtain ⟨d, rfl, q⟩ := p2
  have a2 := (a1.step e2 w2).setFr i (XR.mono r1 e2)
  have np : ¬ P l := fun z => a1.pd l z n2
  refine ⟨v, .ref l, rfl, kn _ _ _ _ _ ((a.rebase e1).trans (a1.rebase e2)) ⟨w2, a2.rs.setOw j o2 np fun k es _ hk hs => ?_, a2.pd⟩ q⟩
  exact ((a1.rs.setFr (v := v) i r1).fresh n2) k es hk hs
def wsParN (i j : Nat) (we : WE) (wn : WN) : WS := fun W ρ => we ρ fun x => wn ρ fun ds => ∃ d, x = .fr d ∧ W.nx ((ρ.set i (some (.fr d))).set j (some (.ow ds)))
theorem qs_par (i j : Nat) {x y : Str} {px py pt : Pos} {kt k2 pt2} (hc : X.calm = true) (hN : X.N.Nodup) (hi : X.N[i]? = some x) (hj : X.N[j]? = some y) (hij : i ≠ j)
    (hx : X.env.scope.names.lookup x = some .local) (hy : X.env.scope.names.lookup y = some .local) (ha : PA X [a, b] (LA Z wl)) (hw : swappedStores [.Tuple [.Name x px, .Name y py] kt pt] (.Tuple [a, b] k2 pt2) X.env = pure (some [x, y]))
    (hs : swapsWithSole [.Tuple [.Name x px, .Name y py] kt pt] (.Tuple [a, b] k2 pt2) pos.line X.env = pure false := by rfl) :
    PS X (.Assign [.Tuple [.Name x px, .Name y py] kt pt] (.Tuple [a, b] k2 pt2) pos) (LS Z (wsPar i j wl)) := psW (ps_par hc hN hi hj hij hx hy ha hw hs) fun _ _ _ h => s_par h
theorem qs_parN (i j : Nat) {x y : Str} {px py pt : Pos} {kt k2 pt2} (hc : X.calm = true) (hN : X.N.Nodup) (hi : X.N[i]? = some x) (hj : X.N[j]? = some y) (hij : i ≠ j)
    (hx : X.env.scope.names.lookup x = some .local) (hy : X.env.scope.names.lookup y = some .local) (ha : PE X a (LE Z we)) (hb : PE X b (LN Z wn)) (hw : swappedStores [.Tuple [.Name x px, .Name y py] kt pt] (.Tuple [a, b] k2 pt2) X.env = pure (some [x, y]))
    (h1 : starEach [a, b] X.env = (false, eval a X.env) :: starEach [b] X.env := by rfl) (h2 : starEach [b] X.env = (false, eval b X.env) :: starEach [] X.env := by rfl)
    (hs : swapsWithSole [.Tuple [.Name x px, .Name y py] kt pt] (.Tuple [a, b] k2 pt2) pos.line X.env = pure false := by rfl) :
    PS X (.Assign [.Tuple [.Name x px, .Name y py] kt pt] (.Tuple [a, b] k2 pt2) pos) (LS Z (wsParN i j we wn)) := psW (ps_par hc hN hi hj hij hx hy (pa_cons ha (pa_cons hb pa_nil h2) h1) hw hs) fun _ _ _ h => s_parN h
theorem qs_app (i : Nat) {x : Str} {p1 p2 : Pos} (hK : X.K = Z.K) (hbm : PE X (.Call (.Attribute (.Name x p1) "append" p2) [e] [] pos) (tBM X.K "list" rAppend (tVar i) (tCons (LE Z we) tNil))) (hs : swapsWith (.Call (.Attribute (.Name x p1) "append" p2) [e] [] pos) none pos'.line X.env = pure false := by rfl) :
    PS X (.Expr (.Call (.Attribute (.Name x p1) "append" p2) [e] [] pos) pos') (LS Z (wsApp i we)) := psW (ps_expr hbm hs) fun _ _ _ h => by
  rw [hK]
  exact s_app rfl h
theorem qs_setI (i : Nat) {x : Str} {wi : WE} {ie : Expr} {p1 p2 : Pos} (he : PE X e (LE Z we)) (hg : PG X (.Subscript (.Name x p1) ie p2) (gSub (tVar i) (LE Z wi) rSetL))
    (hs : swapsWithSole [.Subscript (.Name x p1) ie p2] e pos.line X.env = pure false := by rfl) (hw : swappedStores [.Subscript (.Name x p1) ie p2] e X.env = pure none := by rfl) (h1 : (assignEach [.Subscript (.Name x p1) ie p2] X.env).map (·.2) = [assign (.Subscript (.Name x p1) ie p2) X.env] := by rfl) :
    PS X (.Assign [.Subscript (.Name x p1) ie p2] e pos) (LS Z (wsSetI i wi we)) := psW (ps_asg he hg hs hw h1) fun _ _ _ h => s_setI h
theorem qs_setLc (i : Nat) {y : Str} {py spos : Pos} {elt : Expr} {ifs : List Expr} {scope : Scope} (own : List (Str × Nat)) {wi : WI} {g : TG} {wg : WG} {js : List Nat} (hc : X.calm = true) (hN : X.N.Nodup) (hy : X.N[i]? = some y) (hyl : X.env.scope.names.lookup y = some .local)
    (hsw : swapsWith (.ListComp elt [⟨tg, iter, ifs, 0⟩] scope pos) (some (.Name y py)) spos.line X.env = pure true) (hi : PI X tg iter (LI Z wi)) (ok : BlkOk X.N X.env.scope scope own) (gs : GS Z g wg js) (hj : ∀ j ∈ js, j ∈ own.map (·.2))
    (hg : ∀ (s : Shared) (H : Hp) (C : Addr) (cl : List (Str × Addr)) (fp : List Addr), PG (X.blk s H scope (compEnvC scope cl C X.env) fp) tg g) (ht : ∀ (s : Shared) (H : Hp) (C : Addr) (cl : List (Str × Addr)) (fp : List Addr), PTs (X.blk s H scope (compEnvC scope cl C X.env) fp) ifs (LT Z wt))
    (he : ∀ (s : Shared) (H : Hp) (C : Addr) (cl : List (Str × Addr)) (fp : List Addr), PE (X.blk s H scope (compEnvC scope cl C X.env) fp) elt (LE Z we)) (hs : ∀ x, foldedSetIterable iter X.env x = pure x := by intro _; rfl) :
    PS X (.Assign [.Name y py] (.ListComp elt [⟨tg, iter, ifs, 0⟩] scope pos) spos) (LS Z (wsSet i (wFrz (wLc wi wg wt we (own.map (·.2)))))) := psW (ps_setLc hc hN hy hyl hsw hi ok hg ht he hs) fun Dd σ H h => by
  have h2 : LS Z (wsSet i (wFrz (wLc wi wg wt we (own.map (·.2))))) Dd σ H := h
  have h3 := s_setS h2
  exact s_lc gs hj (s_frz h3)
/-! ### defs -/
/-- a def of the text: where it stands, how its arguments bind -/
def Def (K : PySem.W.Frag) (mg : Str → Option Value) (x : Str) (st : Stmt) (ps : List Str) : Prop := ∃ f fd, Fun K x x st f fd ∧ mg x = some (.ref f) ∧ Binds K fd ps []
/-- what it promises -/
def Cal (Z : Par) (P : Program) (w : World) (mg : Str → Option Value) (base : Heap) (k : Nat) (x : Str) (ps : List Str) (wf : WFn) : Prop := ∃ f fd, FnOk P w Z.K mg base CX0 k f fd ps (LF Z wf) ∧ mg x = some (.ref f) ∧ PySem.W.keepIn Z.K (.ref f) = true ∧ Binds Z.K fd ps []
def startR (n : Nat) (ds : List D) : Ρ := ds.map (fun d => some (.fr d)) ++ List.replicate (n - ds.length) none
theorem start_rs {F : Hp} {B : Addr → Prop} {H : Hp} {P : Addr → Prop} {N : List Str} {vs : List V} {ds : List D} (r : RepAll Z F B vs ds) : RS Z F B H P (L2.start N vs) (startR N.length ds) := by
  have hl := r.length
  unfold L2.start startR
  have back : ∀ (i : Nat) (x : DL.X), (ds.map (fun d => some (DL.X.fr d)) ++ List.replicate (N.length - ds.length) none)[i]? = some (some x) → ∃ d, ds[i]? = some d ∧ x = .fr d := fun i x h => by
    by_cases hi : i < ds.length
    · rw [List.getElem?_append_left (by rw [List.length_map]; exact hi), List.getElem?_map, List.getElem?_eq_getElem hi] at h
      exact ⟨ds[i], List.getElem?_eq_getElem hi, by cases h; rfl⟩
    · rw [List.getElem?_append_right (by rw [List.length_map]; omega)] at h
      have := List.mem_of_getElem? h
      rw [List.mem_replicate] at this
      cases this.2
  refine ⟨by simp [hl], fun i x h => ?_, fun i j es fs l hne hi hj hs => ?_⟩
  · obtain ⟨d, h1, rfl⟩ := back i x h
    obtain ⟨v, h2, h3⟩ := r.get h1
    refine ⟨v, ?_, h3⟩
    have hi : i < vs.length := (List.getElem?_eq_some_iff.mp h2).1
    rw [List.getElem?_append_left (by rw [List.length_map]; exact hi), List.getElem?_map, h2]
    rfl
  · obtain ⟨d, _, q⟩ := back i _ hi
    cases q
theorem fn_reads {N : List Str} {w : WS} {wf : WFn} (hd : ∀ ds post, wf ds post → w { nx := fun _ => post .none, rt := post } (startR N.length ds)) {vs : List V} {H : Hp} {Q : VK} {E : XK} (h : LF Z wf vs H Q E) : LS Z w { nx := fun _ H' => Q .non H', rt := Q } (L2.start N vs) H := by
  obtain ⟨F, B, ds, post, wF, r, p, k⟩ := h
  exact ⟨F, B, dm H, _, _, ⟨wF, start_rs r, fun _ h => h⟩, hd ds post p, fun F1 B1 H1 σ1 ρ1 e1 a1 p1 => k _ _ _ _ _ e1 a1.wf .non p1, fun F1 B1 H1 v d e1 w1 r1 p1 => k _ _ _ _ _ e1 w1 r1 p1, fun _ _ _ _ _ _ _ z => z.elim, fun _ _ _ _ _ _ _ z => z.elim⟩
theorem fn_data {P : Program} {w : World} {Z : Par} {mg : Str → Option Value} {base : Heap} {x : Str} {st : Stmt} {f : Addr} {fd : FuncData} {ps N : List Str} {k : Nat} {ws : WS} {wf : WFn} (F : Fun Z.K x x st f fd) (S : FnScope N ps (defScope st)) (len : ∀ ds post, wf ds post → ds.length = ps.length)
    (hb : ∀ (f : Addr) (cdv : Value) (A : Around) (outer : List Env) (s : Shared) (H : Hp) (E : XK), Room k (A.deeper (envOfC x (defScope st) s.heap.objs.size f cdv)) → PSs (cxOf CX0 P w Z.K mg base N x (defScope st) f cdv A outer s H E).nox (defBody st) (LS Z ws))
    (hd : ∀ ds post, wf ds post → ws { nx := fun _ => post .none, rt := post } (startR N.length ds)) : FnOk P w Z.K mg base CX0 (k + 1) f fd ps (LF Z wf) := by
  refine F.ok S (fun vs H Q E h => ?_) (fun cdv A outer s H vs Q E hr h => ⟨_, hb f cdv A outer s H E hr, fn_reads hd h⟩)
  obtain ⟨F, B, ds, post, _, r, p, _⟩ := h
  rw [r.length]
  exact len ds post p
theorem Def.cal {P : Program} {w : World} {Z : Par} {mg : Str → Option Value} {base : Heap} {x : Str} {ps N : List Str} {k : Nat} {ws : WS} {wf : WFn} (d : Def Z.K mg x st ps) (S : FnScope N ps (defScope st)) (len : ∀ ds post, wf ds post → ds.length = ps.length)
    (hb : ∀ (f : Addr) (cdv : Value) (A : Around) (outer : List Env) (s : Shared) (H : Hp) (E : XK), Room k (A.deeper (envOfC x (defScope st) s.heap.objs.size f cdv)) → PSs (cxOf CX0 P w Z.K mg base N x (defScope st) f cdv A outer s H E).nox (defBody st) (LS Z ws))
    (hd : ∀ ds post, wf ds post → ws { nx := fun _ => post .none, rt := post } (startR N.length ds)) : Cal Z P w mg base (k + 1) x ps wf := by
  obtain ⟨f, fd, F, hm, bi⟩ := d
  exact ⟨f, fd, fn_data F S len hb hd, hm, F.kp, bi⟩
theorem Cal.mono {P : Program} {w : World} {mg : Str → Option Value} {base : Heap} {x : Str} {ps : List Str} {j k : Nat} {wf : WFn} (c : Cal Z P w mg base j x ps wf) (h : j ≤ k) : Cal Z P w mg base k x ps wf := by
  obtain ⟨f, fd, G, hm, hk, bi⟩ := c
  exact ⟨f, fd, G.mono h, hm, hk, bi⟩
def wFcall (wf : WFn) (wl : WA) : WE := fun ρ post => wl ρ fun xs => ∃ ds, xs = ds.map DL.X.fr ∧ wf ds fun d => post (.fr d)
theorem s_fcall {wf : WFn} {σ : L2.St} {H : Hp} {Q : VK} {E : XK} (h : LE Z (wFcall wf wl) σ H Q) : tCall (LF Z wf) [] E (LA Z wl) σ H Q := by
  obtain ⟨F, B, P, ρ, post, a, w, k⟩ := h
  refine ⟨F, B, P, ρ, _, a, w, fun F1 B1 H1 vs xs e1 w1 r1 p1 => ?_⟩
  obtain ⟨ds, rfl, q⟩ := p1
  refine ⟨F1, B1, ds, _, w1, ?_, q, fun F2 B2 H2 v d e2 w2 r2 p2 => k _ _ _ _ (.fr d) (e1.then e2) w2 r2 p2⟩
  rw [List.append_nil]
  exact XRs.fr r1
theorem qe_call {es : List Expr} {k j : Nat} {x : Str} {ps : List Str} {wf : WFn} {p : Pos} (c : Cal Z X.prog X.w X.mg X.base k x ps wf) (hK : X.K = Z.K) (hr : Room j X.A) (hjk : k ≤ j) (ha : PA X (e :: es) (LA Z wl)) (hg : Gl X x := by rfl) (hdb : (x == ("__debug__" : Str)) = false := by decide)
    (he : starEach (e :: es) X.env = (false, eval e X.env) :: starEach es X.env := by rfl) (hpl : (backTo pos (starEach es X.env)).any (·.1) = false := by rfl) : PE X (.Call (.Name x p) (e :: es) [] pos) (LE Z (wFcall wf wl)) := by
  obtain ⟨f, fd, G, hm, hk, bi⟩ := c
  rw [← hK] at G hk bi
  exact peW (pe_call G (hr.mono hjk) hg hm hk bi .nil pass0 ha hdb he hpl) fun _ _ _ h => s_fcall (E := E0) h
end
end DL

/-! The data layer's rules: isinstance, list(range(..)), the built-ins' names; words for the plain part. -/
namespace DL
open PySem PySem.Spec PyProof.Rows L2
/-- the built-in names that the module leaves as they are -/
structure Bt (mg : Str → Option Value) : Prop where
  len_ : mg "len" = none
  max_ : mg "max" = none
  min_ : mg "min" = none
  sum_ : mg "sum" = none
  all_ : mg "all" = none
  tuple_ : mg "tuple" = none
  int_ : mg "int" = none
  list_ : mg "list" = none
  range_ : mg "range" = none
  zip_ : mg "zip" = none
  enumerate_ : mg "enumerate" = none
  isinstance_ : mg "isinstance" = none
  bool_ : mg "bool" = none
  sorted_ : mg "sorted" = none
  set_ : mg "set" = none
  repr_ : mg "repr" = none
  str_ : mg "str" = none
  g_FAR : ∃ t, mg "FAR" = some (.int 1000000000000000000 t)
/-! ### isinstance -/
def plainD : D → Bool
  | .dict _ => false
  | _ => true
def tyD : D → String
  | .none => "NoneType"
  | .bool _ => "bool"
  | .int _ => "int"
  | .str _ => "str"
  | .list _ => "list"
  | .tuple _ => "tuple"
  | .dict _ => "dict"
def isTy (T : String) (d : D) : Bool := match T, d with
  | "int", .int _ => true
  | "int", .bool _ => true
  | "bool", .bool _ => true
  | "tuple", .tuple _ => true
  | "list", .list _ => true
  | "str", .str _ => true
  | _, _ => false
def wIsi (T : String) (we : WE) : WE := fun ρ post => we ρ fun x => plainD x.dat = true ∧ post (.fr (.bool (isTy T x.dat)))
section
variable {Z : Par} {X : Cx} {a : Expr} {wa : WE} {p p2 pos : Pos}
theorem XR.tyx {F : Hp} {B : Addr → Prop} {H : Hp} {P : Addr → Prop} {v : V} {x : DL.X} (w : Wf Z F B H) (r : XR Z F B H P v x) (h : plainD x.dat = true) : TyX Z.K H v (.type (tyD x.dat)) := by
  cases x with
  | ow ds =>
    obtain ⟨l, rfl, o, _⟩ := r
    obtain ⟨vs, h1, _⟩ := o.at_
    exact .base (.lst h1)
  | fr d =>
    have r : Rep Z F B v d := r
    cases r with
    | non => exact .base .non
    | bl b => exact .base (.bl b)
    | int i => exact .base (.int i)
    | str i => exact .base (.str i)
    | lst h1 _ => exact .base (.lst (w.ex _ _ h1))
    | tup h1 _ => exact .base (.tup (w.ex _ _ h1))
    | bag _ _ => cases h
    | scr _ _ => cases h
    | fx _ => cases h
theorem kit_int : ∀ d : D, plainD d = true → kitB (tyD d) "int" = some (isTy "int" d)
  | .none, _ => by decide +kernel
  | .bool _, _ => by show kitB "bool" "int" = some true; decide +kernel
  | .int _, _ => by show kitB "int" "int" = some true; decide +kernel
  | .str _, _ => by show kitB "str" "int" = some false; decide +kernel
  | .list _, _ => by show kitB "list" "int" = some false; decide +kernel
  | .tuple _, _ => by show kitB "tuple" "int" = some false; decide +kernel
theorem kit_bool : ∀ d : D, plainD d = true → kitB (tyD d) "bool" = some (isTy "bool" d)
  | .none, _ => by decide +kernel
  | .bool _, _ => by show kitB "bool" "bool" = some true; decide +kernel
  | .int _, _ => by show kitB "int" "bool" = some false; decide +kernel
  | .str _, _ => by show kitB "str" "bool" = some false; decide +kernel
  | .list _, _ => by show kitB "list" "bool" = some false; decide +kernel
  | .tuple _, _ => by show kitB "tuple" "bool" = some false; decide +kernel
theorem kit_tuple : ∀ d : D, plainD d = true → kitB (tyD d) "tuple" = some (isTy "tuple" d)
  | .none, _ => by decide +kernel
  | .bool _, _ => by show kitB "bool" "tuple" = some false; decide +kernel
  | .int _, _ => by show kitB "int" "tuple" = some false; decide +kernel
  | .str _, _ => by show kitB "str" "tuple" = some false; decide +kernel
  | .list _, _ => by show kitB "list" "tuple" = some false; decide +kernel
  | .tuple _, _ => by show kitB "tuple" "tuple" = some true; decide +kernel
theorem kit_list : ∀ d : D, plainD d = true → kitB (tyD d) "list" = some (isTy "list" d)
  | .none, _ => by decide +kernel
  | .bool _, _ => by show kitB "bool" "list" = some false; decide +kernel
  | .int _, _ => by show kitB "int" "list" = some false; decide +kernel
  | .str _, _ => by show kitB "str" "list" = some false; decide +kernel
  | .list _, _ => by show kitB "list" "list" = some true; decide +kernel
  | .tuple _, _ => by show kitB "tuple" "list" = some false; decide +kernel
theorem kit_str : ∀ d : D, plainD d = true → kitB (tyD d) "str" = some (isTy "str" d)
  | .none, _ => by decide +kernel
  | .bool _, _ => by show kitB "bool" "str" = some false; decide +kernel
  | .int _, _ => by show kitB "int" "str" = some false; decide +kernel
  | .str _, _ => by show kitB "str" "str" = some true; decide +kernel
  | .list _, _ => by show kitB "list" "str" = some false; decide +kernel
  | .tuple _, _ => by show kitB "tuple" "str" = some false; decide +kernel
theorem qe_isiG {T : String} {x : Str} (kit : ∀ d : D, plainD d = true → kitB (tyD d) T = some (isTy T d)) (hK : X.K = Z.K) (hm : X.mg "isinstance" = none) (hm2 : X.mg x = none) (ha : PE X a (LE Z wa)) (hv : bootBuiltins x = some (.type T)) (hn : x ≠ "__name__") (hd : (x == ("__debug__" : Str)) = false) (hg : Gl X "isinstance") (hg2 : Gl X x)
    (he : starEach [a, .Name x p2] X.env = (false, eval a X.env) :: starEach [.Name x p2] X.env) (he2 : starEach [.Name x p2] X.env = (false, eval (.Name x p2) X.env) :: starEach [] X.env) (hpl : (backTo pos (starEach [.Name x p2] X.env)).any (·.1) = false) :
    PE X (.Call (.Name "isinstance" p) [a, .Name x p2] [] pos) (LE Z (wIsi T wa)) :=
  peW (pe_callB call_isi hg hm (by decide +kernel) (pa_cons ha (pa_cons (pe_bltn (v := .ty T) hg2 hm2 hv rfl hn hd) pa_nil he2) he) (by decide) (by decide) he hpl) fun σ H Q h => by
    obtain ⟨F, B, P, ρ, post, a, w, k⟩ := h
    refine ⟨F, B, P, ρ, _, a, w, fun F1 B1 H1 v x e1 w1 r1 p1 => ?_⟩
    obtain ⟨pl, q⟩ := p1
    rw [hK]
    exact ⟨v, .ty T, _, _, _, rfl, .ty T, XR.tyx w1 r1 pl, kit_ty (kit _ pl), k _ _ _ _ (.fr _) e1 w1 (.bl _) q⟩
theorem qe_isi_int (hK : X.K = Z.K) (hm : X.mg "isinstance" = none) (hm2 : X.mg "int" = none) (ha : PE X a (LE Z wa)) (hg : Gl X "isinstance" := by rfl) (hg2 : Gl X "int" := by rfl)
    (he : starEach [a, .Name "int" p2] X.env = (false, eval a X.env) :: starEach [.Name "int" p2] X.env := by rfl) (he2 : starEach [.Name "int" p2] X.env = (false, eval (.Name "int" p2) X.env) :: starEach [] X.env := by rfl) (hpl : (backTo pos (starEach [.Name "int" p2] X.env)).any (·.1) = false := by rfl) :
    PE X (.Call (.Name "isinstance" p) [a, .Name "int" p2] [] pos) (LE Z (wIsi "int" wa)) := qe_isiG kit_int hK hm hm2 ha (by decide +kernel) (by decide) (by decide) hg hg2 he he2 hpl
theorem qe_isi_bool (hK : X.K = Z.K) (hm : X.mg "isinstance" = none) (hm2 : X.mg "bool" = none) (ha : PE X a (LE Z wa)) (hg : Gl X "isinstance" := by rfl) (hg2 : Gl X "bool" := by rfl)
    (he : starEach [a, .Name "bool" p2] X.env = (false, eval a X.env) :: starEach [.Name "bool" p2] X.env := by rfl) (he2 : starEach [.Name "bool" p2] X.env = (false, eval (.Name "bool" p2) X.env) :: starEach [] X.env := by rfl) (hpl : (backTo pos (starEach [.Name "bool" p2] X.env)).any (·.1) = false := by rfl) :
    PE X (.Call (.Name "isinstance" p) [a, .Name "bool" p2] [] pos) (LE Z (wIsi "bool" wa)) := qe_isiG kit_bool hK hm hm2 ha (by decide +kernel) (by decide) (by decide) hg hg2 he he2 hpl
theorem qe_isi_tuple (hK : X.K = Z.K) (hm : X.mg "isinstance" = none) (hm2 : X.mg "tuple" = none) (ha : PE X a (LE Z wa)) (hg : Gl X "isinstance" := by rfl) (hg2 : Gl X "tuple" := by rfl)
    (he : starEach [a, .Name "tuple" p2] X.env = (false, eval a X.env) :: starEach [.Name "tuple" p2] X.env := by rfl) (he2 : starEach [.Name "tuple" p2] X.env = (false, eval (.Name "tuple" p2) X.env) :: starEach [] X.env := by rfl) (hpl : (backTo pos (starEach [.Name "tuple" p2] X.env)).any (·.1) = false := by rfl) :
    PE X (.Call (.Name "isinstance" p) [a, .Name "tuple" p2] [] pos) (LE Z (wIsi "tuple" wa)) := qe_isiG kit_tuple hK hm hm2 ha (by decide +kernel) (by decide) (by decide) hg hg2 he he2 hpl
theorem qe_isi_list (hK : X.K = Z.K) (hm : X.mg "isinstance" = none) (hm2 : X.mg "list" = none) (ha : PE X a (LE Z wa)) (hg : Gl X "isinstance" := by rfl) (hg2 : Gl X "list" := by rfl)
    (he : starEach [a, .Name "list" p2] X.env = (false, eval a X.env) :: starEach [.Name "list" p2] X.env := by rfl) (he2 : starEach [.Name "list" p2] X.env = (false, eval (.Name "list" p2) X.env) :: starEach [] X.env := by rfl) (hpl : (backTo pos (starEach [.Name "list" p2] X.env)).any (·.1) = false := by rfl) :
    PE X (.Call (.Name "isinstance" p) [a, .Name "list" p2] [] pos) (LE Z (wIsi "list" wa)) := qe_isiG kit_list hK hm hm2 ha (by decide +kernel) (by decide) (by decide) hg hg2 he he2 hpl
theorem qe_isi_str (hK : X.K = Z.K) (hm : X.mg "isinstance" = none) (hm2 : X.mg "str" = none) (ha : PE X a (LE Z wa)) (hg : Gl X "isinstance" := by rfl) (hg2 : Gl X "str" := by rfl)
    (he : starEach [a, .Name "str" p2] X.env = (false, eval a X.env) :: starEach [.Name "str" p2] X.env := by rfl) (he2 : starEach [.Name "str" p2] X.env = (false, eval (.Name "str" p2) X.env) :: starEach [] X.env := by rfl) (hpl : (backTo pos (starEach [.Name "str" p2] X.env)).any (·.1) = false := by rfl) :
    PE X (.Call (.Name "isinstance" p) [a, .Name "str" p2] [] pos) (LE Z (wIsi "str" wa)) := qe_isiG kit_str hK hm hm2 ha (by decide +kernel) (by decide) (by decide) hg hg2 he he2 hpl
end
/-! ### list(range(..)) -/
def wListR1 (we : WE) : WN := fun ρ post => we ρ fun x => ∃ n : Int, x = .fr (.int n) ∧ (0 ≤ n ∧ n ≤ 100000) ∧ post (rgD 0 n.toNat)
def wListR2 (wa wb : WE) : WN := fun ρ post => wa ρ fun x => wb ρ fun y => ∃ m n : Int, x = .fr (.int m) ∧ y = .fr (.int n) ∧ (0 ≤ m ∧ m ≤ 100000 ∧ 0 ≤ n ∧ n ≤ 100000) ∧ post (rgD m (n - m).toNat)
section
variable {Z : Par} {X : Cx} {a b : Expr} {wa wb : WE} {p p2 pos pos2 : Pos}
theorem rgV_rep {F : Hp} {B : Addr → Prop} (a b : Int) : RepAll Z F B (rgV a b) (rgD a (b - a).toNat) := by
  unfold rgV rgD
  generalize (b - a).toNat = n
  generalize hl : List.range n = l
  clear hl
  induction l with
  | nil => exact .nil
  | cons x l ih => exact .cons (.int _) ih
theorem qn_listR1 (hc : X.calm = true) (hm : X.mg "list" = none) (hm2 : X.mg "range" = none) (ha : PE X a (LE Z wa)) (hg : Gl X "list" := by rfl) (hg2 : Gl X "range" := by rfl) (na : starEach [a] X.env = (false, eval a X.env) :: starEach [] X.env := by rfl)
    (nb : starEach [.Call (.Name "range" p2) [a] [] pos2] X.env = (false, eval (.Call (.Name "range" p2) [a] [] pos2) X.env) :: starEach [] X.env := by rfl) : PE X (.Call (.Name "list" p) [.Call (.Name "range" p2) [a] [] pos2] [] pos) (LN Z (wListR1 wa)) :=
  peW (pe_listRg hc hg hm (prg_1 hg2 hm2 ha na) nb) fun σ H Q h => by
    obtain ⟨F, B, P, ρ, post, a, w, k⟩ := h
    refine ⟨F, B, P, ρ, _, a, w, fun F1 B1 H1 v x e1 w1 r1 p1 => ?_⟩
    obtain ⟨n, rfl, ⟨h0, h1⟩, q⟩ := p1
    refine ⟨n, Rep.int_inv r1, RgOk.of_le (Int.le_refl 0) (by omega) (by omega) h0, fun l hl => ?_⟩
    exact KN.new (KN.later k e1) w1 hl (rgV_rep 0 n) (by rw [Int.sub_zero]; exact q)
theorem qn_listR2 (hc : X.calm = true) (hm : X.mg "list" = none) (hm2 : X.mg "range" = none) (ha : PE X a (LE Z wa)) (hb : PE X b (LE Z wb)) (hg : Gl X "list" := by rfl) (hg2 : Gl X "range" := by rfl) (na : starEach [a, b] X.env = (false, eval a X.env) :: starEach [b] X.env := by rfl) (na2 : starEach [b] X.env = (false, eval b X.env) :: starEach [] X.env := by rfl) (hp : (backTo pos2 (starEach [b] X.env)).any (·.1) = false := by rfl)
    (nb : starEach [.Call (.Name "range" p2) [a, b] [] pos2] X.env = (false, eval (.Call (.Name "range" p2) [a, b] [] pos2) X.env) :: starEach [] X.env := by rfl) : PE X (.Call (.Name "list" p) [.Call (.Name "range" p2) [a, b] [] pos2] [] pos) (LN Z (wListR2 wa wb)) :=
  peW (pe_listRg hc hg hm (prg_2 hg2 hm2 ha hb na na2 hp) nb) fun σ H Q h => by
    obtain ⟨F, B, P, ρ, post, a, w, k⟩ := h
    refine ⟨F, B, P, ρ, _, a, w, fun F1 B1 H1 v x e1 w1 r1 p1 => ?_⟩
    refine ⟨F1, B1, P, ρ, _, a.step e1 w1, p1, fun F2 B2 H2 u y e2 w2 r2 p2 => ?_⟩
    obtain ⟨m, n, rfl, rfl, ⟨h0, h1, h2, h3⟩, q⟩ := p2
    refine ⟨m, n, Rep.int_inv (r1.mono e2), Rep.int_inv r2, RgOk.of_le h0 (by omega) (by omega) h2, fun l hl => ?_⟩
    exact KN.new (KN.later k (e1.then e2)) w2 hl (rgV_rep m n) q
end
end DL

/-! The data layer's rules: bags of draws. -/
namespace DL
open PySem PySem.Spec PyProof.Rows L2
def DrawsOk (xs : List Int) : Prop := xs.length = 400 ∧ ∀ x ∈ xs, 0 ≤ x ∧ x < 1000
/-- a new bag -/
def wBag (wn : WN) : WE := fun ρ post => wn ρ fun ds => ∃ (xs : List Int) (n : Int), ds = [.list (xs.map PyData.int), .int n] ∧ 0 ≤ n ∧ DrawsOk xs ∧ post (.fr bagD)
def wBag0 (i : Nat) : WE := fun ρ post => ρ[i]? = some (some (.fr bagD)) ∧ ∀ xs : List Int, DrawsOk xs → post (.fr (.list (xs.map PyData.int)))
def wBag1 (i : Nat) : WE := fun ρ post => ρ[i]? = some (some (.fr bagD)) ∧ ∀ n : Int, 0 ≤ n → post (.fr (.int n))
def wsBump (i : Nat) (we : WE) : WS := fun W ρ => ρ[i]? = some (some (.fr bagD)) ∧ we ρ fun x => ∃ m : Int, 0 ≤ m ∧ x = .fr (.int m) ∧ W.nx ρ
section
variable {Z : Par} {X : Cx} {a e : Expr} {we : WE} {wn : WN} {σ : L2.St} {H : Hp} {pos pos' : Pos}
theorem s_bag {Q : VK} (h : LE Z (wBag wn) σ H Q) : LN Z wn σ H Q := by
  obtain ⟨F, B, P, ρ, post, a, w, k⟩ := h
  refine ⟨F, B, P, ρ, _, a, w, fun F' B' H' l ds e w' n o p => ?_⟩
  obtain ⟨xs, m, rfl, hm, hx, q⟩ := p
  obtain ⟨vs, h1, h2⟩ := o.at_
  cases h2 with
  | cons r1 r2 =>
    cases r2 with
    | cons r2 r3 =>
      cases r3
      obtain ⟨la, us, rfl, g1, g2⟩ := Rep.lst_inv r1
      obtain rfl := Rep.int_inv r2
      have eu := g2.ints
      subst eu
      have nt : ∀ q, ¬ Z.tab l q := fun q t => o.nb (w'.tabs l q t)
      refine k F' (fun b => B' b ∨ b = l) H' _ (.fr bagD) ⟨e.ex, fun b hb => .inl (e.bg b hb), e.hp, e.dom, e.nf, fun b hb hB => ?_⟩ ⟨w'.ex, fun b hb => ?_, fun b q t => .inl (w'.tabs b q t)⟩ (.bag (.inr rfl) nt) q
      · rcases hB with hB | rfl
        · exact e.nb b hb hB
        · exact absurd n hb
      · rcases hb with hb | rfl
        · exact w'.bags b hb
        · exact ⟨o.nf, ⟨_, h1⟩, fun _ => ⟨la, m, xs, h1, hm, g1, hx.1, hx.2⟩, fun q t => absurd t (nt q)⟩
theorem qe_bag (h : PE X a (LN Z wn)) : PE X a (LE Z (wBag wn)) := peW h fun _ _ _ h => s_bag h
theorem At.bag {F : Hp} {B : Addr → Prop} {P : Addr → Prop} {ρ : Ρ} {i : Nat} (a : At Z σ H F B P ρ) (hi : ρ[i]? = some (some (.fr bagD))) : ∃ b, σ[i]? = some (some (.ref b)) ∧ B b ∧ (∀ q, ¬ Z.tab b q) ∧ ∃ (l : Addr) (n : Int) (xs : List Int), H b = some (.lst [.ref l, .int n]) ∧ 0 ≤ n ∧ F l = some (.lst (xs.map V.int)) ∧ xs.length = 400 ∧ ∀ x ∈ xs, 0 ≤ x ∧ x < 1000 := by
  obtain ⟨v, hv, r⟩ := a.rs.val i _ hi
  obtain ⟨b, rfl, hb, ht⟩ := Rep.bag_inv r
  exact ⟨b, hv, hb, ht, (a.wf.bags b hb).2.2.1 ht⟩
theorem qe_bag0 (i : Nat) {x : Str} {p p2 : Pos} {j : Nat} (hK : X.K = Z.K) (hv : PE X (.Name x p) (tVar i)) : PE X (.Subscript (.Name x p) (.Constant (.int 0) j p2) pos) (LE Z (wBag0 i)) := peW (pe_ix ix_list hv pe_int (fun _ _ => rfl)) fun σ H Q h => by
  obtain ⟨F, B, P, ρ, post, a, ⟨hi, w⟩, k⟩ := h
  obtain ⟨b, hv, hb, ht, l, n, xs, h1, h2, h3, h4, h5⟩ := a.bag hi
  rw [hK]
  refine ⟨_, hv, b, _, 0, .ref l, rfl, rfl, SqL.of h1, atI_nat (j := 0) rfl, ?_⟩
  exact k _ _ _ _ (.fr _) Le.refl a.wf (.lst h3 (RepAll.of_ints xs)) (w xs ⟨h4, h5⟩)
theorem qe_bag1 (i : Nat) {x : Str} {p p2 : Pos} {j : Nat} (hK : X.K = Z.K) (hv : PE X (.Name x p) (tVar i)) : PE X (.Subscript (.Name x p) (.Constant (.int 1) j p2) pos) (LE Z (wBag1 i)) := peW (pe_ix ix_list hv pe_int (fun _ _ => rfl)) fun σ H Q h => by
  obtain ⟨F, B, P, ρ, post, a, ⟨hi, w⟩, k⟩ := h
  obtain ⟨b, hv, hb, ht, l, n, xs, h1, h2, h3, h4, h5⟩ := a.bag hi
  rw [hK]
  refine ⟨_, hv, b, _, 1, .int n, rfl, rfl, SqL.of h1, atI_nat (j := 1) rfl, ?_⟩
  exact k _ _ _ _ (.fr _) Le.refl a.wf (.int n) (w n h2)
theorem s_bump {i : Nat} {Dd : Ends} (h : LS Z (wsBump i we) Dd σ H) : tAsg (LE Z we) (gSub (tVar i) (tC (.int 1)) rSetL) Dd σ H := by
  obtain ⟨F, B, P, ρ, W, a, ⟨hi, w⟩, kn, kr, kb, kc⟩ := h
  refine ⟨F, B, P, ρ, _, a, w, fun F1 B1 H1 v x e1 w1 r1 p1 => ?_⟩
  obtain ⟨m, hm, rfl, q⟩ := p1
  obtain rfl := Rep.int_inv r1
  have a1 := a.step e1 w1
  obtain ⟨b, hv, hb, ht, l, n, xs, h1, h2, h3, h4, h5⟩ := a1.bag hi
  refine ⟨_, hv, b, _, 1, 1, rfl, rfl, h1, by simp [ixN], ?_⟩
  show Dd.nx σ (upd H1 b (.lst [.ref l, .int m]))
  have fb := (w1.bags b hb).1
  have dd : ∀ x, H1 x ≠ none → upd H1 b (.lst [.ref l, .int m]) x ≠ none := fun x n => by
    by_cases hx : x = b
    · subst hx; rw [upd_same]; exact fun q => nomatch q
    · rw [upd_ne hx]; exact n
  have e2 : Le P F1 B1 H1 F1 B1 (upd H1 b (.lst [.ref l, .int m])) := ⟨Evl.Ex.refl _, fun _ h => h, fun x u p nb e => by rw [upd_ne (fun z => nb (by rw [z]; exact hb))]; exact e, dd, fun _ _ h => h, fun _ _ h => h⟩
  refine kn _ _ _ _ _ ((a.rebase e1).trans e2) ⟨⟨w1.ex.mut fb, fun c hc => ?_, w1.tabs⟩, ⟨a1.rs.len, fun j x hx => ?_, a1.rs.dif⟩, fun x p => dd x (a1.pd x p)⟩ q
  · by_cases hcb : c = b
    · subst hcb
      exact ⟨fb, ⟨_, upd_same⟩, fun _ => ⟨l, m, xs, upd_same, hm, h3, h4, h5⟩, fun q t => absurd t (ht q)⟩
    · obtain ⟨c1, c2⟩ := w1.bags c hc
      exact ⟨c1, c2.mono (Evl.Ex.refl _) (upd_ne hcb)⟩
  · obtain ⟨v, g1, g2⟩ := a1.rs.val j x hx
    refine ⟨v, g1, ?_⟩
    cases x with
    | fr d => exact g2
    | ow ds =>
      obtain ⟨t, rfl, o, np⟩ := g2
      obtain ⟨vs, o1, o2⟩ := o.at_
      exact ⟨t, rfl, ⟨o.nf, o.nb, vs, by rw [upd_ne (fun z => o.nb (by rw [z]; exact hb))]; exact o1, o2⟩, np⟩
theorem qs_bump (i : Nat) {x : Str} {p p2 p3 : Pos} {j : Nat} (he : PE X e (LE Z we)) (hg : PG X (.Subscript (.Name x p) (.Constant (.int 1) j p2) p3) (gSub (tVar i) (tC (.int 1)) rSetL))
    (hs : swapsWithSole [.Subscript (.Name x p) (.Constant (.int 1) j p2) p3] e pos.line X.env = pure false := by rfl) (hw : swappedStores [.Subscript (.Name x p) (.Constant (.int 1) j p2) p3] e X.env = pure none := by rfl) (h1 : (assignEach [.Subscript (.Name x p) (.Constant (.int 1) j p2) p3] X.env).map (·.2) = [assign (.Subscript (.Name x p) (.Constant (.int 1) j p2) p3) X.env] := by rfl) :
    PS X (.Assign [.Subscript (.Name x p) (.Constant (.int 1) j p2) p3] e pos) (LS Z (wsBump i we)) := psW (ps_asg he hg hs hw h1) fun _ _ _ h => s_bump h
end
end DL

/-! The data layer's rules: enumerate of a tuple, sorted ints, repr of truths, in, is True. -/
namespace DL
open PySem PySem.Spec PyProof.Rows L2
/-! ### enumerate(tuple) -/
def IteT (K : PySem.W.Frag) (a : Addr) : It :=
  ⟨fun i H => ∃ (xs : List V) (x : V), SqT K H a xs ∧ xs[i]? = some x, fun i H v H' => ∃ T x, v = .ref T ∧ H T = none ∧ H' = upd H T (.tup [.int (i : Nat), x]) ∧ ∀ xs, SqT K H a xs → xs[i]? = some x, fun i H => ∃ xs : List V, SqT K H a xs ∧ xs.length = i⟩
theorem turn_enumT {P : Program} {w : World} {K : PySem.W.Frag} {elts : List Expr} {kk : Nat} {tpos : Pos} (a e it : Addr) :
    Turn P w K (.Tuple elts kk tpos) (IteT K a) [e, it] e (fun i h => (∃ old, IsEnum h e it ((i : Nat) : Int) old) ∧ h.IsTupleIter it a i ∧ e ≠ it ∧ a ≠ it ∧ a ≠ e) where
  mem := by simp
  obj := fun i h st b hb => by
    obtain ⟨⟨old, he⟩, ⟨o, ho, hc, hd⟩, _⟩ := st
    have e' : b = e ∨ b = it := by simpa using hb
    rcases e' with z | z
    · rw [z]; exact ⟨_, he, fun v q => nomatch q⟩
    · rw [z]; exact ⟨o, ho, fun v q => by rw [hd] at q; cases q⟩
  keep := fun i h h' st k => let ⟨⟨old, he⟩, hi, hne⟩ := st; ⟨⟨old, k e (by simp) _ he⟩, hi.at fun o q => k it (by simp) o q, hne⟩
  item := by
    intro X hP hw hK hc i pins s σ H E I hf st hg
    subst hP hw hK
    obtain ⟨⟨old, he⟩, hit, hne, hai, hae⟩ := st
    obtain ⟨xs, x, hq, hx⟩ := hg
    obtain ⟨its, rv, p, hz⟩ := I.tuple hq
    obtain ⟨u, hu, ru⟩ := rv.get hx
    have hel : e < s.heap.objs.size := Heap.lt_size he
    have hil : it < s.heap.objs.size := by obtain ⟨_, q, _⟩ := hit; exact Heap.lt_size q
    have p : s.heap.IsTuple a its.toArray := p
    have hlt : i < its.toArray.size := by
      have := (List.getElem?_eq_some_iff.mp hu).1
      simpa using this
    have D : Draws X.prog X.w X.A.in1 it [it, a] its.toArray.size (fun i v => its.toArray[i]? = some v) (fun i h => h.IsTupleIter it a i ∧ h.IsTuple a its.toArray) := Draws.tuple (A := X.A.in1) (show X.A.in1.handled = none from I.ok.hd hc) it a hai its.toArray
    refine wpAny_pyNext_enum_itemD D he ⟨hit, p⟩ hlt hne (by simp [hne]; exact fun z => hae z.symm) fun y h' tk hP ho hst hT hsz hk => ?_
    obtain ⟨hit', _⟩ := hst
    have eu : y = u := by
      have h1 : its.toArray[i]? = some u := by simpa using hu
      rw [h1] at hP
      exact (Option.some.inj hP).symm
    subst eu
    refine ⟨_, rfl, wpAny_letOwnedTupleGo_enum (s := { s with heap := h', toks := tk + 1 }) ho fun h'' he' sb => ?_⟩
    have hT2 : h''.get? s.heap.objs.size = some { cls := .type "tuple", data := .seq #[.int i tk, y] } := (sb.2 _ (Nat.ne_of_gt hel)).trans hT
    have new : ObjOk X.prog X.w (upd H s.heap.objs.size (.tup [.int (i : Nat), x])) h'' s.heap.objs.size (.tup [.int (i : Nat), x]) :=
      ⟨by show 2 ≤ sizeLine; decide, [.int i tk, y], .cons ⟨_, rfl⟩ (.cons ru .nil), ⟨_, hT2, rfl, _, rfl⟩⟩
    have I1 : Inv X pins σ (upd H s.heap.objs.size (.tup [.int (i : Nat), x])) { s with heap := h'', toks := tk + 1 } :=
      I.turnedNew (ch := [e, it]) (fun b ob hb q => (sb.2 b (fun z => hb (by simp [z]))).trans (hk b ob (fun z => hb (by simp [z])) (fun z => hb (by simp [z])) q)) hf (Nat.le_refl _) new
    refine ⟨.ref s.heap.objs.size, _, I1, rfl, ⟨_, x, rfl, I.hok.fresh (Nat.le_refl _), rfl, fun ys hy => by rw [I.tuple_inj hy hq]; exact hx⟩, ⟨⟨y, ?_⟩, hit'.at fun o q => (sb.2 it (Ne.symm hne)).trans q, hne, hai, hae⟩, fun b hb => ?_⟩
    · have e1 : ((i + 1 : Nat) : Int) = (i : Int) + 1 := by omega
      rw [e1]; exact he'
    · have hb' : b < s.heap.objs.size := by
        have e' : b = e ∨ b = it := by simpa using hb
        rcases e' with z | z
        · rw [z]; exact hel
        · rw [z]; exact hil
      rw [upd_ne (Nat.ne_of_lt hb')]
      exact (hf b hb).1
  done := by
    intro X hP hw hK hc i pins s σ H E I hf st hg
    subst hP hw hK
    obtain ⟨⟨old, he⟩, hit, hne, hai, hae⟩ := st
    obtain ⟨xs, hq, hx⟩ := hg
    obtain ⟨its, rv, p, hz⟩ := I.tuple hq
    obtain ⟨f0, f1, f2, f3, f4, f5⟩ := hf it (by simp)
    have hl := rv.length
    have p : s.heap.IsTuple a its.toArray := p
    have D : Draws X.prog X.w X.A.in1 it [it, a] its.toArray.size (fun i v => its.toArray[i]? = some v) (fun i h => h.IsTupleIter it a i ∧ h.IsTuple a its.toArray) := Draws.tuple (A := X.A.in1) (show X.A.in1.handled = none from I.ok.hd hc) it a hai its.toArray
    have hi : i = its.toArray.size := by simp; omega
    subst hi
    exact wpAny_pyNext_enum_endD D he ⟨hit, p⟩ fun h' eb => ⟨rfl, I.turned (t' := s.toks) (fun b o hb q => eb b o hb q) f0 f1 f3 f4 f5⟩
  self := fun A i s Q E st h => let ⟨⟨_, he⟩, _⟩ := st; wpAny_pyIter_enum he h
def iEnumT (K : PySem.W.Frag) (ta : TA) : TI := fun σ H R => ta σ H fun vs H1 => ∃ a xs, vs = [.ref a] ∧ SqT K H1 a xs ∧ R (IteT K a) H1
theorem meets_enumerate_newT {v : Value} {o : Obj} {H : Heap → Prop} (B : Begins v o H) :
    Meets (Builtin.«enumerate.__new__» ⟨[.type "enumerate", v], []⟩) (fun _ R s => H s.heap ∧
      R (.ok (.ret (.ref (s.heap.push o).objs.size))) { s with heap := (s.heap.push o).push { cls := .type "enumerate", data := .fields #[.none, .bool false, .ref s.heap.objs.size, rawInt 0, .none, .none] } }) :=
  .of_wp fun prog w A R s h => by
    obtain ⟨hp, g, d, tk, os⟩ := s; obtain ⟨h1, h⟩ := h
    have hsub := sub_enumerate
    have q1 : ∀ {A' : Around} {E : Value → Shared → Prop} {Q : Value → Shared → Prop}, Q (.ref hp.objs.size) ⟨hp.push o, g, d, tk, os⟩ → wpAny (model prog w) A' (pyIter v) Q E ⟨hp, g, d, tk, os⟩ :=
      fun q => B.iter prog w _ _ ⟨hp, g, d, tk, os⟩ _ h1 q
    wp_walk using q1
    refine wpAny_stack_any fun st => wpAny_pure ?_
    split
    · rename_i c _ _ _ _ _
      cases (c == Value.type "enumerate")
      · wp_walk using q1
        exact ⟨_, rfl, h⟩
      · wp_walk using q1
        exact ⟨_, rfl, h⟩
    · wp_walk using q1
      exact ⟨_, rfl, h⟩
section
variable {prog : Program} {w : World} {A : Around} {E : Value → Shared → Prop} {s : Shared}
theorem call_enumerate_tuple {l : Addr} {items : Array Value} {Q : Value → Shared → Prop} (hL : s.heap.IsTuple l items)
    (h : ∀ h', IsEnum h' (s.heap.objs.size + 1) s.heap.objs.size 0 .none → h'.IsTupleIter s.heap.objs.size l 0 → h'.objs.size = s.heap.objs.size + 2 →
      (∀ b o, s.heap.get? b = some o → h'.get? b = some o) → Q (.ref (s.heap.objs.size + 1)) { s with heap := h' }) :
    wpAny (model prog w) A (call (.type "enumerate") [.ref l]) Q E s := by
  refine callType_new F.called_enumerate (by decide) (F.typeCall_enumerate_1 _) (F.newCall_enumerate_1 _) (fun obj => F.args_object_init_2 obj _) F.entry_enumerate_new
    (meets_enumerate_newT (begins_tuple l items)) ⟨hL, ?_⟩
  have hz : (s.heap.push { cls := .type "tuple_iterator", data := .fields #[.ref l, .int 0 0] }).objs.size = s.heap.objs.size + 1 := Heap.size_push ..
  show _ ∧ _
  rw [hz]
  have he : IsEnum ((s.heap.push { cls := .type "tuple_iterator", data := .fields #[.ref l, .int 0 0] }).push
      { cls := .type "enumerate", data := .fields #[.none, .bool false, .ref s.heap.objs.size, rawInt 0, .none, .none] }) (s.heap.objs.size + 1) s.heap.objs.size 0 .none := by
    have := Heap.get?_push_size (s.heap.push { cls := .type "tuple_iterator", data := .fields #[.ref l, .int 0 0] })
      (o := { cls := .type "enumerate", data := .fields #[.none, .bool false, .ref s.heap.objs.size, rawInt 0, .none, .none] }) rfl
    rw [hz] at this; exact this
  refine ⟨⟨_, he, rfl⟩, h _ he ⟨_, Heap.get?_push_of_some _ (Heap.get?_push_size _ rfl), rfl, rfl⟩ (by rw [Heap.size_push, hz]) fun b o x => Heap.get?_push_of_some _ (Heap.get?_push_of_some _ x)⟩
end
theorem pi_enumT {X : Cx} {e : Expr} {ta : TA} {p pos tpos : Pos} {elts : List Expr} {kk : Nat} (hg : Gl X "enumerate") (hm : X.mg "enumerate" = none) (ha : PA X [e] ta) (hs : starEach [e] X.env = [(false, eval e X.env)] := by rfl) :
    PI X (.Tuple elts kk tpos) (.Call (.Name "enumerate" p) [e] [] pos) (iEnumT X.K ta) := by
  refine ⟨fun pins s σ H R I h => ?_⟩
  refine Call_ (ld_blt I hg hm boot_enumerate (PyProof.Rows.callWith_type1 (thn (ha.run pos pins s σ H _ I h) fun us s1 ⟨vs, H1, I1, r1, q1⟩ => ?_) hs rfl))
  obtain ⟨a, xs, ex, hq, q⟩ := q1
  subst ex
  cases r1 with
  | cons r rr =>
    cases rr
    cases r
    obtain ⟨its, rv, p', hz⟩ := I1.tuple hq
    have p' : s1.heap.IsTuple a its.toArray := p'
    have hal : a < s1.heap.objs.size := by obtain ⟨_, q, _⟩ := p'; exact Heap.lt_size q
    refine call_enumerate_tuple p' fun h' he hit hsz hk => wpAny_pyIter_enum he ?_
    have I2 : Inv X pins σ H1 { s1 with heap := h' } := I1.kept (t' := s1.toks) hk
    refine ⟨s1.heap.objs.size + 1, [s1.heap.objs.size + 1, s1.heap.objs.size], _, _, H1, rfl, I2, turn_enumT a (s1.heap.objs.size + 1) s1.heap.objs.size, ⟨⟨.none, he⟩, hit, Nat.succ_ne_self _, Nat.ne_of_lt hal, Nat.ne_of_lt (Nat.lt_succ_of_lt hal)⟩, fun b hb => ?_, q⟩
    have e' : b = s1.heap.objs.size + 1 ∨ b = s1.heap.objs.size := by simpa using hb
    have hle : s1.heap.objs.size ≤ b := by
      rcases e' with z | z
      · rw [z]; exact Nat.le_add_right _ _
      · rw [z]; exact Nat.le_refl _
    exact I1.fpOk hle (I1.hok.fresh hle)
def enD (ds : List D) : List D := ds.mapIdx fun i d => .tuple [.int (i : Int), d]
theorem walkD_enumT {Z : Par} {F : Hp} {B : Addr → Prop} {a : Addr} {vs : List V} {ds : List D} (h : SqT Z.K F a vs) (r : RepAll Z F B vs ds) : WalkD Z F B (IteT Z.K a) (enD ds) := by
  have hl := r.length
  have hz : (enD ds).length = ds.length := by unfold enD; rw [List.length_mapIdx]
  refine ⟨fun i F1 B1 H1 e bb wf hi => ?_, fun F1 B1 H1 e bb wf => ?_, fun i F1 B1 H1 x H2 e bb wf hi y => ?_⟩
  · rw [hz] at hi
    have i1 : i < vs.length := by omega
    exact ⟨vs, vs[i], Evl.ex_t (e.trans wf.ex) h, List.getElem?_eq_getElem i1⟩
  · rw [hz]
    exact ⟨vs, Evl.ex_t (e.trans wf.ex) h, by omega⟩
  · obtain ⟨T, x1, rfl, hT, rfl, f1⟩ := y
    have g1 := f1 vs (Evl.ex_t (e.trans wf.ex) h)
    obtain ⟨d1, q1, q2⟩ := r.getV g1
    have fT : F1 T = none := Evl.fresh_back wf.ex hT
    refine ⟨upd F1 T (.tup [.int (i : Nat), x1]), .tuple [.int (i : Int), d1], ?_, Le.new wf hT, wf.new hT, .tup upd_same (.cons (.int _) (.cons ((q2.mono e bb).mono (Evl.Ex.new fT) fun _ h => h) .nil))⟩
    unfold enD
    rw [List.getElem?_mapIdx, q1]
    rfl
def wiEnumT (wl : WA) : WI := fun ρ post => wl ρ fun xs => ∃ ds, xs = [.fr (.tuple ds)] ∧ post (enD ds)
section
variable {Z : Par} {X : Cx} {tg e e2 a b : Expr} {wa wb we : WE} {wl : WA} {p pos tpos : Pos} {elts : List Expr} {kk : Nat}
theorem qi_enumT (hK : X.K = Z.K) (hm : X.mg "enumerate" = none) (ha : PA X [e] (LA Z wl)) (hg : Gl X "enumerate" := by rfl) (hs : starEach [e] X.env = [(false, eval e X.env)] := by rfl) :
    PI X (.Tuple elts kk tpos) (.Call (.Name "enumerate" p) [e] [] pos) (LI Z (wiEnumT wl)) := piW (pi_enumT hg hm ha hs) fun σ H R h => by
  obtain ⟨F, B, P, ρ, post, a, w, k⟩ := h
  refine ⟨F, B, P, ρ, _, a, w, fun F1 B1 H1 vs xs e1 w1 r1 p1 => ?_⟩
  obtain ⟨ds, rfl, q⟩ := p1
  obtain ⟨v, rfl, rx⟩ := r1.one
  obtain ⟨b, ws, rfl, h1, h2⟩ := Rep.tup_inv rx
  rw [hK]
  exact ⟨b, ws, rfl, SqT.of (w1.ex _ _ h1), k _ _ _ _ _ e1 w1 (walkD_enumT (SqT.of h1) h2) q⟩
/-! ### sorted(ints) -/
def wSortedI : List DL.X → (List D → Prop) → Prop := fun xs post => ∃ (x : DL.X) (ns : List Int), xs = [x] ∧ ItL x (ns.map PyData.int) ∧ ∀ ms : List Int, ms.Perm ns → ms.Pairwise (· ≤ ·) → post (ms.map PyData.int)
theorem qn_sortedI (hK : X.K = Z.K) (hm : X.mg "sorted" = none) (ha : PA X [a] (LA Z wl)) (hg : Gl X "sorted" := by rfl) (he : starEach [a] X.env = (false, eval a X.env) :: starEach [] X.env := by rfl) : PE X (.Call (.Name "sorted" p) [a] [] pos) (LN Z (wCallN wSortedI wl)) :=
  qn_callB cr_sortedI (fun F B H P vs xs post Q w rx wr k => by
    obtain ⟨x, ns, rfl, i, q⟩ := wr
    obtain ⟨v, rfl, r⟩ := rx.one
    obtain ⟨p, us, rfl, h1, h2⟩ := i.at w r
    have := h2.ints
    subst this
    rw [hK]
    exact ⟨p, ns, rfl, SqL.of h1, fun ms l g1 g2 hl => KN.new k w hl (RepAll.of_ints ms) (q ms g1 g2)⟩) hm ha hg (he := he)
/-! ### repr(a truth) -/
def boolS (b : Bool) : Str := if b then Str.ofString "True" else Str.ofString "False"
def wRepr : List DL.X → (DL.X → Prop) → Prop := fun xs post => ∃ b : Bool, xs = [.fr (.bool b)] ∧ post (.fr (.str (boolS b)))
theorem call_repr_bool : CallR X (.builtin "repr") (fun xs H Q => ∃ b, xs = [.bl b] ∧ Q (.str (boolS b)) H) := by
  intro pins s σ H xs us Q I r h
  obtain ⟨b, rfl, q⟩ := h
  obtain ⟨u, rfl, ru⟩ : ∃ u, us = [u] ∧ RelV (.bl b) u := by
    cases r with
    | cons r rr => cases rr; exact ⟨_, rfl, r⟩
  cases ru
  refine PySem.P.repr_of_bool ⟨.str (boolS b), H, I.tok _, ⟨s.toks, ?_⟩, q⟩
  cases b <;> rfl
theorem qe_repr (hm : X.mg "repr" = none) (ha : PA X [a] (LA Z wl)) (hg : Gl X "repr" := by rfl) (he : starEach [a] X.env = (false, eval a X.env) :: starEach [] X.env := by rfl) : PE X (.Call (.Name "repr" p) [a] [] pos) (LE Z (wCall wRepr wl)) :=
  qe_callB call_repr_bool (fun F B H P vs xs post Q w rx wr k => by
    obtain ⟨b, rfl, q⟩ := wr
    obtain ⟨v, rfl, r⟩ := rx.one
    rw [Rep.bl_inv r]
    exact ⟨b, rfl, KX.here k w (x := .fr _) (.str _) q⟩) hm ha hg (he := he)
/-! ### in a list -/
def wIn (neg : Bool) : DL.X → DL.X → (DL.X → Prop) → Prop := fun x y post => ∃ ds, y.dat = .list ds ∧ SeqAt.shaped x.dat = true ∧ SeqAt.shaped (.list ds) = true ∧ post (.fr (.bool (if neg then !(ds.any fun z => PyData.eqv z x.dat) else ds.any fun z => PyData.eqv z x.dat)))
theorem o_in (hK : X.K = Z.K) : OpS Z (rInD X.K) (wIn false) := fun F B H P v u x y post Q w rx ry wr k => by
  obtain ⟨ds, e, s1, s2, p⟩ := wr
  rw [hK]
  have hy := XR.dp w ry (by rw [e]; exact SeqAt.canLay_of_shaped s2)
  rw [e] at hy
  exact ⟨_, ds, XR.dp w rx (SeqAt.canLay_of_shaped s1), hy, s1, s2, KX.here k w (x := .fr _) (.bl _) p⟩
theorem o_notin (hK : X.K = Z.K) : OpS Z (rNotInD X.K) (wIn true) := fun F B H P v u x y post Q w rx ry wr k => by
  obtain ⟨ds, e, s1, s2, p⟩ := wr
  rw [hK]
  have hy := XR.dp w ry (by rw [e]; exact SeqAt.canLay_of_shaped s2)
  rw [e] at hy
  exact ⟨_, ds, XR.dp w rx (SeqAt.canLay_of_shaped s1), hy, s1, s2, KX.here k w (x := .fr _) (.bl _) p⟩
theorem _root_.L2.Room.units65 {k : Nat} {A : Around} (r : Room k A) : A.units + 65 < cLine := by have := r.un; omega
theorem qe_in (hK : X.K = Z.K) (hu : X.A.units + 65 < cLine) (ha : PE X a (LE Z wa)) (hb : PE X b (LE Z wb)) (hm : behindInMarks .In b = false := by rfl) : PE X (.Compare a [.In] [b] pos) (LE Z (wOp (wIn false) wa wb)) := qe_cmpR (op_inD hu) (o_in hK) ha hb hm
theorem qe_notin (hK : X.K = Z.K) (hu : X.A.units + 65 < cLine) (ha : PE X a (LE Z wa)) (hb : PE X b (LE Z wb)) (hm : behindInMarks .NotIn b = false := by rfl) : PE X (.Compare a [.NotIn] [b] pos) (LE Z (wOp (wIn true) wa wb)) := qe_cmpR (op_notInD hu) (o_notin hK) ha hb hm
theorem qt_in (hK : X.K = Z.K) (hu : X.A.units + 65 < cLine) (ha : PE X a (LE Z wa)) (hb : PE X b (LE Z wb)) (hm : behindInMarks .In b = false := by rfl) : PT X (.Compare a [.In] [b] pos) (LT Z (wTest (wOp (wIn false) wa wb))) := qt_cmpR (op_inD hu) (o_in hK) ha hb hm
theorem qt_notin (hK : X.K = Z.K) (hu : X.A.units + 65 < cLine) (ha : PE X a (LE Z wa)) (hb : PE X b (LE Z wb)) (hm : behindInMarks .NotIn b = false := by rfl) : PT X (.Compare a [.NotIn] [b] pos) (LT Z (wTest (wOp (wIn true) wa wb))) := qt_cmpR (op_notInD hu) (o_notin hK) ha hb hm
/-! ### is True -/
def wIsB (neg : Bool) : DL.X → DL.X → (DL.X → Prop) → Prop := fun x y post => ∃ a b : Bool, x = .fr (.bool a) ∧ y = .fr (.bool b) ∧ post (.fr (.bool (if neg then !(a == b) else a == b)))
theorem op_isBl : OpR X (compareOp .Is) (fun x y H Q => ∃ a b, x = .bl a ∧ y = .bl b ∧ Q (.bl (a == b)) H) := by
  intro pins s σ H x y v u Q I rx ry h
  obtain ⟨a, b, rfl, rfl, q⟩ := h
  cases rx
  cases ry
  show wpAny _ _ ((isSame _ _) >>= fun z => pure (Value.bool z)) _ _ s
  refine wpAny_bind (wpAny_isSame_plain (by rfl) (wpAny_pure (fin_bl I q ?_)))
  cases a <;> cases b <;> rfl
theorem op_notBl : OpR X (compareOp .IsNot) (fun x y H Q => ∃ a b, x = .bl a ∧ y = .bl b ∧ Q (.bl (!(a == b))) H) := by
  intro pins s σ H x y v u Q I rx ry h
  obtain ⟨a, b, rfl, rfl, q⟩ := h
  cases rx
  cases ry
  show wpAny _ _ ((isSame _ _) >>= fun z => pure (Value.bool (!z))) _ _ s
  refine wpAny_bind (wpAny_isSame_plain (by rfl) (wpAny_pure (fin_bl I q ?_)))
  cases a <;> cases b <;> rfl
theorem o_isB : OpS Z (fun x y H Q => ∃ a b, x = .bl a ∧ y = .bl b ∧ Q (.bl (a == b)) H) (wIsB false) := fun F B H P v u x y post Q w rx ry wr k => by
  obtain ⟨a, b, rfl, rfl, p⟩ := wr
  exact ⟨a, b, Rep.bl_inv rx, Rep.bl_inv ry, KX.here k w (x := .fr _) (.bl _) p⟩
theorem o_notB : OpS Z (fun x y H Q => ∃ a b, x = .bl a ∧ y = .bl b ∧ Q (.bl (!(a == b))) H) (wIsB true) := fun F B H P v u x y post Q w rx ry wr k => by
  obtain ⟨a, b, rfl, rfl, p⟩ := wr
  exact ⟨a, b, Rep.bl_inv rx, Rep.bl_inv ry, KX.here k w (x := .fr _) (.bl _) p⟩
theorem qe_isB (ha : PE X a (LE Z wa)) (hb : PE X b (LE Z wb)) : PE X (.Compare a [.Is] [b] pos) (LE Z (wOp (wIsB false) wa wb)) := qe_cmpR op_isBl o_isB ha hb (nomark _)
theorem qe_notB (ha : PE X a (LE Z wa)) (hb : PE X b (LE Z wb)) : PE X (.Compare a [.IsNot] [b] pos) (LE Z (wOp (wIsB true) wa wb)) := qe_cmpR op_notBl o_notB ha hb (nomark _)
theorem qt_isB (ha : PE X a (LE Z wa)) (hb : PE X b (LE Z wb)) : PT X (.Compare a [.Is] [b] pos) (LT Z (wTest (wOp (wIsB false) wa wb))) := qt_cmpR op_isBl o_isB ha hb (nomark _)
theorem qt_notB (ha : PE X a (LE Z wa)) (hb : PE X b (LE Z wb)) : PT X (.Compare a [.IsNot] [b] pos) (LT Z (wTest (wOp (wIsB true) wa wb))) := qt_cmpR op_notBl o_notB ha hb (nomark _)
end
end DL

/-! The data layer's rules: three names at once, a tuple from behind. -/
namespace DL
open PySem PySem.Spec PyProof.Rows L2
def wsPar3 (i j l : Nat) (wl : WA) : WS := fun W ρ => wl ρ fun xs => ∃ c d e, xs = [.fr c, .fr d, .fr e] ∧ W.nx (((ρ.set i (some (.fr c))).set j (some (.fr d))).set l (some (.fr e)))
theorem XRs.three {Z : Par} {F : Hp} {B : Addr → Prop} {H : Hp} {P : Addr → Prop} {vs : List V} {x y z : X} (h : XRs Z F B H P vs [x, y, z]) : ∃ v u w, vs = [v, u, w] ∧ XR Z F B H P v x ∧ XR Z F B H P u y ∧ XR Z F B H P w z := by
  cases h with
  | cons h1 r =>
    obtain ⟨u, w, rfl, h2, h3⟩ := r.two
    exact ⟨_, u, w, rfl, h1, h2, h3⟩
section
variable {Z : Par} {X : Cx} {a b c e : Expr} {we : WE} {wl : WA} {pos : Pos}
theorem s_par3 {i j l : Nat} {Dd : Ends} {σ : L2.St} {H : Hp} (h : LS Z (wsPar3 i j l wl) Dd σ H) : tPar3 i j l (LA Z wl) Dd σ H := by
  obtain ⟨F, B, P, ρ, W, a, w, kn, kr, kb, kc⟩ := h
  refine ⟨F, B, P, ρ, _, a, w, fun F1 B1 H1 vs xs e1 w1 r1 p1 => ?_⟩
  obtain ⟨c, d, e, rfl, q⟩ := p1
  obtain ⟨v, u, t, rfl, rx, ry, rz⟩ := r1.three
  exact ⟨v, u, t, rfl, kn _ _ _ _ _ (a.rebase e1) ((((a.step e1 w1).setFr i rx).setFr j ry).setFr l rz) q⟩
theorem qs_par3 (i j l : Nat) {x y z : Str} {px py pz pt : Pos} {kt k2 pt2} (hc : X.calm = true) (hN : X.N.Nodup) (hi : X.N[i]? = some x) (hj : X.N[j]? = some y) (hl : X.N[l]? = some z) (hij : i ≠ j) (hil : i ≠ l) (hjl : j ≠ l)
    (hx : X.env.scope.names.lookup x = some .local) (hy : X.env.scope.names.lookup y = some .local) (hz : X.env.scope.names.lookup z = some .local) (ha : PA X [a, b, c] (LA Z wl))
    (hw : swappedStores [.Tuple [.Name x px, .Name y py, .Name z pz] kt pt] (.Tuple [a, b, c] k2 pt2) X.env = pure (some [x, y, z]))
    (hs : swapsWithSole [.Tuple [.Name x px, .Name y py, .Name z pz] kt pt] (.Tuple [a, b, c] k2 pt2) pos.line X.env = pure false := by rfl) :
    PS X (.Assign [.Tuple [.Name x px, .Name y py, .Name z pz] kt pt] (.Tuple [a, b, c] k2 pt2) pos) (LS Z (wsPar3 i j l wl)) := psW (ps_par3 hc hN hi hj hl hij hil hjl hx hy hz ha hw hs) fun _ _ _ h => s_par3 h
end
/-! ### t[::-1] -/
section
variable {prog : Program} {w : World} {A : Around} {E : Value → Shared → Prop} {s : Shared}
theorem adjust_rev (n : Nat) : Builtin.Slice.sliceAdjust none none (-1) (n : Int) = ((n : Int) - 1, -1) := by
  unfold Builtin.Slice.sliceAdjust
  rfl
theorem places_rev (n : Nat) : Builtin.Slice.slicePlaces ((n : Int) - 1) (-1) (-1) = n := by
  unfold Builtin.Slice.slicePlaces
  have h1 : ¬ ((-1 : Int) > 0) := by omega
  simp only [h1, if_false]
  have e : ((n : Int) - 1 - -1 - 1) / - -1 = (n : Int) - 1 := by
    rw [show (- -1 : Int) = 1 by decide, Int.ediv_one]
    omega
  rw [e]
  split <;> omega
theorem sliceApplied_rev {sl : Addr} {vl vu vs : Value} {n : Nat} {Q : Int × Int × Nat → Shared → Prop} (hs : s.heap.IsSliceOf sl vl vu vs) (pl : IsPart vl none) (pu : IsPart vu none) (ps : IsPart vs (some (-1)))
    (h : Q ((n : Int) - 1, -1, n) s) : wpAny (model prog w) A (Builtin.Slice.sliceApplied (.ref sl) (pure (n : Int))) Q E s := by
  obtain ⟨os, hos, hcs, hds⟩ := id hs
  unfold Builtin.Slice.sliceApplied Builtin.Slice.sliceFields
  refine wpAny_bind (wpAny_bind (wpAny_field hos hds (x := vl) rfl (wpAny_bind (wpAny_field hos hds (x := vu) rfl (wpAny_bind (wpAny_field hos hds (x := vs) rfl (wpAny_pure ?_)))))))
  refine wpAny_bind (HT.slicePart_ ps ?_)
  show wpAny _ _ (if ((-1 : Int) == 0) = true then _ else _) _ _ s
  rw [if_neg (by decide)]
  refine wpAny_bind (HT.slicePart_ pl (wpAny_bind (HT.slicePart_ pu (wpAny_bind (wpAny_pure ?_)))))
  show wpAny _ _ (match Builtin.Slice.sliceAdjust none none (-1) (n : Int) with | (lo, hi) => pure (lo, (-1 : Int), Builtin.Slice.slicePlaces lo hi (-1))) _ _ s
  rw [adjust_rev n]
  show wpAny _ _ (pure ((n : Int) - 1, (-1 : Int), Builtin.Slice.slicePlaces ((n : Int) - 1) (-1) (-1))) _ _ s
  rw [places_rev]
  exact wpAny_pure h
theorem pick_rev (xs : Array Value) : ((List.range xs.size).filterMap fun (m : Nat) => xs[(((xs.size : Int) - 1) + (m : Int) * (-1)).toNat]?).toArray = xs.toList.reverse.toArray := by
  congr 1
  have e : ∀ m ∈ List.range xs.size, xs[(((xs.size : Int) - 1) + (m : Int) * (-1)).toNat]? = xs.toList.reverse[m]? := fun m hm => by
    have hm := List.mem_range.mp hm
    rw [show (((xs.size : Int) - 1) + (m : Int) * (-1)).toNat = xs.size - 1 - m by omega, List.getElem?_reverse (by rw [Array.length_toList]; exact hm), Array.length_toList, Array.getElem?_toList]
  have cg : ∀ {f g : Nat → Option Value} (l : List Nat), (∀ m ∈ l, f m = g m) → l.filterMap f = l.filterMap g := by
    intro f g l
    induction l with
    | nil => intro _; rfl
    | cons a l ih =>
      intro h
      rw [List.filterMap_cons, List.filterMap_cons, h a List.mem_cons_self, ih fun m hm => h m (List.mem_cons_of_mem _ hm)]
  rw [cg _ e]
  apply List.ext_getElem?
  intro i
  have hl : xs.size = xs.toList.reverse.length := by rw [List.length_reverse, Array.length_toList]
  rw [hl]
  generalize xs.toList.reverse = ys
  have : (List.range ys.length).filterMap (fun m => ys[m]?) = ys := by
    clear hl e
    induction ys with
    | nil => rfl
    | cons y ys ih =>
      rw [List.length_cons, List.range_succ_eq_map, List.filterMap_cons]
      show y :: List.filterMap (fun m => (y :: ys)[m]?) (List.map Nat.succ (List.range ys.length)) = _
      rw [List.filterMap_map]
      show y :: List.filterMap (fun m => ys[m]?) (List.range ys.length) = _
      rw [ih]
  rw [this]
theorem getItem_tuple_rev {t sl : Addr} {items : Array Value} {vl vu vs : Value} {Q : Value → Shared → Prop} (ht : IsTup s.heap t items) (hs : s.heap.IsSliceOf sl vl vu vs) (pl : IsPart vl none) (pu : IsPart vu none) (ps : IsPart vs (some (-1)))
    (h : Q (.ref s.heap.objs.size) { s with heap := s.heap.push { cls := .type "tuple", data := .seq items.toList.reverse.toArray } })
    (hsz : items.size ≤ sizeLine) : wpAny (model prog w) A (getItem (.ref t) (.ref sl)) Q E s := by
  have htake : sizeOk (.seq items.toList.reverse.toArray) := by
    show items.toList.reverse.toArray.size ≤ sizeLine
    rw [List.size_toArray, List.length_reverse, Array.length_toList]
    exact hsz
  obtain ⟨os, hos, hcs, hds⟩ := id hs
  have hTs : s.TypeIs (.ref sl) "slice" := ⟨os, hos, hcs⟩
  unfold getItem
  try with_reducible refine wpAny_holding ?_
  first | refine wpAny_bind (wpAny_pure ?_) | skip
  refine wpAny_bind (wpAny_sequenceKey ht.typeIs (by decide) ?_)
  refine wpAny_bind (wpAny_callSpecial?_slot (name := Str.ofString "__getitem__") ht.typeIs PyProof.Rows.slot_tuple_getitem
    (wpAny_call_entry PyProof.Rows.slot_tuple_getitem ht.typeIs entry_tuple_getitem ?_ (args_tuple_getitem _ _)))
  show wpAny _ _ (Builtin.Tuple.tupleItemsOf (.ref t) >>= _) _ _ s
  refine wpAny_bind (tupleItemsOf_ ht ?_)
  refine wpAny_bind (wpAny_typeOf hTs ?_)
  rw [if_pos (by decide)]
  refine wpAny_bind (sliceApplied_rev hs pl pu ps ?_)
  have hno : ¬ ((((items.size : Int) - 1) == 0 && (-1 : Int) == 1 && items.size == items.size) = true) := by
    intro q
    rw [Bool.and_eq_true, Bool.and_eq_true] at q
    exact absurd q.1.2 (by decide)
  show wpAny _ _ (if ((((items.size : Int) - 1) == 0 && (-1 : Int) == 1 && items.size == items.size) = true) then _ else _) _ _ s
  rw [if_neg hno, pick_rev]
  first
    | exact wpAny_bind (m := Builtin.Tuple.tupleExact _) (wpAny_newObj_type (wpAny_pure ⟨_, rfl, wpAny_pure h⟩) htake)
    | exact wpAny_bind (m := Builtin.Tuple.tupleExact _) (wpAny_newObj_type (wpAny_bind (wpAny_pure (wpAny_pure ⟨_, rfl, wpAny_pure h⟩))) htake)
    | exact wpAny_bind (wpAny_bind (m := Builtin.Tuple.tupleExact _) (wpAny_newObj_type (wpAny_pure (wpAny_pure ⟨_, rfl, wpAny_pure h⟩)) htake))
    | exact wpAny_bind (wpAny_bind (m := Builtin.Tuple.tupleExact _) (wpAny_newObj_type (wpAny_pure ⟨_, rfl, wpAny_pure h⟩) htake))
end
def tRevT (K : PySem.W.Frag) (te : TE) : TE := fun σ H Q => te σ H fun x H1 => ∃ a xs, x = .ref a ∧ SqT K H1 a xs ∧ ∀ p, H1 p = none → Q (.ref p) (upd H1 p (.tup xs.reverse))
theorem pe_revT {X : Cx} {e : Expr} {te : TE} {k : Nat} {p1 p2 p3 pos : Pos} (he : PE X e te) : PE X (.Subscript e (.Slice none none (some (.UnaryOp .USub (.Constant (.int 1) k p1) p2)) p3) pos) (tRevT X.K te) := by
  refine ⟨fun pins s σ H Q I h => ?_⟩
  refine Subscript_ (thn (he.run pins s σ H _ I h) fun v s1 ⟨x, H1, I1, r1, q1⟩ => ?_)
  obtain ⟨a, xs, ex, hx, q⟩ := q1
  subst ex
  cases r1
  have hst : PO X (some (.UnaryOp .USub (.Constant (.int 1) k p1) p2)) (tPart (tUn (rU fun i => .int (-i)) (tC (.int 1)))) := po_some (pe_un un_neg pe_int)
  refine wpAny_Slice (thn (po_none.run pins s1 σ H1 (fun o H2 => o = none ∧ H2 = H1) I1 ⟨rfl, rfl⟩) fun vl s2 ⟨l, H2, I2, pl, el, e2⟩ => ?_)
  subst el e2
  refine thn (po_none.run pins s2 σ H2 (fun o H3 => o = none ∧ H3 = H2) I2 ⟨rfl, rfl⟩) fun vu s3 ⟨u, H3, I3, pu, eu, e3⟩ => ?_
  subst eu e3
  refine thn (hst.run pins s3 σ H3 (fun o H4 => o = some (-1) ∧ H4 = H3) I3 ⟨1, rfl, -1, rfl, rfl, rfl⟩) fun vs s4 ⟨o, H4, I4, ps, eo, e4⟩ => ?_
  subst eo e4
  have I5 : Inv X pins σ H4 { s4 with heap := s4.heap.push { cls := .type "slice", data := .fields #[vl, vu, vs] } } := I4.kept (t' := s4.toks) fun b ob q => Heap.get?_push_of_some _ q
  obtain ⟨its, r, ht, hz⟩ := I5.tuple hx
  have hlen := r.length
  show wpAny (model X.prog X.w) X.A (subscriptTail e (.Slice none none (some (.UnaryOp .USub (.Constant (.int 1) k p1) p2)) p3) (.ref a) (.ref s4.heap.objs.size)) (EP X pins σ Q) X.xe { s4 with heap := s4.heap.push { cls := .type "slice", data := .fields #[vl, vu, vs] } }
  refine tail_any (ops := [.ref a, .ref s4.heap.objs.size]) ht.typeIs (PyProof.Rows.slot_tuple_getitem.lookup) ?_ (by with_unfolding_all rfl)
  refine getItem_tuple_rev ht (Heap.IsSliceOf.new _ vl vu vs) pl pu ps ?_ (by rw [List.size_toArray]; omega)
  refine ⟨.ref _, _, I5.laid (t' := s4.toks) (o := .tup xs.reverse) (fun b ob q => Heap.get?_push_of_some _ q) (Nat.le_refl _) ?_, rfl, q _ (I5.hok.fresh (Nat.le_refl _))⟩
  exact ⟨by rw [List.length_reverse]; exact hz, _, r.reverse, IsTup.new _ _⟩
def wRevT (we : WE) : WE := fun ρ post => we ρ fun x => ∃ ds, x = .fr (.tuple ds) ∧ post (.fr (.tuple ds.reverse))
theorem RepAll.reverse {Z : Par} {F : Hp} {B : Addr → Prop} : ∀ {vs : List V} {ds : List D}, RepAll Z F B vs ds → RepAll Z F B vs.reverse ds.reverse
  | _, _, .nil => .nil
  | _, _, .cons h r => by
    rw [List.reverse_cons, List.reverse_cons]
    exact RepAll.append (RepAll.reverse r) (.cons h .nil)
theorem qe_revT {Z : Par} {X : Cx} {e : Expr} {we : WE} {k : Nat} {p1 p2 p3 pos : Pos} (hK : X.K = Z.K) (he : PE X e (LE Z we)) : PE X (.Subscript e (.Slice none none (some (.UnaryOp .USub (.Constant (.int 1) k p1) p2)) p3) pos) (LE Z (wRevT we)) := peW (pe_revT he) fun σ H Q h => by
  obtain ⟨F, B, P, ρ, post, a, w, k⟩ := h
  refine ⟨F, B, P, ρ, _, a, w, fun F1 B1 H1 v x e1 w1 r1 p1 => ?_⟩
  obtain ⟨ds, rfl, q⟩ := p1
  obtain ⟨b, vs, rfl, h1, h2⟩ := Rep.tup_inv r1
  rw [hK]
  refine ⟨b, vs, rfl, SqT.of (w1.ex _ _ h1), fun p hp => ?_⟩
  have fp : F1 p = none := Evl.fresh_back w1.ex hp
  exact KX.new (KX.later k e1) w1 hp (.tup upd_same (RepAll.mono (Evl.Ex.new fp) (fun _ h => h) h2.reverse)) q
end DL

/-! The data layer's rules: zip of a list and a tuple, a list many times. -/
namespace DL
open PySem PySem.Spec PyProof.Rows L2
def ItzM (K : PySem.W.Frag) (a b : Addr) : It :=
  ⟨fun i H => ∃ (xs ys : List V) (x y : V), SqL K H a xs ∧ SqT K H b ys ∧ xs[i]? = some x ∧ ys[i]? = some y,
    fun i H v H' => ∃ T x y, v = .ref T ∧ H T = none ∧ H' = upd H T (.tup [x, y]) ∧ (∀ xs, SqL K H a xs → xs[i]? = some x) ∧ ∀ ys, SqT K H b ys → ys[i]? = some y,
    fun i H => ∃ xs ys : List V, SqL K H a xs ∧ SqT K H b ys ∧ i ≤ xs.length ∧ i ≤ ys.length ∧ (i = xs.length ∨ i = ys.length)⟩
theorem turn_zipM {P : Program} {w : World} {K : PySem.W.Frag} {elts : List Expr} {kk : Nat} {tpos : Pos} {a b z TI TO i1 i2 : Addr} (D : ZipSep2 z TI TO i1 i2 [i1, a] [i2, b]) (ha1 : a ≠ i1) (hb2 : b ≠ i2) :
    Turn P w K (.Tuple elts kk tpos) (ItzM K a b) [z, TI, TO, i1, i2] z (fun i h => IsZip h z TI TO .none ∧ IsTupOf2 h TI (.ref i1) (.ref i2) ∧ (∃ x y, IsTupOf2 h TO x y) ∧ h.IsListIter i1 a i ∧ h.IsTupleIter i2 b i) where
  mem := by simp
  obj := fun i h st c hc => by
    obtain ⟨hz, hTI, ⟨x, y, hTO⟩, ⟨o1, e1, _, d1⟩, ⟨o2, e2, _, d2⟩⟩ := st
    have e' : c = z ∨ c = TI ∨ c = TO ∨ c = i1 ∨ c = i2 := by simpa using hc
    rcases e' with q | q | q | q | q
    · rw [q]; exact ⟨_, hz, fun v q => nomatch q⟩
    · rw [q]; exact ⟨_, hTI, fun v q => nomatch q⟩
    · rw [q]; exact ⟨_, hTO, fun v q => nomatch q⟩
    · rw [q]; exact ⟨o1, e1, fun v q => by rw [d1] at q; cases q⟩
    · rw [q]; exact ⟨o2, e2, fun v q => by rw [d2] at q; cases q⟩
  keep := fun i h h' st k => by
    obtain ⟨hz, hTI, ⟨x, y, hTO⟩, h1, h2⟩ := st
    exact ⟨k z (by simp) _ hz, k TI (by simp) _ hTI, ⟨x, y, k TO (by simp) _ hTO⟩, h1.at fun o q => k i1 (by simp) o q, h2.at fun o q => k i2 (by simp) o q⟩
  item := by
    intro X hP hw hK hc i pins s σ H E I hf st hg
    subst hP hw hK
    obtain ⟨hz, hTI, ⟨x0, y0, hTO⟩, h1, h2⟩ := st
    obtain ⟨xs, ys, x, y, hqx, hqy, hx, hy⟩ := hg
    obtain ⟨its, rv, p, _⟩ := I.list hqx
    obtain ⟨its2, rv2, p2, _⟩ := I.tuple hqy
    obtain ⟨u, hu, ru⟩ := rv.get hx
    obtain ⟨u2, hu2, ru2⟩ := rv2.get hy
    have p2 : s.heap.IsTuple b its2.toArray := p2
    have hzl : z < s.heap.objs.size := Heap.lt_size hz
    have hh : X.A.in1.handled = none := I.ok.hd hc
    have lt1 : i < its.toArray.size := by
      have := (List.getElem?_eq_some_iff.mp hu).1
      simpa using this
    have lt2 : i < its2.toArray.size := by
      have := (List.getElem?_eq_some_iff.mp hu2).1
      simpa using this
    refine wpAny_pyNext_zipD2_item D (Draws.list hh i1 a ha1 its.toArray) (Draws.tuple hh i2 b hb2 its2.toArray) hz hTI hTO ⟨h1, p.isList⟩ ⟨h2, p2⟩ lt1 lt2 fun x1 x2 h' tk e1 e2 z' TO' st1 st2 hT hsz hk => ?_
    have eu1 : x1 = u := by
      have q : its.toArray[i]? = some u := by simpa using hu
      rw [q] at e1
      exact (Option.some.inj e1).symm
    have eu2 : x2 = u2 := by
      have q : its2.toArray[i]? = some u2 := by simpa using hu2
      rw [q] at e2
      exact (Option.some.inj e2).symm
    subst eu1 eu2
    obtain ⟨h1', _⟩ := st1
    obtain ⟨h2', _⟩ := st2
    refine ⟨_, rfl, wpAny_letOwnedTupleGo_zip (s := { s with heap := h', toks := tk }) z' fun h'' z'' sb => ?_⟩
    have hT2 : h''.get? s.heap.objs.size = some { cls := .type "tuple", data := .seq #[x1, x2] } := (sb.2 _ (Nat.ne_of_gt hzl)).trans hT
    have new : ObjOk X.prog X.w (upd H s.heap.objs.size (.tup [x, y])) h'' s.heap.objs.size (.tup [x, y]) :=
      ⟨by show 2 ≤ sizeLine; decide, [x1, x2], .cons ru (.cons ru2 .nil), ⟨_, hT2, rfl, _, rfl⟩⟩
    have I1 : Inv X pins σ (upd H s.heap.objs.size (.tup [x, y])) { s with heap := h'', toks := tk } :=
      I.turnedNew (ch := [z, TI, TO, i1, i2]) (fun c o hb q => (sb.2 c (fun q' => hb (by simp [q']))).trans (hk c o (fun q' => hb (by simp [q'])) (fun q' => hb (by simp [q'])) (fun q' => hb (by simp [q'])) (fun q' => hb (by simp [q'])) q)) hf (Nat.le_refl _) new
    refine ⟨.ref s.heap.objs.size, _, I1, rfl, ⟨_, x, y, rfl, I.hok.fresh (Nat.le_refl _), rfl, fun l hl => by rw [I.list_inj hl hqx]; exact hx, fun l hl => by rw [I.tuple_inj hl hqy]; exact hy⟩, ⟨z'', ?_, ⟨x1, x2, ?_⟩, ?_, ?_⟩, fun c hcm => ?_⟩
    · exact (sb.2 _ D.TIz).trans (hk _ _ D.TIz D.TITO D.TIi1 D.TIi2 hTI)
    · exact (sb.2 _ D.TOz).trans TO'
    · exact h1'.at fun o q => (sb.2 _ (fun e => D.zf1 (by rw [← e]; exact D.mem1))).trans q
    · exact h2'.at fun o q => (sb.2 _ (fun e => D.zf2 (by rw [← e]; exact D.mem2))).trans q
    · have hlt : c < s.heap.objs.size := by
        have e' : c = z ∨ c = TI ∨ c = TO ∨ c = i1 ∨ c = i2 := by simpa using hcm
        rcases e' with q | q | q | q | q
        · rw [q]; exact hzl
        · rw [q]; exact Heap.lt_size hTI
        · rw [q]; exact Heap.lt_size hTO
        · rw [q]; obtain ⟨_, e1, _⟩ := h1; exact Heap.lt_size e1
        · rw [q]; obtain ⟨_, e2, _⟩ := h2; exact Heap.lt_size e2
      rw [upd_ne (Nat.ne_of_lt hlt)]
      exact (hf c hcm).1
  done := by
    intro X hP hw hK hc i pins s σ H E I hf st hg
    subst hP hw hK
    obtain ⟨hz, hTI, ⟨x0, y0, hTO⟩, h1, h2⟩ := st
    obtain ⟨xs, ys, hqx, hqy, g1, g2, hend⟩ := hg
    obtain ⟨its, rv, p, _⟩ := I.list hqx
    obtain ⟨its2, rv2, p2, _⟩ := I.tuple hqy
    have p2 : s.heap.IsTuple b its2.toArray := p2
    have l1 := rv.length
    have l2 := rv2.length
    have hh : X.A.in1.handled = none := I.ok.hd hc
    exact wpAny_pyNext_zipD2_end D (Draws.list hh i1 a ha1 its.toArray) (Draws.tuple hh i2 b hb2 its2.toArray) hz hTI hTO ⟨h1, p.isList⟩ ⟨h2, p2⟩ (by simp; omega) (by simp; omega) (by simp; omega) fun h' tk hk => ⟨rfl, I.turnedL (t' := tk) (ch := [z, TI, TO, i1, i2]) (fun c o hb q =>
      hk c o (fun q' => hb (by simp [q'])) (fun q' => hb (by simp [q'])) (fun q' => hb (by simp [q'])) (fun q' => hb (by simp [q'])) q) hf⟩
  self := fun A i s Q E st h => wpAny_pyIter_zip st.1 h
def iZipM (K : PySem.W.Frag) (ta : TA) : TI := fun σ H R => ta σ H fun vs H1 => ∃ a b xs ys, vs = [.ref a, .ref b] ∧ SqL K H1 a xs ∧ SqT K H1 b ys ∧ R (ItzM K a b) H1
theorem pi_zipM {X : Cx} {e e2 : Expr} {ta : TA} {p pos tpos : Pos} {elts : List Expr} {kk : Nat} (hg : Gl X "zip") (hm : X.mg "zip" = none) (ha : PA X [e, e2] ta)
    (hs : starEach [e, e2] X.env = (false, eval e X.env) :: starEach [e2] X.env := by rfl) (hpl : (backTo pos (starEach [e2] X.env)).any (·.1) = false := by rfl) :
    PI X (.Tuple elts kk tpos) (.Call (.Name "zip" p) [e, e2] [] pos) (iZipM X.K ta) := by
  refine ⟨fun pins s σ H R I h => ?_⟩
  refine Call_ (ld_blt I hg hm PyProof.Rows.boot_zip (PyProof.Rows.callWith_type1 (thn (ha.run pos pins s σ H _ I h) fun us s1 ⟨vs, H1, I1, r1, q1⟩ => ?_) hs hpl))
  obtain ⟨a, b, xs, ys, ex, hqx, hqy, q⟩ := q1
  subst ex
  cases r1 with
  | cons r rr =>
    cases rr with
    | cons r' rr =>
      cases rr
      cases r
      cases r'
      have fresh5 : ∀ c, c ∈ [s1.heap.objs.size + 4, s1.heap.objs.size + 2, s1.heap.objs.size + 3, s1.heap.objs.size, s1.heap.objs.size + 1] → FpOk X pins H1 c := fun c hcm => by
        have e' : c = s1.heap.objs.size + 4 ∨ c = s1.heap.objs.size + 2 ∨ c = s1.heap.objs.size + 3 ∨ c = s1.heap.objs.size ∨ c = s1.heap.objs.size + 1 := by simpa using hcm
        have hle : s1.heap.objs.size ≤ c := by
          rcases e' with z | z | z | z | z
          · rw [z]; exact Nat.le_add_right _ _
          · rw [z]; exact Nat.le_add_right _ _
          · rw [z]; exact Nat.le_add_right _ _
          · rw [z]; exact Nat.le_refl _
          · rw [z]; exact Nat.le_add_right _ _
        exact I1.fpOk hle (I1.hok.fresh hle)
      obtain ⟨its, rv, p1, _⟩ := I1.list hqx
      obtain ⟨its2, rv2, p2, _⟩ := I1.tuple hqy
      have p2 : s1.heap.IsTuple b its2.toArray := p2
      have al : a < s1.heap.objs.size := p1.lt
      have bl : b < s1.heap.objs.size := by obtain ⟨_, q, _⟩ := p2; exact Heap.lt_size q
      refine zip_begins2 (begins_list a its.toArray) (begins_tuple b its2.toArray) p1.isList p2 fun h' hz hTI hTO h1 h2 hsz hk => wpAny_pyIter_zip hz ?_
      have I2 : Inv X pins σ H1 { s1 with heap := h' } := I1.kept (t' := s1.toks) hk
      exact ⟨s1.heap.objs.size + 4, [s1.heap.objs.size + 4, s1.heap.objs.size + 2, s1.heap.objs.size + 3, s1.heap.objs.size, s1.heap.objs.size + 1], _, _, H1, rfl, I2, turn_zipM (zip_sep2 (fp1 := [a]) (fp2 := [b]) (by simpa using al) (by simpa using bl)) (Nat.ne_of_lt al) (Nat.ne_of_lt (Nat.lt_succ_of_lt bl)), ⟨hz, hTI, ⟨_, _, hTO⟩, ⟨_, h1, rfl, rfl⟩, ⟨_, h2, rfl, rfl⟩⟩, fresh5, q⟩
theorem walkD_zipM {Z : Par} {F : Hp} {B : Addr → Prop} {a b : Addr} {vs us : List V} {ds es : List D} (h : SqL Z.K F a vs) (r : RepAll Z F B vs ds) (h2 : SqT Z.K F b us) (r2 : RepAll Z F B us es) : WalkD Z F B (ItzM Z.K a b) ((ds.zip es).map fun q => .tuple [q.1, q.2]) := by
  have hl := r.length
  have hl2 := r2.length
  have hz : ((ds.zip es).map fun q => PyData.tuple [q.1, q.2]).length = min ds.length es.length := by rw [List.length_map, List.length_zip]
  refine ⟨fun i F1 B1 H1 e bb wf hi => ?_, fun F1 B1 H1 e bb wf => ?_, fun i F1 B1 H1 x H2 e bb wf hi y => ?_⟩
  · rw [hz] at hi
    have i1 : i < vs.length := by omega
    have i2 : i < us.length := by omega
    exact ⟨vs, us, vs[i], us[i], Evl.ex_l (e.trans wf.ex) h, Evl.ex_t (e.trans wf.ex) h2, List.getElem?_eq_getElem i1, List.getElem?_eq_getElem i2⟩
  · rw [hz]
    exact ⟨vs, us, Evl.ex_l (e.trans wf.ex) h, Evl.ex_t (e.trans wf.ex) h2, by omega, by omega, by omega⟩
  · obtain ⟨T, x1, x2, rfl, hT, rfl, f1, f2⟩ := y
    have g1 := f1 vs (Evl.ex_l (e.trans wf.ex) h)
    have g2 := f2 us (Evl.ex_t (e.trans wf.ex) h2)
    obtain ⟨d1, q1, q2⟩ := r.getV g1
    obtain ⟨d2, q3, q4⟩ := r2.getV g2
    have fT : F1 T = none := Evl.fresh_back wf.ex hT
    refine ⟨upd F1 T (.tup [x1, x2]), .tuple [d1, d2], ?_, Le.new wf hT, wf.new hT, .tup upd_same (.cons ((q2.mono e bb).mono (Evl.Ex.new fT) fun _ h => h) (.cons ((q4.mono e bb).mono (Evl.Ex.new fT) fun _ h => h) .nil))⟩
    have hz2 : (ds.zip es)[i]? = some (d1, d2) := List.getElem?_zip_eq_some.mpr ⟨q1, q3⟩
    rw [List.getElem?_map, hz2]
    rfl
def wiZipM (wl : WA) : WI := fun ρ post => wl ρ fun xs => ∃ ds es, xs = [.fr (.list ds), .fr (.tuple es)] ∧ post ((ds.zip es).map fun q => .tuple [q.1, q.2])
def wRep : DL.X → DL.X → (List D → Prop) → Prop := fun x y post => ∃ (ds : List D) (k : Int), ItL x ds ∧ y = .fr (.int k) ∧ (0 ≤ k ∧ k ≤ 1000 ∧ ds.length ≤ 100) ∧ post (List.replicate k.toNat ds).flatten
theorem RepAll.flat {Z : Par} {F : Hp} {B : Addr → Prop} {vs : List V} {ds : List D} (r : RepAll Z F B vs ds) : ∀ n : Nat, RepAll Z F B (List.replicate n vs).flatten (List.replicate n ds).flatten
  | 0 => .nil
  | n + 1 => by
    rw [List.replicate_succ, List.replicate_succ, List.flatten_cons, List.flatten_cons]
    exact r.append (RepAll.flat r n)
section
variable {Z : Par} {X : Cx} {a b e e2 : Expr} {wa wb : WE} {wl : WA} {p pos tpos : Pos} {elts : List Expr} {kk : Nat}
theorem qi_zipM (hK : X.K = Z.K) (hm : X.mg "zip" = none) (ha : PA X [e, e2] (LA Z wl)) (hg : Gl X "zip" := by rfl) (hs : starEach [e, e2] X.env = (false, eval e X.env) :: starEach [e2] X.env := by rfl) (hpl : (backTo pos (starEach [e2] X.env)).any (·.1) = false := by rfl) :
    PI X (.Tuple elts kk tpos) (.Call (.Name "zip" p) [e, e2] [] pos) (LI Z (wiZipM wl)) := piW (pi_zipM hg hm ha hs hpl) fun σ H R h => by
  obtain ⟨F, B, P, ρ, post, a, w, k⟩ := h
  refine ⟨F, B, P, ρ, _, a, w, fun F1 B1 H1 vs xs e1 w1 r1 p1 => ?_⟩
  obtain ⟨ds, es, rfl, q⟩ := p1
  obtain ⟨v, u, rfl, rx, ry⟩ := r1.two
  obtain ⟨b, ws, rfl, h1, h2⟩ := Rep.lst_inv rx
  obtain ⟨c, us, rfl, h3, h4⟩ := Rep.tup_inv ry
  rw [hK]
  exact ⟨b, c, ws, us, rfl, SqL.of (w1.ex _ _ h1), SqT.of (w1.ex _ _ h3), k _ _ _ _ _ e1 w1 (walkD_zipM (SqL.of h1) h2 (SqT.of h3) h4) q⟩
theorem qn_rep (ha : PE X a (LE Z wa)) (hb : PE X b (LE Z wb)) : PE X (.BinOp a .Mult b pos) (LN Z (wOpN wRep wa wb)) := peW (pe_op op_rep ha hb) fun _ _ _ h => s_opN (fun F B H P v u x y post Q w rx ry wr k => by
  obtain ⟨ds, n, i, rfl, ⟨h1, h2, h3⟩, q⟩ := wr
  obtain ⟨p, vs, rfl, g1, r1⟩ := i.at w rx
  rw [Rep.int_inv ry]
  refine ⟨p, n, vs, rfl, rfl, g1, by omega, by omega, ?_, fun l hl => KN.new k w hl (r1.flat _) q⟩
  rw [r1.length]
  refine sz (Nat.le_trans (Nat.mul_le_mul h3 (show n.toNat ≤ 1000 by omega)) (by decide))) h
end
end DL

/-! The data layer's rules: sorted tuples of ints. -/
namespace DL
open PySem PySem.Spec PyProof.Rows L2
section
variable {prog : Program} {w : World} {A : Around} {E : Value → Shared → Prop} {s : Shared}
/-- a tuple of these ints -/
def IsTupI (h : Heap) (v : Value) (ns : List Int) : Prop := ∃ (a : Addr) (o : Obj) (xs : Array Value) (n : Nat), v = .ref a ∧ h.get? a = some o ∧ o.cls = .type "tuple" ∧ o.data = .seq xs n ∧ IntsAre xs.toList ns
theorem IsTupI.keeps {h h' : Heap} {v : Value} {ns : List Int} (x : IsTupI h v ns) (k : ∀ b o, h.get? b = some o → o.cls = .type "tuple" → h'.get? b = some o) : IsTupI h' v ns := by
  obtain ⟨a, o, xs, n, rfl, ho, hc, hd, hi⟩ := x
  exact ⟨a, o, xs, n, rfl, k a o ho hc, hc, hd, hi⟩
theorem kat_ints {b : Bool} {R : Bool → Prop} {xs : List Value} {ns : List Int} (hx : IntsAre xs ns) : ∀ {ys : List Value} {ms : List Int} {fin : Bool} (i : Nat), IntsAre ys ms → fin = decide (ns.length < ms.length) → R (HT.lexLt ns ms) → PySem.W.KatLex prog w A b fin (fun r s' => s' = s ∧ R r) (xs.zip ys) i s := by
  induction hx with
  | nil =>
    intro ys ms fin i hy hf h
    rw [List.zip_nil_left]
    refine PySem.W.kat_nil ⟨rfl, ?_⟩
    cases hy with
    | nil => rw [hf]; rw [HT.lexLt_nil_nil] at h; exact h
    | cons y u hy => rw [hf]; rw [HT.lexLt_nil_cons] at h; rw [show decide (([] : List Int).length < _) = true from decide_eq_true (by simp)]; exact h
  | cons n t hx ih =>
    intro ys ms fin i hy hf h
    cases hy with
    | nil =>
      rw [List.zip_nil_right]
      refine PySem.W.kat_nil ⟨rfl, ?_⟩
      rw [hf]
      rw [HT.lexLt_cons_nil] at h
      rw [decide_eq_false (by simp)]
      exact h
    | cons m u hy =>
      rw [List.zip_cons_cons]
      refine PySem.W.kat_cons (SeqAt.EqAt.int_int n t m u prog w _ _ ?_)
      refine PySem.W.kat_go (fun e1 => ?_) (fun e1 => ?_)
      · have ex : n = m := by simpa using e1
        rw [HT.lexLt_cons, if_pos ex] at h
        exact PySem.W.kat_yes (ih (i + 1) hy (by rw [hf]; simp) h)
      · have ex : ¬ n = m := by simpa using e1
        rw [HT.lexLt_cons, if_neg ex] at h
        refine PySem.W.kat_no ?_
        cases (b && i == 0) with
        | true => exact oneLt_int ⟨rfl, h⟩
        | false => exact PySem.W.kat_one _ _ (PyProof.Rows.lt_int ⟨rfl, h⟩)
theorem tup_cmp {vs : List Value} {k : Value → List Int} (hp : ∀ v ∈ vs, IsTupI s.heap v (k v)) : SrtO.Cmp prog w A s (tuples' true) (fun p => p.1 ∈ vs) (SrtO.lt2 fun v u => HT.lexLt (k v) (k u)) := by
  intro p q hm hm'
  have h1 := hp _ hm
  have h2 := hp _ hm'
  show wpAny (model prog w) A (keyLt' (tuples' true) p.1 q.1) (fun r s' => s' = s ∧ r = HT.lexLt (k p.1) (k q.1)) (fun _ _ => False) s
  generalize k p.1 = ns at h1 ⊢
  generalize k q.1 = ms at h2 ⊢
  obtain ⟨a, o, xs, n, e, ho, hc, hd, hi⟩ := h1
  obtain ⟨a', o', ys, n', e', ho', hc', hd', hi'⟩ := h2
  rw [e, e']
  refine PySem.W.kat_lt ho hd ho' hd' (kat_ints (R := fun r => r = HT.lexLt ns ms) hi 0 hi' ?_ rfl)
  have z1 := hi.length
  have z2 := hi'.length
  rw [Array.length_toList] at z1 z2
  rw [z1, z2]
theorem firsts_tup {h : Heap} {k : Value → List Int} : ∀ {vs : List Value}, (∀ v ∈ vs, IsTupI h v (k v) ∧ k v ≠ []) → ∃ fs : List Value, PySem.W.KatTups h vs fs ∧ fs.length = vs.length ∧ ∀ f ∈ fs, ∃ i t, f = Value.int i t
  | [], _ => ⟨[], .nil, rfl, fun _ m => nomatch m⟩
  | v :: vs, hv => by
    obtain ⟨fs, h1, h2, h3⟩ := firsts_tup (vs := vs) fun u m => hv u (List.mem_cons_of_mem _ m)
    obtain ⟨hi, hn⟩ := hv v List.mem_cons_self
    generalize k v = ns at hi hn
    obtain ⟨a, o, xs, n, rfl, ho, hc, hd, hi⟩ := hi
    cases e : xs.toList with
    | nil =>
      rw [e] at hi
      cases hi
      exact absurd rfl hn
    | cons x l =>
      rw [e] at hi
      cases hi with
      | cons i t hi =>
        have hf : xs[0]? = some (Value.int i t) := by
          rw [← Array.getElem?_toList, e]
          rfl
        exact ⟨_ :: fs, .cons ho hc hd hf h1, by simp [h2], fun f m => by
          rcases List.mem_cons.mp m with rfl | m
          · exact ⟨_, _, rfl⟩
          · exact h3 f m⟩
theorem tups_sortable {a : Addr} {vs : List Value} {k : Value → List Int} (h0 : 0 < vs.length) (hp : ∀ v ∈ vs, IsTupI s.heap v (k v) ∧ k v ≠ []) (ha : ∀ o, s.heap.get? a = some o → o.cls ≠ .type "tuple") : SrtO.SortableO prog w A s a vs fun v u => HT.lexLt (k v) (k u) := by
  intro h' keep
  have hp' : ∀ v ∈ vs, IsTupI h' v (k v) := fun v hm => (hp v hm).1.keeps fun b o e c => keep b o (fun z => by subst z; exact ha o e c) e
  obtain ⟨fs, h1, h2, h3⟩ := firsts_tup (k := k) fun v hm => ⟨hp' v hm, (hp v hm).2⟩
  refine ⟨tuples' true, fun Q E hq => ?_, tup_cmp hp'⟩
  refine PySem.W.kat_kind (T := .type "int") h1 (by omega) (fun f hm => ?_) (by rfl) ?_
  · obtain ⟨x, t, rfl⟩ := h3 f hm
    exact PySem.W.Looks.now
  · have e : (Value.type "int" != Value.type "tuple") = true := by first | decide +kernel | rfl | decide
    rw [e]
    exact hq
theorem sorted_tups {l : Addr} {vs : List Value} {k : Value → List Int} {Q : Value → Shared → Prop} (hl : s.heap.IsList l vs.toArray) (hz : vs.length ≤ sizeLine) (hp : ∀ v ∈ vs, IsTupI s.heap v (k v) ∧ k v ≠ [])
    (h : ∀ (h' : Heap) (d : Addr) (out : List Value), SrtO.Srtd (fun v u => HT.lexLt (k v) (k u)) out → SrtO.Stb (fun v u => HT.lexLt (k v) (k u)) out vs → (∀ b o, s.heap.get? b = some o → h'.get? b = some o) → s.heap.objs.size ≤ d → (∃ n, h'.get? d = some (seqObj "list" out.toArray n)) → Q (.ref d) { s with heap := h' }) :
    wpAny (model prog w) A (call (.builtin "sorted") [.ref l]) Q E s := by
  refine SrtO.sorted_ord (NtL.swo_lexL k) hl hz (fun h2 h₁ a ha kk => ?_) fun out hs hb => ?_
  · refine tups_sortable (s := { s with heap := h₁ }) (by omega) (fun v hm => ⟨(hp v hm).1.keeps fun b o e _ => (kk b o e).2, (hp v hm).2⟩) fun o e => ?_
    have e' : some o = some (seqObj "list" vs.toArray 0) := e.symm.trans ha
    cases e'
    intro c
    exact absurd (Value.type.inj c) (by decide)
  · exact h _ _ out hs hb (fun b o e => PyProof.Rows.sortedAll_old e) (Nat.le_succ _) (PyProof.Rows.sortedAll_at s.heap vs out.toArray)
end
abbrev ltL (k : V → List Int) (x y : V) : Bool := HT.lexLt (k x) (k y)
def rSortedT (K : PySem.W.Frag) : List V → Hp → VK → Prop := fun vs H Q => ∃ (a : Addr) (xs : List V) (k : V → List Int), vs = [V.ref a] ∧ SqL K H a xs ∧ (∀ x ∈ xs, ∃ t, x = V.ref t ∧ H t = some (.tup ((k x).map V.int)) ∧ k x ≠ []) ∧
  ∀ ys p, SrtO.Srtd (ltL k) ys → ys.Perm xs → H p = none → Q (.ref p) (upd H p (.lst ys))
theorem cr_sortedT {X : Cx} : CallR X (.builtin "sorted") (rSortedT X.K) := by
  intro pins s σ H vs us Q I r h
  obtain ⟨a, xs, k, rfl, hs, hx, q⟩ := h
  obtain ⟨its, rv, hl, hz⟩ := I.list hs
  obtain ⟨u, rfl, ru⟩ : ∃ u, us = [u] ∧ RelV (.ref a) u := by
    cases r with
    | cons r rr => cases rr; exact ⟨_, rfl, r⟩
  obtain rfl : u = Value.ref a := ru
  obtain ⟨e1, e2⟩ := refs_back rv fun x m => by
    obtain ⟨t, e, _⟩ := hx x m
    exact ⟨t, e⟩
  refine sorted_tups (k := fun u => k (backV u)) hl.isList (by rw [← rv.length]; exact hz) (fun v hv => ?_) fun h' d out h1 h2 kp hd hn => ?_
  · obtain ⟨t, rfl⟩ := e2 v hv
    have hm : V.ref t ∈ xs := by rw [e1]; exact List.mem_map.mpr ⟨_, hv, rfl⟩
    obtain ⟨t', e, ht, hne⟩ := hx _ hm
    cases e
    obtain ⟨_, its2, r2, o, ho, hc, n, hd⟩ := I.hok _ _ ht
    exact ⟨⟨t, o, its2.toArray, n, rfl, ho, hc, hd, intsAre_of r2⟩, hne⟩
  · have h3 : ∀ u ∈ out, ∃ a, u = Value.ref a := fun u hu => e2 u (h2.perm.mem_iff.mp hu)
    obtain ⟨n, hn⟩ := hn
    have hb : (out.map backV).Perm xs := by
      rw [e1]
      exact h2.perm.map backV
    refine ⟨.ref d, upd H d (.lst (out.map backV)), I.laid (t' := s.toks) kp hd ⟨?_, out, n, vals_back h3, hn⟩, rfl, q _ d (SrtO.srtd_map h1) hb (I.hok.fresh hd)⟩
    rw [hb.length_eq]
    exact hz
def intsOfD : D → List Int
  | .tuple ds => ds.map fun d => match d with | .int i => i | _ => 0
  | _ => []
theorem intsOf_tI (ns : List Int) : intsOfD (.tuple (ns.map PyData.int)) = ns := by
  show (ns.map PyData.int).map _ = ns
  rw [List.map_map]
  exact List.map_id' ns
def wSortedT : List X → (List D → Prop) → Prop := fun xs post => ∃ (x : X) (nss : List (List Int)), xs = [x] ∧ ItL x (nss.map fun ns => .tuple (ns.map PyData.int)) ∧ (∀ ns ∈ nss, ns ≠ []) ∧
  ∀ mss : List (List Int), mss.Perm nss → mss.Pairwise (fun a b => HT.lexLt b a = false) → post (mss.map fun ns => .tuple (ns.map PyData.int))
/-- the ints at a value -/
def intsAt (H : Hp) : V → List Int
  | .ref t => match H t with
    | some (.tup us) => us.map fun u => match u with | .int i => i | _ => 0
    | _ => []
  | _ => []
theorem intsAt_eq {H : Hp} {t : Addr} {ns : List Int} (h : H t = some (.tup (ns.map V.int))) : intsAt H (.ref t) = ns := by
  show (match H t with | some (.tup us) => us.map _ | _ => []) = ns
  rw [h]
  show (ns.map V.int).map _ = ns
  rw [List.map_map]
  exact List.map_id' ns
theorem tups_at {Z : Par} {F H : Hp} {B : Addr → Prop} (e : Ex F H) : ∀ {vs : List V} {nss : List (List Int)}, RepAll Z F B vs (nss.map fun ns => .tuple (ns.map PyData.int)) → vs.map (intsAt H) = nss ∧ (∀ v ∈ vs, ∃ t, v = V.ref t ∧ H t = some (.tup ((intsAt H v).map V.int)) ∧ F t = some (.tup ((intsAt H v).map V.int)))
  | [], [], _ => ⟨rfl, fun _ m => nomatch m⟩
  | v :: vs, ns :: nss, .cons h r => by
    obtain ⟨t, us, rfl, h1, h2⟩ := Rep.tup_inv h
    have := h2.ints
    subst this
    have e1 := intsAt_eq (e _ _ h1)
    obtain ⟨g1, g2⟩ := tups_at e r
    refine ⟨by rw [List.map_cons, e1, g1], fun u m => ?_⟩
    rcases List.mem_cons.mp m with rfl | m
    · exact ⟨t, rfl, by rw [e1]; exact e _ _ h1, by rw [e1]; exact h1⟩
    · exact g2 u m
theorem reps_of {Z : Par} {F H : Hp} {B : Addr → Prop} : ∀ {vs : List V}, (∀ v ∈ vs, ∃ t, v = V.ref t ∧ F t = some (.tup ((intsAt H v).map V.int))) → RepAll Z F B vs ((vs.map (intsAt H)).map fun ns => .tuple (ns.map PyData.int))
  | [], _ => .nil
  | v :: vs, h => by
    obtain ⟨t, e, ht⟩ := h v List.mem_cons_self
    refine .cons ?_ (reps_of fun u m => h u (List.mem_cons_of_mem _ m))
    generalize hk : intsAt H v = ns at ht
    subst e
    exact .tup ht (RepAll.of_ints ns)
section
variable {Z : Par} {X : Cx} {a : Expr} {wl : WA} {p pos : Pos}
theorem qn_sortedT (hK : X.K = Z.K) (hm : X.mg "sorted" = none) (ha : PA X [a] (LA Z wl)) (hg : Gl X "sorted" := by rfl) (he : starEach [a] X.env = (false, eval a X.env) :: starEach [] X.env := by rfl) : PE X (.Call (.Name "sorted" p) [a] [] pos) (LN Z (wCallN wSortedT wl)) :=
  qn_callB cr_sortedT (fun F B H P vs xs post Q w rx wr k => by
    obtain ⟨x, nss, rfl, i, hne, q⟩ := wr
    obtain ⟨v, rfl, r⟩ := rx.one
    obtain ⟨p, us, rfl, h1, h2⟩ := i.at w r
    obtain ⟨g1, g2⟩ := tups_at w.ex h2
    rw [hK]
    refine ⟨p, us, intsAt H, rfl, SqL.of h1, fun u m => ?_, fun ys l hs hp hl => ?_⟩
    · obtain ⟨t, e, ht, _⟩ := g2 u m
      refine ⟨t, e, ht, hne _ ?_⟩
      rw [← g1]
      exact List.mem_map.mpr ⟨u, m, rfl⟩
    · have hr : RepAll Z F B ys ((ys.map (intsAt H)).map fun ns => .tuple (ns.map PyData.int)) := reps_of fun u m => by
        obtain ⟨t, e, _, ht⟩ := g2 u (hp.mem_iff.mp m)
        exact ⟨t, e, ht⟩
      refine KN.new k w hl hr (q _ ?_ ?_)
      · rw [← g1]
        exact hp.map _
      · exact List.pairwise_map.mpr hs) hm ha hg (he := he)
end
end DL

/-! The data layer's rules: a tuple many times, a call without arguments. -/
namespace DL
open PySem PySem.Spec PyProof.Rows L2
open PySem.AutoSeq1 (wpAny_loadPart')
theorem tuple_mul1 (l : Addr) (items : Array Value) (n : Nat) (dd : Option Addr) (sl : Array (Option Value)) (u : Tok) :
    Meets (Builtin.«tuple.__mul__» ⟨[.ref l, .int 1 u], []⟩) (fun _ R s => s.heap.get? l = some { cls := .type "tuple", dict := dd, data := .seq items n, slots := sl } ∧ R (.ok (.ret (Value.ref l))) s) :=
  .of_wp fun prog w A R s h => by
    obtain ⟨hp, g, d, tk, os⟩ := s
    obtain ⟨hl, h⟩ := h
    have f1 := AutoSeq1.idx_int
    have c1 : (items.isEmpty || (1 : Int) == 1) = true := by
      rw [show ((1 : Int) == 1) = true from rfl, Bool.or_true]
    have hT : (⟨hp, g, d, tk, os⟩ : Shared).TypeIs (.ref l) "tuple" := ⟨_, hl, rfl⟩
    wp_walk using wpAny_loadPart' hl
    repeat (first
      | (refine wpAny_ite_false (by decide) ?_; wp_walk using wpAny_loadPart' hl)
      | (refine wpAny_ite_true (decide_eq_true (by rw [c1])) ?_; wp_walk using wpAny_loadPart' hl))
    exact ⟨_, rfl, h⟩
def rRepT1 (K : PySem.W.Frag) : R2 := fun x y H Q => ∃ l k xs, x = .ref l ∧ y = .int k ∧ SqT K H l xs ∧ xs ≠ [] ∧ 1 ≤ k ∧ k ≤ 1000 ∧ xs.length ≤ 1000 ∧ (k = 1 → Q (.ref l) H) ∧ (2 ≤ k → ∀ p, H p = none → Q (.ref p) (upd H p (.tup (List.replicate k.toNat xs).flatten)))
theorem op_repT1 {X : Cx} : OpR X (binaryOp .Mult) (rRepT1 X.K) := by
  intro pins s σ H x y v u Q I rx ry h
  obtain ⟨l, k, xs, rfl, rfl, hT, hne, h1, h2, hz, q1, q2⟩ := h
  by_cases hk : k = 1
  · subst hk
    cases rx
    obtain ⟨t, rfl⟩ := ry
    obtain ⟨its, r, ⟨⟨cls, dd, data, sl⟩, ho, hc, n, hd⟩, hs⟩ := I.tuple hT
    simp only at hc hd
    subst hc hd
    exact wpAny_binaryOp_repeat_ref (T := "tuple") (U := "int") (by decide) ⟨_, ho, rfl⟩ (fun s' => typeIs_int s' 1 t) noFill_tuple_mul F.fills_int_mul F.slot_int_rmul repeat_tuple F.slot_int_index.lookup
      (call_meets F.slot_int_rmul (typeIs_int s 1 t) F.entry_int_rmul (F.args_int_rmul_2 _ _) (int_rmul_tuple 1 t l its.toArray n dd sl)
        ⟨ho, rfl, ⟨_, ho, rfl⟩, call_meets F.slot_tuple_mul ⟨_, ho, rfl⟩ F.entry_tuple_mul (F.args_tuple_mul_2 _ _) (tuple_mul1 l its.toArray n dd sl t) ⟨ho, ⟨.ref l, H, I, rfl, q1 rfl⟩⟩⟩)
  · exact op_repT pins s σ H _ _ v u Q I rx ry ⟨l, k, xs, rfl, rfl, hT, hne, by omega, h2, hz, q2 (by omega)⟩
def wMulT : DL.X → DL.X → (DL.X → Prop) → Prop := fun x y post => ∃ (ds : List D) (k : Int), x = .fr (.tuple ds) ∧ y = .fr (.int k) ∧ ds ≠ [] ∧ (1 ≤ k ∧ k ≤ 1000 ∧ ds.length ≤ 1000) ∧ post (.fr (.tuple (List.replicate k.toNat ds).flatten))
section
variable {Z : Par} {X : Cx} {a b : Expr} {wa wb : WE} {p pos : Pos}
theorem qe_mulT (hK : X.K = Z.K) (ha : PE X a (LE Z wa)) (hb : PE X b (LE Z wb)) : PE X (.BinOp a .Mult b pos) (LE Z (wOp wMulT wa wb)) := qe_op op_repT1 (fun F B H P v u x y post Q w rx ry wr k => by
  obtain ⟨ds, n, rfl, rfl, hne, ⟨h1, h2, h3⟩, q⟩ := wr
  obtain ⟨p, vs, rfl, g1, r1⟩ := Rep.tup_inv rx
  rw [Rep.int_inv ry, hK]
  have hl := r1.length
  refine ⟨p, n, vs, rfl, rfl, SqT.of (w.ex _ _ g1), fun e => hne ?_, h1, h2, by omega, fun e => ?_, fun _ l hl => ?_⟩
  · rw [e] at hl
    exact List.eq_nil_of_length_eq_zero hl.symm
  · subst e
    have e : (List.replicate (1 : Int).toNat ds).flatten = ds := by
      show (List.replicate 1 ds).flatten = ds
      simp
    rw [e] at q
    exact KX.here k w (x := .fr _) rx q
  · have fl : F l = none := Evl.fresh_back w.ex hl
    exact KX.new k w hl (.tup upd_same (RepAll.mono (Evl.Ex.new fl) (fun _ h => h) (r1.flat _))) q) ha hb
theorem qe_call0 {k j : Nat} {x : Str} {ps : List Str} {wf : WFn} (c : Cal Z X.prog X.w X.mg X.base k x ps wf) (hK : X.K = Z.K) (hr : Room j X.A) (hjk : k ≤ j) (hg : Gl X x := by rfl) (hdb : (x == ("__debug__" : Str)) = false := by decide) : PE X (.Call (.Name x p) [] [] pos) (LE Z (wFcall wf wNil)) := by
  obtain ⟨f, fd, G, hm, hk, bi⟩ := c
  rw [← hK] at G hk bi
  exact peW (pe_call0 G (hr.mono hjk) hg hm hk bi .nil pass0 hdb) fun σ H Q h => by
    have h := s_fcall (E := E0) h
    obtain ⟨F, B, P, ρ, post, a, w, k⟩ := h
    exact k F B H [] [] Le.refl a.wf .nil w
end
end DL

/-! Words for the plain part: how a transformer is run on data. -/
namespace DL
open PySem PySem.Spec PyProof.Rows L2
theorem X.fr_inj {a b : D} : (X.fr a = X.fr b) = (a = b) := by
  apply propext
  exact ⟨fun h => by injection h, fun h => by rw [h]⟩
theorem its_tup {a b : List D} : Its (.fr (.tuple a)) b = (a = b) := by
  apply propext
  constructor
  · intro h
    generalize e : X.fr (PyData.tuple a) = x at h
    cases h with
    | tup => injection e with e; injection e
    | lst => injection e with e; cases e
    | ow => cases e
    | scr => injection e with e; cases e
  · rintro rfl
    exact .tup _
theorem its_lst {a b : List D} : Its (.fr (.list a)) b = (a = b) := by
  apply propext
  constructor
  · intro h
    generalize e : X.fr (PyData.list a) = x at h
    cases h with
    | tup => injection e with e; cases e
    | lst => injection e with e; injection e
    | ow => cases e
    | scr => injection e with e; cases e
  · rintro rfl
    exact .lst _
theorem its_ow {a b : List D} : Its (.ow a) b = (a = b) := by
  apply propext
  constructor
  · intro h
    generalize e : X.ow a = x at h
    cases h with
    | tup => cases e
    | lst => cases e
    | ow => injection e
    | scr => cases e
  · rintro rfl
    exact .ow _
theorem itl_lst {a b : List D} : ItL (.fr (.list a)) b = (a = b) := by
  apply propext
  constructor
  · intro h
    generalize e : X.fr (PyData.list a) = x at h
    cases h with
    | lst => injection e with e; injection e
    | ow => cases e
  · rintro rfl
    exact .lst _
theorem itl_ow {a b : List D} : ItL (.ow a) b = (a = b) := by
  apply propext
  constructor
  · intro h
    generalize e : X.ow a = x at h
    cases h with
    | lst => cases e
    | ow => injection e
  · rintro rfl
    exact .ow _
theorem its_scr {ns : List Int} {b : List D} (h : b = ns.map PyData.int) : Its (.fr (scrD ns)) b := by rw [h]; exact .scr ns
theorem atI_0 {α : Type} {a : α} {l : List α} : atI (a :: l) 0 = some a := atI_nat (j := 0) rfl
theorem atI_1 {α : Type} {a b : α} {l : List α} : atI (a :: b :: l) 1 = some b := atI_nat (j := 1) rfl
theorem atI_2 {α : Type} {a b c : α} {l : List α} : atI (a :: b :: c :: l) 2 = some c := atI_nat (j := 2) rfl
/-- the name holds it -/
theorem w_var {i : Nat} {ρ : Ρ} {post : X → Prop} {x : X} (h : ρ[i]? = some (some x)) (p : post x) : wVar i ρ post := ⟨x, h, p⟩
theorem mapfr_nil {ds : List D} : ([] = List.map X.fr ds) = (ds = []) := by
  apply propext
  cases ds <;> simp
theorem mapfr_cons {a : D} {xs : List X} {ds : List D} : (X.fr a :: xs = List.map X.fr ds) = ∃ es, ds = a :: es ∧ xs = List.map X.fr es := by
  apply propext
  cases ds with
  | nil => simp
  | cons b l =>
    constructor
    · intro h
      rw [List.map_cons] at h
      injection h with h1 h2
      injection h1 with h1
      exact ⟨l, by rw [h1], h2⟩
    · rintro ⟨es, h1, h2⟩
      injection h1 with h3 h4
      rw [h2, List.map_cons, h3, h4]
theorem dat_fr {d : D} : (X.fr d).dat = d := rfl
theorem dat_ow {ds : List D} : (X.ow ds).dat = .list ds := rfl
theorem isN_fr {d : D} : xIsN (X.fr d) = dIsN d := rfl
theorem isN_ow {ds : List D} : xIsN (X.ow ds) = false := rfl
theorem isN_none : dIsN .none = true := rfl
theorem isN_int {i : Int} : dIsN (.int i) = false := rfl
theorem isN_tup {ds : List D} : dIsN (.tuple ds) = false := rfl
theorem isN_lst {ds : List D} : dIsN (.list ds) = false := rfl
/-- ints as a tuple -/
abbrev tI (ns : List Int) : D := .tuple (ns.map PyData.int)
/-- a comprehension without a test over known items, each element known -/
theorem w_lc {wi : WI} {wg : WG} {we : WE} {vs : List Nat} {ρ : Ρ} {post : List D → Prop} (ds : List D) (f : Nat → D → D) (hi : ∀ q : List D → Prop, q ds → wi ρ q) (hl : ds.length < 100000)
    (he : ∀ i d (q : X → Prop), ds[i]? = some d → q (.fr (f i d)) → wg d (wipeR ρ vs) fun ρ2 => we ρ2 q) (hp : post (ds.mapIdx f)) : wLc wi wg wYes we vs ρ post := by
  refine hi _ ⟨hl, fun i acc => acc = (ds.take i).mapIdx f, by simp, fun i d acc hd ha => ?_, fun acc ha => by rw [ha, List.take_length]; exact hp⟩
  show wg d (wipeR ρ vs) fun ρ2 => we ρ2 fun x => ∃ e, x = .fr e ∧ acc ++ [e] = (ds.take (i + 1)).mapIdx f
  refine he i d _ hd ⟨_, rfl, ?_⟩
  rw [ha, List.take_add_one, hd]
  have hl : (ds.take i).length = i := by
    rw [List.length_take]
    have := (List.getElem?_eq_some_iff.mp hd).1
    omega
  show _ = List.mapIdx f (ds.take i ++ [d])
  rw [List.mapIdx_append, hl]
  simp
theorem w_lcM {wi : WI} {wg : WG} {we : WE} {vs : List Nat} {ρ : Ρ} {post : List D → Prop} (ds : List D) (f : D → D) (hi : ∀ q : List D → Prop, q ds → wi ρ q) (hl : ds.length < 100000)
    (he : ∀ d (q : X → Prop), d ∈ ds → q (.fr (f d)) → wg d (wipeR ρ vs) fun ρ2 => we ρ2 q) (hp : post (ds.map f)) : wLc wi wg wYes we vs ρ post := by
  refine w_lc ds (fun _ d => f d) hi hl (fun i d q hd p => he d q (List.mem_of_getElem? hd) p) ?_
  rw [show ds.mapIdx (fun _ d => f d) = ds.map f by
    clear he hi hl hp
    induction ds with
    | nil => rfl
    | cons a l ih =>
      rw [List.mapIdx_cons, List.map_cons]
      exact congrArg _ ih]
  exact hp
/-- .. over items that are told by something else -/
theorem w_lcA {α : Type} {wi : WI} {wg : WG} {we : WE} {vs : List Nat} {ρ : Ρ} {post : List D → Prop} (xs : List α) (g f : α → D) (hi : ∀ q : List D → Prop, q (xs.map g) → wi ρ q) (hl : xs.length < 100000)
    (he : ∀ a (q : X → Prop), a ∈ xs → q (.fr (f a)) → wg (g a) (wipeR ρ vs) fun ρ2 => we ρ2 q) (hp : post (xs.map f)) : wLc wi wg wYes we vs ρ post := by
  refine hi _ ⟨by rw [List.length_map]; exact hl, fun i acc => acc = (xs.take i).map f, by simp, fun i d acc hd ha => ?_, fun acc ha => by rw [ha, List.length_map, List.take_length]; exact hp⟩
  rw [List.getElem?_map] at hd
  cases e : xs[i]? with
  | none => rw [e] at hd; cases hd
  | some a =>
    rw [e] at hd
    cases hd
    show wg (g a) (wipeR ρ vs) fun ρ2 => we ρ2 fun x => ∃ e, x = .fr e ∧ acc ++ [e] = (xs.take (i + 1)).map f
    refine he a _ (List.mem_of_getElem? e) ⟨_, rfl, ?_⟩
    rw [ha, List.take_add_one, e, List.map_append]
    rfl
theorem w_sumA {α : Type} {xs : List α} {f : α → Int} {post : X → Prop} (h : post (.fr (.int (xs.map f).sum))) : wSum [.fr (.list (xs.map fun a => .int (f a)))] post := by
  refine ⟨_, xs.map f, rfl, ?_, h⟩
  rw [itl_lst, List.map_map]
  rfl
theorem w_allA {α : Type} {xs : List α} {f : α → Bool} {post : X → Prop} (h : post (.fr (.bool (xs.all f)))) : wAll [.fr (.list (xs.map fun a => .bool (f a)))] post := by
  refine ⟨_, xs.map f, rfl, ?_, ?_⟩
  · rw [itl_lst, List.map_map]
    rfl
  · rw [List.all_map]
    exact h
theorem w_tupleL {ds : List D} {post : X → Prop} (h : post (.fr (.tuple ds))) : wTuple [.fr (.list ds)] post := ⟨_, ds, rfl, .inl (.lst ds), h⟩
theorem zip_ints (ss cs : List Int) : ((ss.map PyData.int).zip (cs.map PyData.int)).map (fun q => PyData.tuple [q.1, q.2]) = (ss.zip cs).map fun q => .tuple [.int q.1, .int q.2] := by
  rw [List.zip_map, List.map_map]
  rfl
theorem w_for {α : Type} {wi : WI} {wg : WG} {wb : WS} {W : WEnds} {ρ : Ρ} (xs : List α) (g : α → D) (hi : ∀ q : List D → Prop, q (xs.map g) → wi ρ q) (Inv : Nat → Ρ → Prop) (h0 : Inv 0 ρ)
    (step : ∀ i a ρ', xs[i]? = some a → Inv i ρ' → wg (g a) ρ' fun ρ2 => wb { W with nx := Inv (i + 1), ct := Inv (i + 1), bk := W.nx } ρ2) (fin : ∀ ρ', Inv xs.length ρ' → W.nx ρ') : wsFor wi wg wb W ρ := by
  refine hi _ ⟨Inv, h0, fun i d ρ' hd hv => ?_, fun ρ' h => fin ρ' (by rw [List.length_map] at h; exact h)⟩
  rw [List.getElem?_map] at hd
  cases e : xs[i]? with
  | none => rw [e] at hd; cases hd
  | some a =>
    rw [e] at hd
    cases hd
    exact step i a ρ' e hv
/-- over range(n), range(lo, hi) -/
theorem w_forR {wi : WI} {wg : WG} {wb : WS} {W : WEnds} {ρ : Ρ} (lo : Int) (n : Nat) (hi : ∀ q : List D → Prop, q (rgD lo n) → wi ρ q) (Inv : Nat → Ρ → Prop) (h0 : Inv 0 ρ)
    (step : ∀ i ρ', i < n → Inv i ρ' → wg (.int (lo + (i : Int))) ρ' fun ρ2 => wb { W with nx := Inv (i + 1), ct := Inv (i + 1), bk := W.nx } ρ2) (fin : ∀ ρ', Inv n ρ' → W.nx ρ') : wsFor wi wg wb W ρ := by
  refine hi _ ⟨Inv, h0, fun i d ρ' hd hv => ?_, fun ρ' h => fin ρ' (by rw [rgD_len] at h; exact h)⟩
  have hl : i < n := by
    have := (List.getElem?_eq_some_iff.mp hd).1
    rw [rgD_len] at this
    exact this
  rw [rgD_get hl] at hd
  cases hd
  exact step i ρ' hl hv
theorem w_while {wt : WT} {wb : WS} {W : WEnds} {ρ : Ρ} (Inv : Nat → Ρ → Prop) (m : Nat) (h0 : Inv m ρ)
    (step : ∀ m ρ', Inv m ρ' → wt ρ' fun b => if b = true then wb { W with nx := fun ρ2 => ∃ m', m' < m ∧ Inv m' ρ2, ct := fun ρ2 => ∃ m', m' < m ∧ Inv m' ρ2, bk := W.nx } ρ' else W.nx ρ') : wsWhile wt wb W ρ := ⟨Inv, ⟨m, h0⟩, step⟩
theorem iteP {c A B : Prop} [Decidable c] (h : c) (a : A) : if c then A else B := by
  rw [if_pos h]
  exact a
theorem iteQ {c A B : Prop} [Decidable c] (h : ¬ c) (b : B) : if c then A else B := by
  rw [if_neg h]
  exact b
/-- .. where the number of turns is drawn -/
theorem w_forRn {wi : WI} {wg : WG} {wb : WS} {W : WEnds} {ρ : Ρ} (lo : Int) (N : Nat → Prop) (hi : ∀ q : List D → Prop, (∀ n, N n → q (rgD lo n)) → wi ρ q) (Inv : Nat → Nat → Ρ → Prop) (h0 : ∀ n, N n → Inv n 0 ρ)
    (step : ∀ n i ρ', N n → i < n → Inv n i ρ' → wg (.int (lo + (i : Int))) ρ' fun ρ2 => wb { W with nx := Inv n (i + 1), ct := Inv n (i + 1), bk := W.nx } ρ2) (fin : ∀ n ρ', N n → Inv n n ρ' → W.nx ρ') : wsFor wi wg wb W ρ := by
  refine hi _ fun n hn => ⟨Inv n, h0 n hn, fun i d ρ' hd hv => ?_, fun ρ' h => fin n ρ' hn (by rw [rgD_len] at h; exact h)⟩
  have hl : i < n := by
    have := (List.getElem?_eq_some_iff.mp hd).1
    rw [rgD_len] at this
    exact this
  rw [rgD_get hl] at hd
  cases hd
  exact step n i ρ' hn hl hv
/-- a comprehension whose elements are drawn: ints within bounds -/
theorem w_lcI {α : Type} {wi : WI} {wg : WG} {we : WE} {vs : List Nat} {ρ : Ρ} {post : List D → Prop} (xs : List α) (g : α → D) (C : Int → Prop) (hi : ∀ q : List D → Prop, q (xs.map g) → wi ρ q) (hl : xs.length < 100000)
    (he : ∀ a (q : X → Prop), a ∈ xs → (∀ i, C i → q (.fr (.int i))) → wg (g a) (wipeR ρ vs) fun ρ2 => we ρ2 q) (hp : ∀ ns : List Int, ns.length = xs.length → (∀ n ∈ ns, C n) → post (ns.map PyData.int)) : wLc wi wg wYes we vs ρ post := by
  refine hi _ ⟨by rw [List.length_map]; exact hl, fun i acc => ∃ ns : List Int, acc = ns.map PyData.int ∧ ns.length = i ∧ ∀ n ∈ ns, C n, ⟨[], rfl, rfl, fun n h => nomatch h⟩, fun i d acc hd ha => ?_, fun acc ha => ?_⟩
  · rw [List.getElem?_map] at hd
    cases e : xs[i]? with
    | none => rw [e] at hd; cases hd
    | some a =>
      rw [e] at hd
      cases hd
      obtain ⟨ns, rfl, h1, h2⟩ := ha
      refine he a _ (List.mem_of_getElem? e) fun n hn => ⟨_, rfl, ns ++ [n], by simp, by simp [h1], fun z hz => ?_⟩
      rcases List.mem_append.mp hz with hz | hz
      · exact h2 z hz
      · rw [List.mem_singleton] at hz
        subst hz
        exact hn
  · obtain ⟨ns, rfl, h1, h2⟩ := ha
    exact hp ns (by rw [h1, List.length_map]) h2
theorem w_tupleO {ds : List D} {post : X → Prop} (h : post (.fr (.tuple ds))) : wTuple [.ow ds] post := ⟨_, ds, rfl, .inl (.ow ds), h⟩
/-- a statement, told by what holds behind it -/
theorem w_seq {a b : WS} {W : WEnds} {ρ : Ρ} (M : Ρ → Prop) (h1 : ∀ nx : Ρ → Prop, (∀ ρ', M ρ' → nx ρ') → a { W with nx := nx } ρ) (h2 : ∀ ρ', M ρ' → b W ρ') : wsSeq a b W ρ := h1 (b W) h2
/-- .. over items that are drawn -/
theorem w_forL {α : Type} {wi : WI} {wg : WG} {wb : WS} {W : WEnds} {ρ : Ρ} (C : List α → Prop) (g : α → D) (hi : ∀ q : List D → Prop, (∀ xs, C xs → q (xs.map g)) → wi ρ q) (Inv : List α → Nat → Ρ → Prop) (h0 : ∀ xs, C xs → Inv xs 0 ρ)
    (step : ∀ xs i a ρ', C xs → xs[i]? = some a → Inv xs i ρ' → wg (g a) ρ' fun ρ2 => wb { W with nx := Inv xs (i + 1), ct := Inv xs (i + 1), bk := W.nx } ρ2) (fin : ∀ xs ρ', C xs → Inv xs xs.length ρ' → W.nx ρ') : wsFor wi wg wb W ρ := by
  refine hi _ fun xs hx => ⟨Inv xs, h0 xs hx, fun i d ρ' hd hv => ?_, fun ρ' h => fin xs ρ' hx (by rw [List.length_map] at h; exact h)⟩
  rw [List.getElem?_map] at hd
  cases e : xs[i]? with
  | none => rw [e] at hd; cases hd
  | some a =>
    rw [e] at hd
    cases hd
    exact step xs i a ρ' hx e hv
theorem w_forI {α : Type} {wi : WI} {wg : WG} {wb : WS} {W : WEnds} {ρ : Ρ} (C : α → Prop) (g : α → D) (hi : ∀ q : List D → Prop, (∀ xs : List α, (∀ a ∈ xs, C a) → q (xs.map g)) → wi ρ q) (I : Ρ → Prop) (h0 : I ρ)
    (step : ∀ a ρ', C a → I ρ' → wg (g a) ρ' fun ρ2 => wb { W with nx := I, ct := I, bk := W.nx } ρ2) (fin : ∀ ρ', I ρ' → W.nx ρ') : wsFor wi wg wb W ρ :=
  w_forL (fun xs => ∀ a ∈ xs, C a) g hi (fun _ _ => I) (fun _ _ => h0) (fun xs i a ρ' hx he hv => step a ρ' (hx a (List.mem_of_getElem? he)) hv) (fun _ ρ' _ h => fin ρ' h)
end DL

/-! Within an except suite: unpacking a tuple, a comprehension over a list. -/
namespace RH
open PySem PySem.Spec PyProof.Rows L2 HotX
section
variable {prog : Program} {w : World} {A : Around} {E : Value → Shared → Prop} {s : Shared} {x1 : Addr}
theorem HotAt.of {h h' : Heap} (hot : HotAt A x1 h) (k : ∀ o, h.get? x1 = some o → h'.get? x1 = some o) : HotAt A x1 h' := by
  obtain ⟨hh, o, vs, e, d, c⟩ := hot
  exact ⟨hh, o, vs, k o e, d, c⟩
/-- the end: StopIteration made and raised beside a handled exception -/
theorem stop_hot {α : Type} {Q : Option Value → Shared → Prop} (hot : HotAt A x1 s.heap) (hQ : ∀ h', (∀ b o, s.heap.get? b = some o → h'.get? b = some o) → Q none { s with heap := h' }) :
    wpAny (model prog w) A.in1 (newExc (.type "StopIteration") [] >>= fun e => (raiseNew e : Sem α)) (fun _ _ => False) (fun e s1 => wpAny (model prog w) A (isInstance e (.type "StopIteration")) (fun b s2 => b = true ∧ Q none s2) E s1) s := by
  obtain ⟨hh, o1, vs1, h1, d1, c1⟩ := hot
  refine wpAny_bind ?_
  simp only [newExc, newTuple]
  refine wpAny_bind (wpAny_newObj_type ?_ (by size_fits))
  refine wpAny_bind (m := firstArgMember _ _) (wpAny_of_eq (a := Value.none) (by first | rfl | (simp only [firstArgMember]; rfl)) ?_)
  refine wpAny_newObj_type ?_ (by size_fits)
  refine raiseNew_hot ⟨hh, o1, vs1, Heap.get?_push_of_some _ (Heap.get?_push_of_some _ h1), d1, c1⟩ (Nat.ne_of_lt (Heap.lt_size (Heap.get?_push_of_some _ h1))) (Heap.get?_push_size _ rfl) rfl (by first | (simp; done) | (simp; omega) | (simp only [Array.size_append]; simp; omega)) ?_
  refine wpAny_isInstance (T := "StopIteration") (b := true) ⟨_, Heap.get?_update_self _ (Heap.get?_push_size _ rfl) rfl, rfl⟩ isSubtype_stop ⟨rfl, hQ _ fun b o e => ?_⟩
  rw [Heap.get?_update_other _ _ (Nat.ne_of_gt (Heap.lt_size (Heap.get?_push_of_some _ e)))]
  exact Heap.get?_push_of_some _ (Heap.get?_push_of_some _ e)
theorem HotAt.in1 {h : Heap} (hot : HotAt A x1 h) : HotAt A.in1 x1 h := hot
/-- a list iterator has come to its end -/
theorem list_end_hot {it l : Addr} {i : Nat} {items : Array Value} {Q : Option Value → Shared → Prop} (hot : HotAt A x1 s.heap) (hne : x1 ≠ it) (hit : s.heap.IsListIter it l i) (hl : s.heap.IsList l items) (hx : items[i]? = none)
    (hQ : ∀ h', Heap.ExtBut it s.heap h' → Q none { s with heap := h' }) : wpAny (model prog w) A (pyNext (.ref it)) Q E s := by
  obtain ⟨o, ho, _, hd⟩ := id hit
  obtain ⟨ol, hol, _, nl, hdl⟩ := hl
  have call : wpAny (model prog w) A.in1 (Builtin.«list_iterator.__next__» ⟨[.ref it], []⟩) (fun _ _ => False) (fun e s1 => wpAny (model prog w) A (isInstance e (.type "StopIteration")) (fun b s2 => b = true ∧ Q none s2) E s1) s := by
    show wpAny _ _ (field (.ref it) 0 >>= _) _ _ s
    refine wpAny_bind (wpAny_field ho hd (x := .ref l) rfl ?_)
    rw [if_neg (show ¬ ((Value.ref l == Value.none) = true) from fun z => nomatch z)]
    refine wpAny_bind (wpAny_field ho hd (x := .int i 0) rfl (wpAny_bind (wpAny_seqItems hol hdl ?_)))
    dsimp only
    rw [Int.toNat_natCast, hx]
    refine wpAny_bind (wpAny_rule (wpAny_bind (wpAny_setField ho hd (by simp) ?_)))
    refine stop_hot (RH.HotAt.of (RH.HotAt.in1 hot) fun o e => ((Heap.SameBut.update ..).2 x1 hne).trans e) fun h' k => hQ h' fun b o hb e => k b o ?_
    exact ((Heap.SameBut.update ..).2 b hb).trans e
  unfold pyNext
  refine wpAny_bind (wpAny_attempt (wpAny_callSpecial?_slot (name := Str.ofString "__next__") hit.typeIs slot_listiter_next
    (wpAny_call_entry slot_listiter_next hit.typeIs entry_listiter_next ?_ (args_listiter_next _))))
  refine wpAny_mono call (fun _ _ z => z.elim) fun e s1 h => ?_
  dsimp only
  refine wpAny_bind (wpAny_mono h (fun b s2 hb => ?_) fun _ _ z => z)
  obtain ⟨rfl, q⟩ := hb
  exact wpAny_pure q
/-- a tuple iterator has come to its end -/
theorem tuple_end_hot {it l : Addr} {i : Nat} {items : Array Value} {Q : Option Value → Shared → Prop} (hot : HotAt A x1 s.heap) (hne : x1 ≠ it) (hit : IsTupIter s.heap it l i) (hl : IsTup s.heap l items) (hx : items[i]? = none)
    (hQ : ∀ h', Heap.ExtBut it s.heap h' → Q none { s with heap := h' }) : wpAny (model prog w) A (pyNext (.ref it)) Q E s := by
  obtain ⟨o, ho, _, hd⟩ := id hit
  obtain ⟨ol, hol, _, nl, hdl⟩ := hl
  have call : wpAny (model prog w) A.in1 (Builtin.«tuple_iterator.__next__» ⟨[.ref it], []⟩) (fun _ _ => False) (fun e s1 => wpAny (model prog w) A (isInstance e (.type "StopIteration")) (fun b s2 => b = true ∧ Q none s2) E s1) s := by
    show wpAny _ _ (field (.ref it) 0 >>= _) _ _ s
    refine wpAny_bind (wpAny_field ho hd (x := .ref l) rfl ?_)
    rw [if_neg (show ¬ ((Value.ref l == Value.none) = true) from fun z => nomatch z)]
    refine wpAny_bind (wpAny_field ho hd (x := .int i 0) rfl (wpAny_bind (wpAny_seqItems hol hdl ?_)))
    dsimp only
    rw [Int.toNat_natCast, hx]
    refine wpAny_bind (wpAny_rule (wpAny_bind (wpAny_setField ho hd (by simp) ?_)))
    refine stop_hot (RH.HotAt.of (RH.HotAt.in1 hot) fun o e => ((Heap.SameBut.update ..).2 x1 hne).trans e) fun h' k => hQ h' fun b o hb e => k b o ?_
    exact ((Heap.SameBut.update ..).2 b hb).trans e
  unfold pyNext
  refine wpAny_bind (wpAny_attempt (wpAny_callSpecial?_slot (name := Str.ofString "__next__") hit.typeIs slot_tupleiter_next
    (wpAny_call_entry slot_tupleiter_next hit.typeIs entry_tupleiter_next ?_ (args_tupleiter_next _))))
  refine wpAny_mono call (fun _ _ z => z.elim) fun e s1 h => ?_
  dsimp only
  refine wpAny_bind (wpAny_mono h (fun b s2 hb => ?_) fun _ _ z => z)
  obtain ⟨rfl, q⟩ := hb
  exact wpAny_pure q
/-- a, b = t beside a handled exception -/
theorem unpack_hot {t : Addr} {items : Array Value} {elts : List Expr} {k : Nat} {pos : Pos} {env : Env} {Q : Unit → Shared → Prop} (hot : HotAt A x1 s.heap) (ht : IsTup s.heap t items) (hn : (assignEach elts env).length = items.size) (hstar : (assignEach elts env).findIdx? (·.1) = none)
    (h : ∀ h', Heap.ExtBut s.heap.objs.size s.heap h' → wpAny (model prog w) A (assignInOrder ((assignEach elts env).map (·.2)) items.toList) Q E { s with heap := h' }) :
    wpAny (model prog w) A (assign (.Tuple elts k pos) env (.ref t)) Q E s := by
  have hlt : t ≠ s.heap.objs.size := by
    obtain ⟨o, ho, _⟩ := ht
    exact Nat.ne_of_lt (Heap.lt_size ho)
  have hlx : x1 ≠ s.heap.objs.size := by
    obtain ⟨_, o, _, ho, _⟩ := hot
    exact Nat.ne_of_lt (Heap.lt_size ho)
  have all : wpAny (model prog w) A (unpackItems (.ref t) items.size none) (fun us s1 => us = items.toList ∧ ∃ h', Heap.ExtBut s.heap.objs.size s.heap h' ∧ s1 = { s with heap := h' }) E s := by
    unfold unpackItems notIterableAtAll
    refine wpAny_bind (wpAny_bind (wpAny_specialOf ht.typeIs slot_tuple_iter.lookup (wpAny_pure ?_)))
    rw [if_neg (by simp)]
    refine wpAny_bind (wpAny_holding (iter_tuple ht (wpAny_bind (wpAny_holding ?_))))
    refine draw_tuple hlt items.size 0 _ _ ⟨_, Heap.get?_push_size _ rfl, rfl, rfl⟩ (ht.push _) (by omega) fun h1 hit1 hs1 => ?_
    rw [List.drop_zero, List.take_of_length_le (by simp)]
    dsimp only
    rw [if_neg (by simp)]
    have ht1 : IsTup h1 t items := (ht.push _).extBut hs1.extBut hlt
    refine wpAny_bind (wpAny_holding (tuple_end_hot (s := { s with heap := h1 }) (i := 0 + items.size) (items := items) (RH.HotAt.of hot fun o e => hs1.extBut _ o hlx (Heap.get?_push_of_some _ e)) hlx hit1 ht1 (by simp) fun h2 he2 => ?_))
    rw [if_neg (by simp)]
    exact wpAny_pure ⟨rfl, h2, fun b o hb e => he2 b o hb (hs1.extBut b o hb (Heap.get?_push_of_some _ e)), rfl⟩
  rw [assign_Tuple]
  refine wpAny_bind (wpAny_standAt ?_)
  unfold unpack
  rw [hn, hstar]
  refine wpAny_bind (wpAny_holding (wpAny_mono all (fun us s1 z => ?_) fun _ _ z => z))
  obtain ⟨rfl, h', e, rfl⟩ := z
  exact h h' e
end
end RH

/-! Within an except suite: a comprehension over a list of tuples. -/
namespace RH
open PySem PySem.Spec PyProof.Rows L2 HotX L2H
/-- [elt for (..) in l if ..] beside a handled exception: D the new list -/
def tLcH (K : PySem.W.Frag) (tl : TE) (n : Nat) (gs : TGs) (tt : TT) (te : TE) (vs : List Nat) : TE := fun σ H Q => tl σ H fun x H1 => ∃ (a : Addr) (xs : List V), x = .ref a ∧ SqL K H1 a xs ∧ ∀ D, H1 D = none → ∃ Pv : Nat → Hp → Prop, Pv 0 (upd H1 D (.lst [])) ∧
  (∀ i H, Pv i H → SqL K H a xs) ∧ (∀ i x H, xs[i]? = some x → Pv i H → ∃ (t : Addr) (us : List V), x = .ref t ∧ SqT K H t us ∧ us.length = n ∧ gs us (wipe σ vs) H fun σ2 H2 => wipe σ2 vs = wipe σ vs ∧ tt σ2 H2 fun b H3 =>
    if b = true then te σ2 H3 fun y H4 => ∃ acc, H4 D = some (.lst acc) ∧ acc.length < sizeLine ∧ Pv (i + 1) (upd H4 D (.lst (acc ++ [y]))) else Pv (i + 1) H3) ∧ ∀ H, Pv xs.length H → Q (.ref D) H
section
variable {X : Cx} {elt iter : Expr} {es ifs : List Expr} {k n : Nat} {scope : Scope} {own : List (Str × Nat)} {pos tpos : Pos} {tl : TE} {gs : TGs} {tt : TT} {te : TE}
theorem pe_lcH (hot : HotC X) (hN : X.N.Nodup) (hl : PE X iter tl) (ok : BlkOk X.N X.env.scope scope own)
    (hg : ∀ (s : Shared) (H : Hp) (C : Addr) (cl : List (Str × Addr)) (fp : List Addr), PGs (X.blk s H scope (compEnvC scope cl C X.env) fp) es gs)
    (ht : ∀ (s : Shared) (H : Hp) (C : Addr) (cl : List (Str × Addr)) (fp : List Addr), PTs (X.blk s H scope (compEnvC scope cl C X.env) fp) ifs tt)
    (he : ∀ (s : Shared) (H : Hp) (C : Addr) (cl : List (Str × Addr)) (fp : List Addr), PE (X.blk s H scope (compEnvC scope cl C X.env) fp) elt te)
    (hn : ∀ env, (assignEach es env).length = n) (hst : ∀ env, (assignEach es env).findIdx? (·.1) = none) (hs : ∀ x, foldedSetIterable iter X.env x = pure x := by intro _; rfl) :
    PE X (.ListComp elt [⟨.Tuple es k tpos, iter, ifs, 0⟩] scope pos) (tLcH X.K tl n gs tt te (own.map (·.2))) := by
  refine ⟨fun pins s σ H Q I h => ?_⟩
  obtain ⟨p, ⟨hh, vx, dx, cx⟩, hp⟩ := hot
  rw [eval_ListComp]
  have hfree : ∀ y ∈ scope.names, y.2 = .free → ∃ c, X.env.cells.lookup y.1 = some c := fun y hy e => (ok.free y hy e).elim (fun z => I.ok.has _ (.inl z)) fun z => I.ok.has _ (.inr z)
  refine wpAny_comprehension_free (use := none) rfl hs (closure_ok hfree) ok.kind (fun y hy e => by rw [ok.uniq y hy, e]) (thn (hl.run pins s σ H _ I h) fun xv s1 h1 => ?_)
  obtain ⟨x, H1, I1, r1, a, xs, rfl, hq, q⟩ := h1
  cases r1
  obtain ⟨its, rv, pl, _⟩ := I1.list hq
  refine wpAny_pyIter_list pl.isList ?_
  generalize hit : s1.heap.objs.size = it
  generalize hs2 : ({ s1 with heap := s1.heap.push { cls := .type "list_iterator", data := .fields #[.ref a, .int 0 0] } } : Shared) = s2
  have h2 : s2.heap = s1.heap.push { cls := .type "list_iterator", data := .fields #[.ref a, .int 0 0] } := by rw [← hs2]
  have I2 : Inv X pins σ H1 s2 := by
    rw [← hs2]
    exact I1.kept (t' := s1.toks) fun b o e => Heap.get?_push_of_some _ e
  have st2 : s2.heap.IsListIter it a 0 := by
    rw [h2, ← hit]
    exact ⟨_, Heap.get?_push_size _ rfl, rfl, rfl⟩
  have lt2 : it < s2.heap.objs.size := by
    rw [h2, Heap.size_push, hit]
    exact Nat.lt_succ_self _
  have f2 : FpOk X pins H1 it := I1.fpOk (Nat.le_of_eq hit) (I1.hok.fresh (Nat.le_of_eq hit))
  refine wpAny_newObj_type (newEnv_comp ?_) (by show 0 ≤ sizeLine; decide)
  generalize hD : s2.heap.objs.size = D
  have nD : H1 D = none := I2.hok.fresh (Nat.le_of_eq hD)
  obtain ⟨Pv, p0, pl2, turn, fin⟩ := q D nD
  generalize hs3 : ({ s2 with heap := s2.heap.push { cls := .type "list", data := .seq ([] : List Value).toArray } } : Shared) = s3
  have h3 : s3.heap = s2.heap.push { cls := .type "list", data := .seq ([] : List Value).toArray } := by rw [← hs3]
  have I3 : Inv X pins σ (upd H1 D (.lst [])) s3 := by
    rw [← hs3]
    refine I2.laid (t' := s2.toks) (fun b o e => Heap.get?_push_of_some _ e) (Nat.le_of_eq hD) ⟨Nat.zero_le _, [], 0, .nil, ?_⟩
    rw [← hD]
    exact Heap.get?_push_size _ rfl
  have iD : it ≠ D := by
    rw [← hD]
    exact Nat.ne_of_lt lt2
  have f3 : ∀ b ∈ [it], FpOk X pins (upd H1 D (.lst [])) b ∧ b < s3.heap.objs.size := fun b hb => by
    obtain rfl : b = it := by simpa using hb
    refine ⟨⟨?_, f2.2⟩, by rw [h3, Heap.size_push]; exact Nat.lt_succ_of_lt lt2⟩
    rw [upd_ne iD]
    exact f2.1
  have st3 : s3.heap.IsListIter it a 0 := st2.at fun o e => by rw [h3]; exact Heap.get?_push_of_some _ e
  have I4 := block_start I3 ok hN f3
  have pg := hg s3 (upd H1 D (.lst [])) s3.heap.objs.size (cellsFrom (s3.heap.objs.size + 1) scope.names (cloFrom X.env.cells scope.names [])) [it]
  have pt := ht s3 (upd H1 D (.lst [])) s3.heap.objs.size (cellsFrom (s3.heap.objs.size + 1) scope.names (cloFrom X.env.cells scope.names [])) [it]
  have pe := he s3 (upd H1 D (.lst [])) s3.heap.objs.size (cellsFrom (s3.heap.objs.size + 1) scope.names (cloFrom X.env.cells scope.names [])) [it]
  show codeAny _ _ (.compStart (.ListComp elt [⟨.Tuple es k tpos, iter, ifs, 0⟩] scope pos) 0 (.ref it) (.ref D) (compEnvC scope (cellsFrom (s3.heap.objs.size + 1) scope.names (cloFrom X.env.cells scope.names [])) s3.heap.objs.size X.env)) (compPost (model X.prog X.w) X.A X.xe none _ (.ref D) s3.heap.objs.size) { s3 with heap := pushCells (s3.heap.push { cls := .type "dict", data := .dict #[] }) scope.names }
  generalize hce : compEnvC scope (cellsFrom (s3.heap.objs.size + 1) scope.names (cloFrom X.env.cells scope.names [])) s3.heap.objs.size X.env = ce at I4 pg pt pe ⊢
  have cL : ce.locals = s3.heap.objs.size := by subst hce; rfl
  have n3 : upd H1 D (.lst []) it = none := (f3 it (by simp)).1.1
  generalize hH3 : upd H1 D (.lst []) = H3 at I3 I4 pg pt pe p0 n3 f3
  generalize hs4 : ({ s3 with heap := pushCells (s3.heap.push { cls := .type "dict", data := .dict #[] }) scope.names } : Shared) = s4 at I4 ⊢
  have k34 : ∀ b o, s3.heap.get? b = some o → s4.heap.get? b = some o := fun b o e => by
    rw [← hs4]
    exact pushCells_keeps _ _ _ _ (Heap.get?_push_of_some _ e)
  have st4 : s4.heap.IsListIter it a 0 := st3.at fun o e => k34 _ o e
  -- the handled exception is pinned in the block
  obtain ⟨px, nx, lx, fx, cellx⟩ := I3.pin p (List.mem_append_left _ hp)
  have hpx : p.1 ≠ ce.locals := by
    rw [cL]
    exact Nat.ne_of_lt (Heap.lt_size px)
  have I5 : Inv (X.blk s3 H3 scope ce [it]) [p] (wipe σ (own.map (·.2))) H3 s4 := I4.pins_of fun r hr => by
    obtain rfl : r = p := by simpa using hr
    exact ⟨k34 _ _ px, nx, hpx, fun z => (List.mem_cons.mp (I3.stkSub _ z)).elim lx fx, cellx⟩
  have loop : codeAny (model X.prog X.w) X.A (.compLoop (.ListComp elt [⟨.Tuple es k tpos, iter, ifs, 0⟩] scope pos) 0 (.ref it) (.ref D) ce) (compPost (model X.prog X.w) X.A X.xe none (fun u s' => EP X pins σ Q u s') (.ref D) s3.heap.objs.size) s4 := by
    refine compLoop_any (fun n s' => ∃ i H', n = xs.length - i ∧ i ≤ xs.length ∧ Inv (X.blk s3 H3 scope ce [it]) [p] (wipe σ (own.map (·.2))) H' s' ∧ s'.heap.IsListIter it a i ∧ H' it = none ∧ Pv i H') ?_ xs.length ⟨0, H3, rfl, Nat.zero_le _, I5, st4, n3, p0⟩
    rintro n s5 ⟨i, H5, rfl, hi, J5, st5, n5, p5⟩
    obtain ⟨g5, _⟩ := J5.pin p (by simp)
    have hot5 : HotAt X.A p.1 s5.heap := ⟨hh, p.2, vx, g5, dx, cx⟩
    have px5 : p.1 ≠ it := fun z => by
      have := (f3 it (by simp)).1.2.2.2.2.2 p (List.mem_append_left _ hp)
      exact this z
    obtain ⟨its5, rv5, pl5, _⟩ := J5.list (pl2 i H5 p5)
    have fp5 : ∀ {H' : Hp}, H' it = none → FpOk (X.blk s3 H3 scope ce [it]) [p] H' it := fun {H'} z => ⟨z, (J5.ok.exf it (by simp)).1, J5.ok.exfs it (by simp), .inl (by simp), fun x c e => (J5.ok.exf it (by simp)).2 x c e, fun r hr => by
      obtain rfl : r = p := by simpa using hr
      exact px5⟩
    have turned : ∀ {h' : Heap}, (∀ b o, b ≠ it → s5.heap.get? b = some o → h'.get? b = some o) → Inv (X.blk s3 H3 scope ce [it]) [p] (wipe σ (own.map (·.2))) H5 { s5 with heap := h' } := fun {h'} k =>
      let ⟨a0, a1, a2, a3, a4, a5⟩ := fp5 n5
      J5.turned (t' := s5.toks) k a0 a1 a3 a4 a5
    by_cases hlt : i < xs.length
    · obtain ⟨x, hx⟩ : ∃ x, xs[i]? = some x := ⟨_, List.getElem?_eq_getElem hlt⟩
      obtain ⟨u, hu, ru⟩ := rv5.get hx
      refine wpAny_pyNext_list_item st5 pl5.isList (x := u) (by simpa using hu) fun h6 st6 sb => ?_
      have J6 := turned fun b o hb e => (sb.2 b hb).trans e
      obtain ⟨o6, e6, c6, d6⟩ := id st6
      refine go_of (s := { s5 with heap := h6 }) e6 c6 d6 (by decide) ?_
      obtain ⟨t, us, rfl, ht6, hl6, q6⟩ := turn i x H5 hx p5
      cases ru
      obtain ⟨itt, rt, pt6, _⟩ := J6.tuple ht6
      have hot6 : HotAt X.A p.1 h6 := RH.HotAt.of hot5 fun o e => (sb.2 _ px5).trans e
      have J6' := J6.pinned (fp := [it]) (fun b hb => by obtain rfl : b = it := by simpa using hb
                                                         exact fp5 n5) fun b hb => by
        obtain rfl : b = it := by simpa using hb
        exact ⟨o6, e6, fun v z => by rw [d6] at z; cases z⟩
      refine unpack_hot (s := { s5 with heap := h6 }) hot6 pt6 (by rw [hn, ← hl6, rt.length, List.size_toArray]) (hst _) fun h7 x7 => ?_
      have J7 : Inv (X.blk s3 H3 scope ce [it]) ([p] ++ pinsAt [it] h6) (wipe σ (own.map (·.2))) H5 { s5 with heap := h7 } := J6'.kept (t' := s5.toks) fun b o e => x7 b o (Nat.ne_of_lt (Heap.lt_size e)) e
      refine thnF (pg.run _ _ _ H5 us _ _ J7 (by simpa using rt) q6) fun _ s8 ⟨σ8, H8, I8, hw8, q8⟩ => ?_
      refine thnF (pt.run _ s8 σ8 H8 _ I8 q8) fun b s9 ⟨H9, I9, q9⟩ => ?_
      -- behind the turn
      have fin2 : ∀ {s' : Shared} {H' : Hp}, Inv (X.blk s3 H3 scope ce [it]) ([p] ++ pinsAt [it] h6) σ8 H' s' → Pv (i + 1) H' → ∃ m, m < xs.length - i ∧ ∃ j H', m = xs.length - j ∧ j ≤ xs.length ∧ Inv (X.blk s3 H3 scope ce [it]) [p] (wipe σ (own.map (·.2))) H' s' ∧ s'.heap.IsListIter it a j ∧ H' it = none ∧ Pv j H' := fun {s' H'} I' p' => by
        obtain ⟨z1, z2, _⟩ := I'.pin (it, o6) (List.mem_append_right _ (List.mem_append_right _ (mem_pinsAt (by simp) e6)))
        refine ⟨xs.length - (i + 1), by omega, i + 1, H', rfl, hlt, (I'.unpinned (pins := [p])).weak (by rw [← hw8, wipe_length]) (fun j v e => ?_), st6.at fun o e => by rw [e6] at e; cases e; exact z1, z2, p'⟩
        rw [← hw8] at e
        exact (wipe_some e).1
      cases b with
      | false =>
        rw [if_neg Bool.false_ne_true]
        exact fin2 I9 (by simpa using q9)
      | true =>
        rw [if_pos rfl]
        rw [if_pos rfl] at q9
        refine thnF (pe.run _ s9 σ8 H9 _ I9 q9) fun z s10 ⟨y, H10, I10, r10, acc, hD10, hz10, nx10⟩ => ?_
        exact app_ok (X := X.blk s3 H3 scope ce [it]) I10 hD10 hz10 r10 fun s11 I11 => fin2 I11 nx10
    · have ei : i = xs.length := by omega
      subst ei
      refine list_end_hot hot5 px5 st5 pl5.isList (by have := rv5.length; simp; omega) fun h6 x6 => ?_
      have J6 := turned fun b o hb e => x6 b o hb e
      have I7 : Inv X pins σ H5 { s5 with heap := h6 } := I3.call' (ch := [it]) J6.os J6.base J6.hok J6.bare fun b hb => by
        have z := (f3 b hb).1
        exact ⟨z.2.2.2.1, z.2.1, z.2.2.2.2.1, z.2.2.2.2.2⟩
      have nC : H5 s3.heap.objs.size = none := by
        have z : H5 ce.locals = none := J6.free
        rw [cL] at z
        exact z
      obtain ⟨m, hn6, _⟩ := J6.loc
      have hn6 : h6.Ns ce.locals m := hn6
      rw [cL] at hn6
      obtain ⟨_, c1, _, c3, c4, c5⟩ := I3.fpOk (H' := H5) (Nat.le_refl _) nC
      exact ⟨m, hn6, fun h7 sb => ⟨.ref D, H5, I7.turned (t' := s5.toks) (fun b o hb e => (sb.2 b hb).trans e) nC c1 c3 c4 c5, rfl, fin H5 p5⟩⟩
  exact codeAny_compStart_list loop (wpAny_pyIter_listiter st4 loop)
end
end RH

/-! try with several except clauses that name the error, all by one name. -/
namespace RH
open PySem PySem.Spec PyProof.Rows L2 HotX L2H
abbrev TSu := Addr → Value → Option Addr → TS
/-- behind a suite the name is gone -/
def goneE (i : Nat) (D : Ends) : Ends := { nx := fun σ H => D.nx (σ.set i none) H, rt := D.rt, bk := fun σ H => D.bk (σ.set i none) H, ct := fun σ H => D.ct (σ.set i none) H }
/-- the first clause that takes the error -/
def wMatch (K : PySem.W.Frag) (i : Nat) (Wout : WX) (D : Ends) : List (Value × TSu) → WX
  | [] => Wout
  | q :: r => fun cls d σ H => ∃ b, PySem.W.exmOne K cls q.1 = some b ∧ (b = true → ∀ a, H a = none → q.2 a cls d (goneE i D) (σ.set i (some (.ref a))) H) ∧ (b = false → wMatch K i Wout D r cls d σ H)
inductive Clauses (X : Cx) (n : Str) : List ExceptHandler → List (Value × TSu) → Prop
  | nil : Clauses X n [] []
  | cons {x : Str} {c : Value} {ts : TSu} {st : Stmt} {sts : List Stmt} {p p' : Pos} {hs : List ExceptHandler} {l : List (Value × TSu)} (nm : Names X x c)
      (su : ∀ (a : Addr) (oe : Obj) (cls : Value) (d : Option Addr) (pn : List (Addr × Obj)), L2N.Zn cls d oe → (∃ vs, oe.data = .fields vs) → PSs (X.suite a ((a, oe) :: pn)) (st :: sts) (ts a cls d)) (r : Clauses X n hs l) :
      Clauses X n (.ExceptHandler (some (.Name x p)) (some n) (st :: sts) p' :: hs) ((c, ts) :: l)
section
variable {X : Cx} {n : Str} {i : Nat} {Wout : WX}
/-- the clauses one by one, the error on the ground at h3 -/
theorem clauses_run (hf : X.env.frame = some X.env.locals) (hN : X.N.Nodup) (hi : X.N[i]? = some n) (hln : X.env.kindOf n = some .local) {hs : List ExceptHandler} {l : List (Value × TSu)} (C : Clauses X n hs l)
    {pins : List (Addr × Obj)} {σ : L2.St} {H : Hp} {sI s : Shared} {D : Ends} {a : Addr} {B h3 : Heap} {cls : Value} {d : Option Addr} (J : Inv X pins σ H sI) (nb : ∀ b o, sI.heap.get? b = some o → b ∉ frs X.stack → B.get? b = some o)
    (up : sI.heap.UpToSlots h3) (fl : HandSPX.FlyingZ B (X.env :: X.outer) a (L2N.Zn cls d) h3) (na : H a = none) (os : s.os = sI.os) (ag : AllBare s.gens)
    (out : Wout cls d σ H → ∀ h4, h3.UpToSlots h4 → HandSPX.HeldZ B (X.env :: X.outer) a (L2N.Zn cls d) X.env.locals h4 → X.xe (.ref a) { s with heap := h4 }) (w : wMatch X.K i Wout D l cls d σ H) :
    wpAny (model X.prog X.w) X.A (handleBy (.ref a) X.env hs) (SP X pins D) X.xe { s with heap := h3 } := by
  have ok := J.ok
  have hloc : Loc X.env.scope n := .inl hln
  have J3 : Inv X pins σ H { s with heap := h3 } := Inv.landed J nb fl.1 up os ag
  obtain ⟨oe3, vs3, he3, hz3, hd3⟩ := fl.there
  have nfr : a ∉ frs (X.env :: X.outer) := fun hm => by
    obtain ⟨_, o, e, hnf⟩ := fl.2.2.1.mem hm
    rw [he3] at e
    cases e
    exact hnf _ hd3
  have nL : a ≠ X.env.locals := fun z => nfr (List.mem_filterMap.mpr ⟨X.env, List.mem_cons_self, by rw [hf, z]⟩)
  have nF : a ∉ X.fs := fun hm => by
    obtain ⟨e, he, q⟩ := List.mem_filterMap.mp hm
    exact nfr (List.mem_filterMap.mpr ⟨e, List.mem_cons_of_mem _ he, q⟩)
  have S3 := J3.suite he3 hd3 na nL nF
  induction C with
  | nil =>
    refine wpAny_handleBy_nil ?_
    obtain ⟨k1, k2, k3, oe, vs, T, oT, ts', he, hz, hd, h1, hr⟩ := id fl
    unfold PySem.passOn
    refine wpAny_bind (wpAny_field he hd h1 ?_)
    rw [if_neg (show ¬ ((Value.ref T == Value.none) = true) from fun z => nomatch z)]
    have fin : wpAny (model X.prog X.w) X.A (setFlight (.ref a) X.env.frame) (fun _ s4 => wpAny (model X.prog X.w) X.A (throw (.ref a) : Sem Flow) (SP X pins D) X.xe s4) X.xe { s with heap := h3 } := by
      rw [hf]
      exact HandSPX.setFlight_upZ fl fun h4 hh4 up4 => wpAny_throw (out w h4 up4 hh4)
    first
      | exact wpAny_bind (wpAny_pure (wpAny_bind fin))
      | exact wpAny_bind fin
  | @cons x c ts st sts p p' hs2 l2 nm su r ih =>
    obtain ⟨b, hb, yes, no⟩ := w
    refine wpAny_handleBy_cons (codeAny_handlers_test ?_) (by intro q; cases q)
    have LT : PySem.W.Looks (model X.prog X.w) h3 (typeOf (.ref a)) cls := fun A Q E s k q => wpAny_typeOf_ref (k _ _ he3) (by rw [hz3.1]; exact q)
    have LM := PySem.W.exm_one (M := model X.prog X.w) J3.kIn LT hb
    have look : ∀ {Q E : Value → Shared → Prop}, Q c { s with heap := h3 } → wpAny (model X.prog X.w) (X.A.mark (some (.ref a))) (eval (.Name x p) X.env) Q E { s with heap := h3 } := fun {Q E} q => by
      obtain ⟨hg, hdbg, hm | ⟨hm, hv, hnn⟩⟩ := nm
      · exact ld_glob (X := X.suite a ((a, oe3) :: (X.pn ++ pins))) S3 hg hm q hdbg
      · exact ld_blt (X := X.suite a ((a, oe3) :: (X.pn ++ pins))) S3 hg hm hv q hnn hdbg
    refine look (LM.here ?_)
    cases b with
    | false =>
      show wpAny _ X.A (handleBy (.ref a) X.env hs2) _ _ _
      exact ih (no rfl)
    | true =>
      refine codeAny_handlers_suite_as (HandSPX.lands_againZ fl fun h4 fl4 up4 => ?_)
      have J4 : Inv X pins σ H { s with heap := h4 } := Inv.landed J nb fl4.1 (up.trans up4) os ag
      obtain ⟨oe4, vs4, he4, hz4, hd4⟩ := fl4.there
      have S4 := J4.suite he4 hd4 na nL nF
      refine store_ok (X := X.suite a ((a, oe4) :: (X.pn ++ pins))) (v := .ref a) S4 hN hi hloc rfl (fun s5 S5 => ?_) (.inr hln)
      refine wpAny_mono ((su a oe4 cls d (X.pn ++ pins) hz4 ⟨_, hd4⟩).run [] s5 _ H (goneE i D) S5 (yes rfl a na)) (fun f s6 hsp => ?_) fun _ _ z => z.elim
      have done : ∀ {σ6 : L2.St} {H6 : Hp} {Q : Shared → Prop}, Inv (X.suite a ((a, oe4) :: (X.pn ++ pins))) [] σ6 H6 s6 → (∀ s7, Inv X pins (σ6.set i none) H6 s7 → Q s7) →
          wpAny (model X.prog X.w) X.A (do bindName X.env n .none; unbindBehindTheSuite X.env n p') (fun _ s7 => Q s7) X.xe s6 := fun {σ6 H6 Q} S6 q => gone_ok (S6.unsuite ok) hN hi hln q
      cases f with
      | next =>
        obtain ⟨σ6, H6, S6, q6⟩ := hsp
        exact done S6 fun s7 J7 => ⟨_, _, J7, q6⟩
      | brk =>
        obtain ⟨σ6, H6, S6, q6⟩ := hsp
        exact done S6 fun s7 J7 => ⟨_, _, J7, q6⟩
      | cont =>
        obtain ⟨σ6, H6, S6, q6⟩ := hsp
        exact done S6 fun s7 J7 => ⟨_, _, J7, q6⟩
      | ret u =>
        obtain ⟨v6, σ6, H6, S6, r6, q6⟩ := hsp
        exact done S6 fun s7 J7 => ⟨_, _, _, J7, r6, q6⟩
/-- try: body except .. as n: .. except .. as n: .. -/
theorem ps_try_asM {body : List Stmt} {h₀ : ExceptHandler} {hds : List ExceptHandler} {l : List (Value × TSu)} {pos : Pos} {tb : WX → TS} (hs : X.stack = X.env :: X.outer) (hf : X.env.frame = some X.env.locals) (hN : X.N.Nodup) (hi : X.N[i]? = some n) (hln : X.env.kindOf n = some .local) (tk : L2N.Takes X Wout)
    (hb : ∀ (W : WX) (pn : List (Addr × Obj)) (xe : Value → Shared → Prop), L2N.Takes (X.tr pn xe) W → PassesOwn (model X.prog X.w) X.A X.env xe → PSs (X.tr pn xe) body (tb W))
    (C : Clauses X n (h₀ :: hds) l) : PS X (.Try body (h₀ :: hds) [] [] pos) (fun D σ H => tb (wMatch X.K i Wout D l) D σ H) := by
  refine ⟨fun pins s σ H D I h => wpAny_Try_except ?_⟩
  have ok := I.ok
  have hfr : X.A.frames = some (X.env :: X.outer) := by rw [ok.frames, hs]
  have caught : ∀ u s', L2N.XE (X.tr (X.pn ++ pins) fun e s₁ => wpAny (model X.prog X.w) X.A (noteFrame e X.env) (fun _ s₂ => wpAny (model X.prog X.w) X.A (setFlight e none) (fun _ s₃ => wpAny (model X.prog X.w) X.A (handleBy e X.env (h₀ :: hds)) (SP X pins D) X.xe s₃) X.xe s₂) X.xe s₁) (wMatch X.K i Wout D l) u s' →
      wpAny (model X.prog X.w) X.A (noteFrame u X.env) (fun _ s₂ => wpAny (model X.prog X.w) X.A (setFlight u none) (fun _ s₃ => wpAny (model X.prog X.w) X.A (handleBy u X.env (h₀ :: hds)) (SP X pins D) X.xe s₃) X.xe s₂) X.xe s' := fun u s' xx => by
    obtain ⟨a, B, sI, pins', σ', H', cls, d, rfl, J', nb, up, sky, na, os, ag, w⟩ := xx
    have J : Inv X pins σ' H' sI := J'.ofTry ok
    have sky' : Sky B (X.env :: X.outer) a (L2N.Zn cls d) X.env.locals s'.heap := by rw [← hs]; exact sky
    refine L2N.Sky.land L2N.Zn.steady hfr hf sky' fun h3 fl3 up3 => ?_
    refine clauses_run hf hN hi hln C J nb (up.trans up3) fl3 na os ag (fun wo h4 up4 hh4 => tk _ _ ?_) w
    exact ⟨a, B, sI, pins, σ', H', cls, d, rfl, J, nb, (up.trans up3).trans up4, .inr (.inr (by rw [hs]; exact hh4)), na, os, ag, wo⟩
  refine wpAny_mono ((hb (wMatch X.K i Wout D l) (X.pn ++ pins) _ (fun u s' xx => caught u s' xx) PassesOwn.looking).run [] s σ H D (I.toTry _) h) (fun f s1 hsp => ?_) fun _ _ he => he
  cases f with
  | next =>
    obtain ⟨σ', H', J', q⟩ := hsp
    exact wpAny_execs_nil ⟨σ', H', J'.ofTry ok, q⟩
  | brk =>
    obtain ⟨σ', H', J', q⟩ := hsp
    exact ⟨σ', H', J'.ofTry ok, q⟩
  | cont =>
    obtain ⟨σ', H', J', q⟩ := hsp
    exact ⟨σ', H', J'.ofTry ok, q⟩
  | ret u =>
    obtain ⟨v, σ', H', J', r, q⟩ := hsp
    exact ⟨v, σ', H', J'.ofTry ok, r, q⟩
/-- the suite stands beside an error whose context is None -/
theorem hot_suite {a : Addr} {oe : Obj} {cls : Value} {d : Option Addr} {pn : List (Addr × Obj)} (hz : L2N.Zn cls d oe) (hf : ∃ vs, oe.data = .fields vs) : HotC (X.suite a ((a, oe) :: pn)) := by
  obtain ⟨vs, e⟩ := hf
  exact ⟨(a, oe), ⟨rfl, vs, e, hz.2.2 vs e⟩, List.mem_cons_self⟩
end
end RH

/-! The data layer's rules: defs that raise. -/
namespace DL
open PySem PySem.Spec PyProof.Rows L2
/-- an error as data: which class, its field -/
structure XV where
  c : Nat
  f : Option D
/-- cl: where the error classes stand -/
def XRep (cl : Nat → Addr) (Z : Par) (F : Hp) (B : Addr → Prop) (H : Hp) (c : Value) (d : Option Addr) (x : XV) : Prop := c = .ref (cl x.c) ∧ match x.f with
  | none => d = none
  | some v => ∃ (dd : Addr) (u : V), d = some dd ∧ H dd = some (.xd [(("kind" : Str), u)]) ∧ Rep Z F B u v
abbrev WFnX := List D → (D → Prop) → (XV → Prop) → Prop
abbrev KR (cl : Nat → Addr) (Z : Par) (P : Addr → Prop) (F : Hp) (B : Addr → Prop) (H : Hp) (xp : XV → Prop) (E : XK) : Prop := ∀ F' B' H' c d x, Le P F B H F' B' H' → Wf Z F' B' H' → XRep cl Z F' B' H' c d x → xp x → E c d H'
def LFX (cl : Nat → Addr) (Z : Par) (w : WFnX) : Sp := fun vs H Q E => ∃ F B ds post xp, Wf Z F B H ∧ RepAll Z F B vs ds ∧ w ds post xp ∧ (∀ F' B' H' v d, Le (dm H) F B H F' B' H' → Wf Z F' B' H' → Rep Z F' B' v d → post d → Q v H') ∧ KR cl Z (dm H) F B H xp E
def LEX (cl : Nat → Addr) (Z : Par) (E : XK) (xp : XV → Prop) (w : WE) : TE := fun σ H Q => ∃ F B P ρ post, At Z σ H F B P ρ ∧ w ρ post ∧ (∀ F' B' H' v x, Le (dm H) F B H F' B' H' → Wf Z F' B' H' → XR Z F' B' H' P v x → post x → Q v H') ∧ KR cl Z (dm H) F B H xp E
def LSX (cl : Nat → Addr) (Z : Par) (E : XK) (xp : XV → Prop) (w : WS) : TS := fun Dd σ H => ∃ F B P ρ W, At Z σ H F B P ρ ∧ w W ρ ∧
  (∀ F' B' H' σ' ρ', Le P F B H F' B' H' → At Z σ' H' F' B' P ρ' → W.nx ρ' → Dd.nx σ' H') ∧
  (∀ F' B' H' v d, Le P F B H F' B' H' → Wf Z F' B' H' → Rep Z F' B' v d → W.rt d → Dd.rt v H') ∧
  (∀ F' B' H' σ' ρ', Le P F B H F' B' H' → At Z σ' H' F' B' P ρ' → W.bk ρ' → Dd.bk σ' H') ∧
  (∀ F' B' H' σ' ρ', Le P F B H F' B' H' → At Z σ' H' F' B' P ρ' → W.ct ρ' → Dd.ct σ' H') ∧ KR cl Z P F B H xp E
section
variable {cl : Nat → Addr} {Z : Par} {P P' : Addr → Prop} {F F1 : Hp} {B B1 : Addr → Prop} {H H1 : Hp} {xp : XV → Prop} {E : XK}
theorem KR.later (k : KR cl Z P F B H xp E) (e : Le P F B H F1 B1 H1) : KR cl Z P F1 B1 H1 xp E := fun F' B' H' c d x e' w r p => k F' B' H' c d x (e.trans e') w r p
theorem KR.dm (k : KR cl Z P F B H xp E) (h : ∀ a, P a → H a ≠ none) : KR cl Z (dm H) F B H xp E := fun F' B' H' c d x e' w r p => k F' B' H' c d x (e'.mono h) w r p
theorem KR.back (k : KR cl Z (DL.dm H) F B H xp E) (e : Le (DL.dm H) F B H F1 B1 H1) : KR cl Z (DL.dm H1) F1 B1 H1 xp E := fun F' B' H' c d x e' w r p => k F' B' H' c d x (e.then e') w r p
/-- an error without a field, where it stands -/
theorem KR.here {i : Nat} (k : KR cl Z P F B H xp E) (w : Wf Z F B H) (p : xp ⟨i, none⟩) : E (.ref (cl i)) none H := k F B H _ _ ⟨i, none⟩ Le.refl w ⟨rfl, rfl⟩ p
end
/-- what the raising of an own class without __init__ asks -/
structure ErrC (K : PySem.W.Frag) (mg : Str → Option Value) (nm : Str) (C : Addr) : Prop where
  g : mg nm = some (.ref C)
  x : PySem.W.excIn K C [.type "ValueError", .type "Exception", .type "BaseException", .type "object"] "ValueError.__new__" = true
  k : PySem.W.keepIn K (.ref C) = true
  b : PySem.W.subIn K (.ref C) (.type "BaseException") = some true
  t : PySem.W.typeIn K (.ref C) = some (.type "type")
section
variable {X : Cx}
/-- X() -/
theorem pmk_own0 {C : Addr} {x : Str} {p pos : Pos} (e : ErrC X.K X.mg x C) (hg : Gl X x := by rfl) (hdb : (x == ("__debug__" : Str)) = false := by decide) : L2N.PMk X (.Call (.Name x p) [] [] pos) (fun _ H Q => Q (.ref C) none H) := by
  intro pins s σ H Q I h
  refine wpAny_Call_Name_kw (ld_glob I hg e.g ?_ hdb)
  refine PySem.W.callWith_K0 I.kIn e.k ?_
  show wpAny _ _ (call (.ref C) []) _ _ _
  obtain ⟨bm, N, nm, qn, bs, hdct, sn, sub, ab, col, dd, k0, k1, k2, k3, k5, mN, hC, hN, hni, T⟩ := exc_obj I.kIn e.x
  refine wpAny_call_exc_subT PySem.F.excBase_ValueError T hC hN hni (fun h' a hm => ?_) (Nat.zero_le _)
  exact L2N.mk_of I hm (raises_own e.b e.t) h (I.hok.gone hm.new)
end
section
variable {cl : Nat → Addr} {Z : Par} {X : Cx} {E : XK} {xp : XV → Prop} {st : Stmt} {rest sa sb : List Stmt} {t u : WS} {we : WE} {wt : WT} {wl : WA} {e c : Expr} {es : List Expr} {pos pos' p : Pos}
theorem s_liftS {Dd : Ends} {σ : L2.St} {H : Hp} (h : LSX cl Z E xp t Dd σ H) : LS Z t Dd σ H := by
  obtain ⟨F, B, P, ρ, W, a, w, kn, kr, kb, kc, _⟩ := h
  exact ⟨F, B, P, ρ, W, a, w, kn, kr, kb, kc⟩
/-- what raises nothing -/
theorem qsX_lift (h : PS X st (LS Z t)) : PS X st (LSX cl Z E xp t) := psW h fun _ _ _ h => s_liftS h
theorem qssX_lift (h : PSs X rest (LS Z t)) : PSs X rest (LSX cl Z E xp t) := pssW h fun _ _ _ h => s_liftS h
theorem qssX_calm (h : PSs X.nox rest (LS Z t)) : PSs X rest (LSX cl Z E xp t) := qssX_lift h.nox
theorem qssX_one (h1 : PS X st (LSX cl Z E xp t)) : PSs X [st] (LSX cl Z E xp t) := pss_one h1
theorem qssX_cons (h1 : PS X st (LSX cl Z E xp t)) (h2 : PSs X rest (LSX cl Z E xp u)) : PSs X (st :: rest) (LSX cl Z E xp (wsSeq t u)) := pssW (pss_cons h1 h2) fun Dd σ H h => by
  obtain ⟨F, B, P, ρ, W, a, w, kn, kr, kb, kc, kx⟩ := h
  refine ⟨F, B, P, ρ, _, a, w, fun F1 B1 H1 σ1 ρ1 e1 a1 p1 => ?_, kr, kb, kc, kx⟩
  exact ⟨F1, B1, P, ρ1, W, a1, p1, fun F2 B2 H2 σ2 ρ2 e2 a2 p2 => kn _ _ _ _ _ (e1.trans e2) a2 p2, fun F2 B2 H2 v d e2 w2 r2 p2 => kr _ _ _ _ _ (e1.trans e2) w2 r2 p2, fun F2 B2 H2 σ2 ρ2 e2 a2 p2 => kb _ _ _ _ _ (e1.trans e2) a2 p2, fun F2 B2 H2 σ2 ρ2 e2 a2 p2 => kc _ _ _ _ _ (e1.trans e2) a2 p2, KR.later kx e1⟩
theorem qsX_if (hc : PT X c (LT Z wt)) (ha : PSs X sa (LSX cl Z E xp t)) (hb : PSs X sb (LSX cl Z E xp u)) : PS X (.If c sa sb pos) (LSX cl Z E xp (wsIf wt t u)) := psW (ps_if hc ha hb) fun Dd σ H h => by
  obtain ⟨F, B, P, ρ, W, a, w, kn, kr, kb, kc, kx⟩ := h
  refine ⟨F, B, P, ρ, _, a, w, fun F1 B1 H1 b e1 w1 p1 => ?_⟩
  have e := a.rebase e1
  cases b with
  | true => exact ⟨F1, B1, P, ρ, W, a.step e1 w1, p1, fun F2 B2 H2 σ2 ρ2 e2 a2 p2 => kn _ _ _ _ _ (e.trans e2) a2 p2, fun F2 B2 H2 v d e2 w2 r2 p2 => kr _ _ _ _ _ (e.trans e2) w2 r2 p2, fun F2 B2 H2 σ2 ρ2 e2 a2 p2 => kb _ _ _ _ _ (e.trans e2) a2 p2, fun F2 B2 H2 σ2 ρ2 e2 a2 p2 => kc _ _ _ _ _ (e.trans e2) a2 p2, KR.later kx e⟩
  | false => exact ⟨F1, B1, P, ρ, W, a.step e1 w1, p1, fun F2 B2 H2 σ2 ρ2 e2 a2 p2 => kn _ _ _ _ _ (e.trans e2) a2 p2, fun F2 B2 H2 v d e2 w2 r2 p2 => kr _ _ _ _ _ (e.trans e2) w2 r2 p2, fun F2 B2 H2 σ2 ρ2 e2 a2 p2 => kb _ _ _ _ _ (e.trans e2) a2 p2, fun F2 B2 H2 σ2 ρ2 e2 a2 p2 => kc _ _ _ _ _ (e.trans e2) a2 p2, KR.later kx e⟩
/-- raise X() -/
def wsRaise (xp : XV → Prop) (i : Nat) : WS := fun _ _ => xp ⟨i, none⟩
theorem qsX_raise (i : Nat) {x : Str} (hc : X.calm = true) (tk : L2N.Takes X fun c d _ H => E c d H) (e : ErrC X.K X.mg x (cl i)) (hg : Gl X x := by rfl) (hdb : (x == ("__debug__" : Str)) = false := by decide) :
    PS X (.Raise (some (.Call (.Name x p) [] [] pos)) none pos') (LSX cl Z E xp (wsRaise xp i)) := psW (L2N.ps_raise hc tk (pmk_own0 e hg hdb)) fun Dd σ H h => by
  obtain ⟨F, B, P, ρ, W, a, w, kn, kr, kb, kc, kx⟩ := h
  exact KR.here kx a.wf w
/-! ### calls that may raise -/
def CalX (cl : Nat → Addr) (Z : Par) (P : Program) (w : World) (mg : Str → Option Value) (base : Heap) (k : Nat) (x : Str) (ps : List Str) (wf : WFnX) : Prop := ∃ f fd, FnOk P w Z.K mg base (L2N.CX P w) k f fd ps (LFX cl Z wf) ∧ mg x = some (.ref f) ∧ PySem.W.keepIn Z.K (.ref f) = true ∧ Binds Z.K fd ps []
def wXcall (wf : WFnX) (xp : XV → Prop) (wl : WA) : WE := fun ρ post => wl ρ fun xs => ∃ ds, xs = ds.map DL.X.fr ∧ wf ds (fun d => post (.fr d)) xp
theorem qeX_call {k j : Nat} {x : Str} {ps : List Str} {wf : WFnX} (c : CalX cl Z X.prog X.w X.mg X.base k x ps wf) (hK : X.K = Z.K) (tk : L2N.Takes X fun c d _ H => E c d H) (hr : Room j X.A) (hjk : k ≤ j) (ha : PA X (e :: es) (LA Z wl)) (hg : Gl X x := by rfl) (hdb : (x == ("__debug__" : Str)) = false := by decide)
    (he : starEach (e :: es) X.env = (false, eval e X.env) :: starEach es X.env := by rfl) (hpl : (backTo pos (starEach es X.env)).any (·.1) = false := by rfl) : PE X (.Call (.Name x p) (e :: es) [] pos) (LEX cl Z E xp (wXcall wf xp wl)) := by
  obtain ⟨f, fd, G, hm, hk, bi⟩ := c
  rw [← hK] at G hk bi
  refine peW (pe_call G (hr.mono hjk) hg hm hk bi .nil (E := E) (L2N.passes_call tk fun _ _ _ _ h => h) ha hdb he hpl) fun σ H Q h => ?_
  obtain ⟨F, B, P, ρ, post, a, w, k, kx⟩ := h
  refine ⟨F, B, P, ρ, _, a, w, fun F1 B1 H1 vs xs e1 w1 r1 p1 => ?_⟩
  obtain ⟨ds, rfl, q⟩ := p1
  refine ⟨F1, B1, ds, _, xp, w1, ?_, q, fun F2 B2 H2 v d e2 w2 r2 p2 => k _ _ _ _ (.fr d) (e1.then e2) w2 r2 p2, KR.back kx e1⟩
  rw [List.append_nil]
  exact XRs.fr r1
theorem qsX_expr (he : PE X e (LEX cl Z E xp we)) (hs : swapsWith e none pos.line X.env = pure false := by rfl) : PS X (.Expr e pos) (LSX cl Z E xp (wsExpr we)) := psW (ps_expr he hs) fun Dd σ H h => by
  obtain ⟨F, B, P, ρ, W, a, w, kn, kr, kb, kc, kx⟩ := h
  exact ⟨F, B, P, ρ, _, a, w, fun F1 B1 H1 v x e1 w1 r1 p1 => kn _ _ _ _ _ (a.rebase e1) (a.step e1 w1) p1, KR.dm kx a.pd⟩
theorem qsX_ret (he : PE X e (LEX cl Z E xp we)) : PS X (.Return (some e) pos) (LSX cl Z E xp (wsRet we)) := psW (ps_ret he) fun Dd σ H h => by
  obtain ⟨F, B, P, ρ, W, a, w, kn, kr, kb, kc, kx⟩ := h
  refine ⟨F, B, P, ρ, _, a, w, fun F1 B1 H1 v x e1 w1 r1 p1 => ?_, KR.dm kx a.pd⟩
  obtain ⟨F2, e2, w2, r2⟩ := out_of w1 r1
  exact kr _ _ _ _ _ ((a.rebase e1).trans e2) w2 r2 p1
end
/-! ### defs that raise -/
theorem fn_readsX {cl : Nat → Addr} {Z : Par} {N : List Str} {ws : (XV → Prop) → WS} {wf : WFnX} (hd : ∀ ds post xp, wf ds post xp → ws xp { nx := fun _ => post .none, rt := post } (startR N.length ds)) {vs : List V} {H : Hp} {Q : VK} {E : XK} (h : LFX cl Z wf vs H Q E) : ∃ xp, LSX cl Z E xp (ws xp) { nx := fun _ H' => Q .non H', rt := Q } (L2.start N vs) H := by
  obtain ⟨F, B, ds, post, xp, wF, r, p, k, kx⟩ := h
  exact ⟨xp, F, B, dm H, _, _, ⟨wF, start_rs r, fun _ h => h⟩, hd ds post xp p, fun F1 B1 H1 σ1 ρ1 e1 a1 p1 => k _ _ _ _ _ e1 a1.wf .non p1, fun F1 B1 H1 v d e1 w1 r1 p1 => k _ _ _ _ _ e1 w1 r1 p1, fun _ _ _ _ _ _ _ z => z.elim, fun _ _ _ _ _ _ _ z => z.elim, kx⟩
section
variable {cl : Nat → Addr} {P : Program} {w : World} {Z : Par} {mg : Str → Option Value} {base : Heap}
/-- as Fun.okX, for errors whose context is None -/
theorem fun_okN {x qual : Str} {st : Stmt} {f : Addr} {fd : FuncData} {N ps : List Str} {k : Nat} {sp : Sp} (F : Fun Z.K x qual st f fd) (S : FnScope N ps (defScope st)) (len : ∀ vs H Q E, sp vs H Q E → vs.length = ps.length)
    (hb : ∀ (cdv : Value) (A : Around) (outer : List Env) (s : Shared) (H : Hp) (vs : List V) (Q : VK) (E : XK), Room k (A.deeper (envOfC qual (defScope st) s.heap.objs.size f cdv)) → sp vs H Q E →
      ∃ t, PSs (cxOf (L2N.CX P w) P w Z.K mg base N qual (defScope st) f cdv A outer s H E) (defBody st) t ∧ t { nx := fun _ H' => Q .non H', rt := Q } (L2.start N vs) H) : FnOk P w Z.K mg base (L2N.CX P w) (k + 1) f fd ps sp := by
  obtain ⟨oc, od, kV, doc, pm, an, cdv, ct, osl, rfl, lk, hcd⟩ := F.ex
  exact fn_of lk hcd S len fun A outer s H vs Q E hr h => hb cdv A outer s H vs Q E hr h
theorem Def.calX {x : Str} {st : Stmt} {ps N : List Str} {k : Nat} {ws : (XV → Prop) → WS} {wf : WFnX} (d : Def Z.K mg x st ps) (S : FnScope N ps (defScope st)) (len : ∀ ds post xp, wf ds post xp → ds.length = ps.length)
    (hb : ∀ (f : Addr) (cdv : Value) (A : Around) (outer : List Env) (s : Shared) (H : Hp) (E : XK) (xp : XV → Prop), Room k (A.deeper (envOfC x (defScope st) s.heap.objs.size f cdv)) → PSs (cxOf (L2N.CX P w) P w Z.K mg base N x (defScope st) f cdv A outer s H E) (defBody st) (LSX cl Z E xp (ws xp)))
    (hd : ∀ ds post xp, wf ds post xp → ws xp { nx := fun _ => post .none, rt := post } (startR N.length ds)) : CalX cl Z P w mg base (k + 1) x ps wf := by
  obtain ⟨f, fd, F, hm, bi⟩ := d
  refine ⟨f, fd, fun_okN F S (fun vs H Q E h => ?_) (fun cdv A outer s H vs Q E hr h => ?_), hm, F.kp, bi⟩
  · obtain ⟨F, B, ds, post, xp, _, r, p, _⟩ := h
    rw [r.length]
    exact len ds post xp p
  · obtain ⟨xp, q⟩ := fn_readsX (N := N) hd h
    exact ⟨_, hb f cdv A outer s H E xp hr, q⟩
end
end DL

/-! What the suite of a handled error tells: which class. -/
namespace RF
open PySem PySem.Spec PyProof.Rows L2 RH
def Ext (H H' : Hp) : Prop := ∀ b o, H b = some o → H' b = some o
theorem Ext.refl (H : Hp) : Ext H H := fun _ _ h => h
theorem Ext.trans {H H1 H2 : Hp} (a : Ext H H1) (b : Ext H1 H2) : Ext H H2 := fun x o h => b x o (a x o h)
theorem Ext.new {H : Hp} {p : Addr} {o : HO} (n : H p = none) : Ext H (upd H p o) := fun b u h => by rw [upd_ne (ne_of_none h n)]; exact h
theorem Ext.back {H H' : Hp} (e : Ext H H') {p : Addr} (n : H' p = none) : H p = none := by
  cases h : H p with
  | none => rfl
  | some o => rw [e p o h] at n; cases n
/-- pairs of a name and a truth -/
inductive PairsAt (H : Hp) : List V → List (Str × Bool) → Prop
  | nil : PairsAt H [] []
  | cons {t : Addr} {n : Str} {b : Bool} {vs : List V} {ps : List (Str × Bool)} : H t = some (.tup [.str n, .bl b]) → PairsAt H vs ps → PairsAt H (.ref t :: vs) ((n, b) :: ps)
theorem PairsAt.ext {H H' : Hp} (e : Ext H H') : ∀ {vs : List V} {ps : List (Str × Bool)}, PairsAt H vs ps → PairsAt H' vs ps
  | _, _, .nil => .nil
  | _, _, .cons h r => .cons (e _ _ h) (PairsAt.ext e r)
theorem PairsAt.append {H : Hp} : ∀ {vs us : List V} {ps qs : List (Str × Bool)}, PairsAt H vs ps → PairsAt H us qs → PairsAt H (vs ++ us) (ps ++ qs)
  | _, _, _, _, .nil, s => s
  | _, _, _, _, .cons h r, s => .cons h (PairsAt.append r s)
theorem PairsAt.length {H : Hp} : ∀ {vs : List V} {ps : List (Str × Bool)}, PairsAt H vs ps → vs.length = ps.length
  | _, _, .nil => rfl
  | _, _, .cons _ r => by simp [PairsAt.length r]
theorem PairsAt.get {H : Hp} : ∀ {vs : List V} {ps : List (Str × Bool)} {i : Nat} {v : V}, PairsAt H vs ps → vs[i]? = some v → ∃ t n b, v = .ref t ∧ ps[i]? = some (n, b) ∧ H t = some (.tup [.str n, .bl b])
  | _, _, _, _, .nil, h => by simp at h
  | _, _, 0, _, .cons h _, e => by
    simp at e
    subst e
    exact ⟨_, _, _, rfl, rfl, h⟩
  | _, _, i + 1, _, .cons _ r, e => PairsAt.get (i := i) r (by simpa using e)
/-- the error e stands in slot i -/
def tPair (i : Nat) (a : Addr) (n : Str) (b : Bool) : TE := fun σ H Q => σ[i]? = some (some (.ref a)) ∧ ∀ p, H p = none → Q (.ref p) (upd H p (.tup [.str n, .bl b]))
def tPairs (i : Nat) (a : Addr) (ps : List (Str × Bool)) : TA := fun σ H Q => σ[i]? = some (some (.ref a)) ∧ ∀ vs H', Ext H H' → PairsAt H' vs ps → Q vs H'
def tNewL (i : Nat) (a : Addr) (ps : List (Str × Bool)) : TE := fun σ H Q => σ[i]? = some (some (.ref a)) ∧ ∀ l vs H', Ext H H' → H l = none → H' l = some (.lst vs) → PairsAt H' vs ps → Q (.ref l) H'
section
variable {X : Cx} {i : Nat} {a D : Addr} {oe : Obj} {pn : List (Addr × Obj)} {e n : Str}
/-- isinstance(e, C) -/
theorem pe_isE {c : Expr} {cv : V} {b : Bool} {u : Value} {p2 p3 p5 : Pos} (hN : X.N[i]? = some e) (hv : Vis X.env.scope e) (hmi : X.mg "isinstance" = none) (hg : Gl X "isinstance") (C : ExcC X.K D) (hz : Zc (.ref D) none oe) (hf : ∃ vs, oe.data = .fields vs)
    (hc : PE (X.suite a ((a, oe) :: pn)) c (tC cv)) (hcv : ∀ z, RelV cv z → z = u) (kit : PySem.W.kitOne X.K (.ref D) u = some b) (hd : (e == ("__debug__" : Str)) = false) (hcd : (e == ("__classdict__" : Str)) = false)
    (h1 : starEach [.Name e p3, c] X.env = (false, eval (.Name e p3) X.env) :: starEach [c] X.env) (h2 : starEach [c] X.env = (false, eval c X.env) :: starEach [] X.env) (h3 : (backTo p5 (starEach [c] X.env)).any (·.1) = false) :
    PE (X.suite a ((a, oe) :: pn)) (.Call (.Name "isinstance" p2) [.Name e p3, c] [] p5) (fun σ H Q => σ[i]? = some (some (.ref a)) ∧ Q (.bl b) H) :=
  DL.peW (pe_callB (X := X.suite a ((a, oe) :: pn)) (call_isE C hz hf) hg hmi (by decide +kernel) (pa_cons (pe_var (X := X.suite a ((a, oe) :: pn)) (i := i) hN hv hd hcd) (pa_cons hc pa_nil h2) h1) (by decide) (by decide) h1 h3) fun σ H Q h =>
    ⟨.ref a, h.1, cv, u, b, rfl, hcv, kit, h.2⟩
theorem pe_pair {C : Addr} {b : Bool} {j k : Nat} {p1 p2 p3 p4 p5 p6 : Pos} (hN : X.N[i]? = some e) (hv : Vis X.env.scope e) (hmi : X.mg "isinstance" = none) (hg : Gl X "isinstance") (E : ExcC X.K D) (hz : Zc (.ref D) none oe) (hf : ∃ vs, oe.data = .fields vs)
    (hm : X.mg n = some (.ref C)) (hgn : Gl X n) (kit : PySem.W.kitOne X.K (.ref D) (.ref C) = some b) (hd : (e == ("__debug__" : Str)) = false := by decide) (hcd : (e == ("__classdict__" : Str)) = false := by decide) (hdn : (n == ("__debug__" : Str)) = false := by decide)
    (h1 : starEach [.Name e p3, .Name n p4] X.env = (false, eval (.Name e p3) X.env) :: starEach [.Name n p4] X.env := by rfl) (h2 : starEach [.Name n p4] X.env = (false, eval (.Name n p4) X.env) :: starEach [] X.env := by rfl) (h3 : (backTo p5 (starEach [.Name n p4] X.env)).any (·.1) = false := by rfl)
    (h4 : starEach [.Constant (.str n) j p1, .Call (.Name "isinstance" p2) [.Name e p3, .Name n p4] [] p5] X.env = (false, eval (.Constant (.str n) j p1) X.env) :: starEach [.Call (.Name "isinstance" p2) [.Name e p3, .Name n p4] [] p5] X.env := by rfl)
    (h5 : starEach [.Call (.Name "isinstance" p2) [.Name e p3, .Name n p4] [] p5] X.env = (false, eval (.Call (.Name "isinstance" p2) [.Name e p3, .Name n p4] [] p5) X.env) :: starEach [] X.env := by rfl) :
    PE (X.suite a ((a, oe) :: pn)) (.Tuple [.Constant (.str n) j p1, .Call (.Name "isinstance" p2) [.Name e p3, .Name n p4] [] p5] k p6) (tPair i a n b) :=
  DL.peW (pe_tup (X := X.suite a ((a, oe) :: pn)) (pa_cons pe_str (pa_cons (pe_isE (u := .ref C) (cv := .ref C) hN hv hmi hg E hz hf (pe_glob (X := X.suite a ((a, oe) :: pn)) (v := .ref C) hgn hm rfl hdn) (fun _ h => h) kit hd hcd h1 h2 h3) pa_nil h5) h4)) fun σ H Q h =>
    ⟨h.1, by show 2 ≤ sizeLine; decide, h.2⟩
variable {Y : Cx}
theorem pa_pairs_nil : PA Y [] (tPairs i a []) := DL.paW pa_nil fun σ H Q h => h.2 [] H (Ext.refl H) .nil
theorem pa_pairs_cons {x : Expr} {xs : List Expr} {b : Bool} {ps : List (Str × Bool)} (h1 : PE Y x (tPair i a n b)) (h2 : PA Y xs (tPairs i a ps)) (hs : starEach (x :: xs) Y.env = (false, eval x Y.env) :: starEach xs Y.env := by rfl) : PA Y (x :: xs) (tPairs i a ((n, b) :: ps)) :=
  DL.paW (pa_cons h1 h2 hs) fun σ H Q h => ⟨h.1, fun p hp => ⟨h.1, fun vs H' e pa => h.2 _ H' ((Ext.new hp).trans e) (.cons (e _ _ upd_same) pa)⟩⟩
theorem pe_newL {xs : List Expr} {ps : List (Str × Bool)} {pos : Pos} (h : PA Y xs (tPairs i a ps)) (hl : ps.length ≤ 1000) : PE Y (.List xs pos) (tNewL i a ps) :=
  DL.peW (pe_lst h) fun σ H Q hq => ⟨hq.1, fun vs H' e pa => ⟨by rw [pa.length]; exact DL.sz (by omega), fun l hn => hq.2 l vs _ (e.trans (Ext.new hn)) (e.back hn) upd_same (pa.ext (Ext.new hn))⟩⟩
/-- the state behind a statement: the list in slot j, new since H0 -/
structure WSt (i j : Nat) (a : Addr) (ps : List (Str × Bool)) (σ0 : L2.St) (H0 : Hp) (σ : L2.St) (H : Hp) : Prop where
  er : σ[i]? = some (some (.ref a))
  wd : ∃ l vs, σ = σ0.set j (some (.ref l)) ∧ σ[j]? = some (some (.ref l)) ∧ H l = some (.lst vs) ∧ PairsAt H vs ps ∧ H0 l = none
  ex : Ext H0 H
variable {j : Nat} {x : Str} {ex : Expr} {exs : List Expr} {ps qs : List (Str × Bool)} {pos p1 p2 p3 p4 : Pos}
/-- words = [..] -/
theorem ps_words0 (σ0 : L2.St) (H0 : Hp) (hij : i ≠ j) (hN : Y.N.Nodup) (hj : Y.N[j]? = some x) (hx : Loc Y.env.scope x) (hxl : Y.env.scope.names.lookup x = some .local) (hl : ps.length ≤ 1000) (h : PA Y exs (tPairs i a ps)) (hs : swapsWith (.List exs p1) (some (.Name x p2)) pos.line Y.env = pure false := by rfl) :
    PS Y (.Assign [.Name x p2] (.List exs p1) pos) (fun D σ H => σ = σ0 ∧ H = H0 ∧ j < σ0.length ∧ σ0[i]? = some (some (.ref a)) ∧ ∀ σ' H', WSt i j a ps σ0 H0 σ' H' → D.nx σ' H') :=
  DL.psW (ps_set hN hj hx (pe_newL h hl) hs (.inr hxl)) fun D σ H q => by
    obtain ⟨rfl, rfl, hlt, he, k⟩ := q
    exact ⟨he, fun l vs H' e hn hv pa => k _ _ ⟨by rw [List.getElem?_set_ne (Ne.symm hij)]; exact he, ⟨l, vs, rfl, List.getElem?_set_self hlt, hv, pa, hn⟩, e⟩⟩
/-- words = words + [..] -/
theorem ps_words1 (σ0 : L2.St) (H0 : Hp) (hij : i ≠ j) (hN : Y.N.Nodup) (hj : Y.N[j]? = some x) (hx : Loc Y.env.scope x) (hvx : Vis Y.env.scope x) (hxl : Y.env.scope.names.lookup x = some .local) (hl : ps.length + qs.length ≤ 1000) (h : PA Y exs (tPairs i a qs)) (hd : (x == ("__debug__" : Str)) = false := by decide) (hcd : (x == ("__classdict__" : Str)) = false := by decide)
    (hs : swapsWith (.BinOp (.Name x p1) .Add (.List exs p4) p3) (some (.Name x p2)) pos.line Y.env = pure false := by rfl) :
    PS Y (.Assign [.Name x p2] (.BinOp (.Name x p1) .Add (.List exs p4) p3) pos) (fun D σ H => WSt i j a ps σ0 H0 σ H ∧ ∀ σ' H', WSt i j a (ps ++ qs) σ0 H0 σ' H' → D.nx σ' H') :=
  DL.psW (ps_set hN hj hx (pe_op op_cat (pe_var hj hvx hd hcd) (pe_newL h (by omega))) hs (.inr hxl)) fun D σ H q => by
    obtain ⟨⟨he, ⟨l, vs, hσ, hw, hv, pa, hn⟩, ex⟩, k⟩ := q
    refine ⟨_, hw, he, fun l2 us H' e hn2 hv2 pa2 => ⟨l, l2, vs, us, rfl, rfl, e _ _ hv, hv2, by rw [pa.length, pa2.length]; exact DL.sz (by omega), fun m hm => ?_⟩⟩
    have em : Ext H' (upd H' m (.lst (vs ++ us))) := Ext.new hm
    refine k _ _ ⟨by rw [List.getElem?_set_ne (Ne.symm hij)]; exact he, ⟨m, vs ++ us, by rw [hσ, List.set_set], List.getElem?_set_self (List.getElem?_eq_some_iff.mp hw).1, upd_same, ((pa.ext e).append pa2).ext em, (ex.trans e).back hm⟩, (ex.trans e).trans em⟩
/-- words.append(..) -/
theorem ps_words2 (σ0 : L2.St) (H0 : Hp) {b : Bool} (hvx : Vis Y.env.scope x) (hj : Y.N[j]? = some x) (hl : ps.length ≤ 1000) (h : PE Y ex (tPair i a n b)) (hd : (x == ("__debug__" : Str)) = false := by decide) (hcd : (x == ("__classdict__" : Str)) = false := by decide)
    (hbm : PE Y (.Call (.Attribute (.Name x p1) "append" p2) [ex] [] p3) (tBM Y.K "list" rAppend (tVar j) (tCons (tPair i a n b) tNil))) (hs : swapsWith (.Call (.Attribute (.Name x p1) "append" p2) [ex] [] p3) none pos.line Y.env = pure false := by rfl) :
    PS Y (.Expr (.Call (.Attribute (.Name x p1) "append" p2) [ex] [] p3) pos) (fun D σ H => WSt i j a ps σ0 H0 σ H ∧ ∀ σ' H', WSt i j a (ps ++ [(n, b)]) σ0 H0 σ' H' → D.nx σ' H') :=
  DL.psW (ps_expr hbm hs) fun D σ H q => by
    obtain ⟨⟨he, ⟨l, vs, hσ, hw, hv, pa, hn⟩, ex⟩, k⟩ := q
    refine ⟨_, hw, .inl ⟨rfl, vs, SqL.of hv⟩, he, fun p hp => ⟨l, vs, _, rfl, rfl, ?_, DL.szl (by rw [pa.length]; omega), ?_⟩⟩
    · rw [upd_ne (ne_of_none hv hp)]
      exact hv
    · have pl : p ≠ l := fun z => by rw [z, hv] at hp; cases hp
      have e2 : Ext H0 (upd (upd H p (.tup [.str n, .bl b])) l (.lst (vs ++ [.ref p]))) := fun b' o h' => by
        rw [upd_ne (fun z => by rw [z, hn] at h'; cases h')]
        exact Ext.new hp _ _ (ex _ _ h')
      have pa2 : PairsAt (upd (upd H p (.tup [.str n, .bl b])) l (.lst (vs ++ [.ref p]))) vs ps := by
        have g : ∀ {us : List V} {rs : List (Str × Bool)}, PairsAt H us rs → PairsAt (upd (upd H p (.tup [.str n, .bl b])) l (.lst (vs ++ [.ref p]))) us rs := fun {us rs} z => by
          induction z with
          | nil => exact .nil
          | @cons t n' b' us rs ht _ ih =>
            refine .cons ?_ ih
            rw [upd_ne (fun z => by rw [z, hv] at ht; cases ht)]
            exact Ext.new hp _ _ ht
        exact g pa
      exact k _ _ ⟨he, ⟨l, vs ++ [.ref p], hσ, hw, upd_same, pa2.append (.cons (by rw [upd_ne pl, upd_same]) .nil), hn⟩, e2⟩
end
end RF

/-! The suite's last statement. -/
namespace RF
open PySem PySem.Spec PyProof.Rows L2 RH
def told (ps : List (Str × Bool)) : List Str := ps.filterMap fun q => if q.2 = true then some q.1 else none
theorem told_take {ps : List (Str × Bool)} {k : Nat} {n : Str} {b : Bool} (h : ps[k]? = some (n, b)) : told (ps.take (k + 1)) = told (ps.take k) ++ if b = true then [n] else [] := by
  unfold told
  rw [List.take_add_one, h, List.filterMap_append]
  cases b <;> rfl
section
variable {Y : Cx} {i j kk wd th : Nat} {a : Addr} {y : Str} {lc e2 : Expr} {ps : List (Str × Bool)} {pos p1 p2 p3 : Pos}
/-- kin = [word for word, there in words if there] + [isinstance(e, ValueError)] -/
theorem ps_kin (σ0 : L2.St) (H0 : Hp) (d1 : i ≠ wd) (d2 : i ≠ th) (d3 : wd ≠ th) (hN : Y.N.Nodup) (hk : Y.N[kk]? = some y) (hx : Loc Y.env.scope y) (hxl : Y.env.scope.names.lookup y = some .local) (hl : ps.length ≤ 1000)
    (hlc : PE Y lc (tLcH Y.K (tVar j) 2 (gCons (gName wd) (gCons (gName th) gNil)) (tB (tVar th)) (tVar wd) [wd, th])) (he : PE Y e2 (fun σ H Q => σ[i]? = some (some (.ref a)) ∧ Q (.bl true) H))
    (hs1 : starEach [e2] Y.env = (false, eval e2 Y.env) :: starEach [] Y.env := by rfl) (hs : swapsWith (.BinOp lc .Add (.List [e2] p1) p2) (some (.Name y p3)) pos.line Y.env = pure false := by rfl) :
    PS Y (.Assign [.Name y p3] (.BinOp lc .Add (.List [e2] p1) p2) pos) (fun D σ H => WSt i j a ps σ0 H0 σ H ∧ wd < σ.length ∧ th < σ.length ∧ ∀ p H', Ext H0 H' → H0 p = none → H' p = some (.lst ((told ps).map V.str ++ [.bl true])) → D.nx (σ.set kk (some (.ref p))) H') :=
  DL.psW (ps_set hN hk hx (pe_op op_cat hlc (pe_lst (pa_cons he pa_nil hs1))) hs (.inr hxl)) fun D σ H q => by
    obtain ⟨⟨hei, ⟨l, vs, hσ, hw, hv, pa, hn⟩, ex⟩, lw, lt, k⟩ := q
    have hlen := pa.length
    refine ⟨_, hw, l, vs, rfl, SqL.of hv, fun D' nD => ⟨fun m H' => Ext H H' ∧ H' D' = some (.lst ((told (ps.take m)).map V.str)), ⟨Ext.new nD, upd_same⟩, fun m H' h => SqL.of (h.1 _ _ hv), fun m x H' hxm h => ?_, fun H' h => ?_⟩⟩
    · obtain ⟨t, n, b, rfl, hp, ht⟩ := pa.get hxm
      obtain ⟨h1, h2⟩ := h
      refine ⟨t, _, rfl, SqT.of (h1 _ _ ht), rfl, .str n, [.bl b], rfl, .bl b, [], rfl, rfl, ?_⟩
      refine ⟨DL.wipe_out ⟨by simp, fun z hz => ?_⟩, .bl b, ?_, b, rfl, ?_⟩
      · have z1 : wd ≠ z := fun e => hz (by rw [e]; simp)
        have z2 : th ≠ z := fun e => hz (by rw [e]; simp)
        rw [List.getElem?_set_ne z2, List.getElem?_set_ne z1]
      · rw [List.getElem?_set_self (by simp [wipe]; exact lt)]
      · have hacc := told_take hp
        have small : (told (ps.take m)).length < sizeLine := by
          have : (told (ps.take m)).length ≤ (ps.take m).length := List.length_filterMap_le ..
          rw [List.length_take] at this
          exact DL.szl (by omega)
        cases b with
        | true =>
          refine iteT ?_
          refine ⟨.str n, ?_, _, h2, by rw [List.length_map]; exact small, ?_, ?_⟩
          · rw [List.getElem?_set_ne (Ne.symm d3), List.getElem?_set_self (by simp [wipe]; exact lw)]
          · intro z o hz
            rw [upd_ne (fun e => by rw [e, nD] at hz; cases hz)]
            exact h1 z o hz
          · rw [upd_same, hacc, if_pos rfl, List.map_append]
            rfl
        | false =>
          refine iteF ?_
          refine ⟨h1, ?_⟩
          rw [h2, hacc, if_neg Bool.false_ne_true, List.append_nil]
    · obtain ⟨h1, h2⟩ := h
      rw [hlen, List.take_length] at h2
      refine ⟨hei, DL.sz (show 1 ≤ 100000 by decide), fun m hm => ⟨D', m, _, [.bl true], rfl, rfl, Ext.new hm _ _ h2, upd_same, ?_, fun r hr => ?_⟩⟩
      · have : (told ps).length ≤ ps.length := List.length_filterMap_le ..
        rw [List.length_map]
        exact DL.sz (by simp; omega)
      · exact k r _ (((ex.trans h1).trans (Ext.new hm)).trans (Ext.new hr)) (ex.back (h1.back ((Ext.new hm).back hr))) upd_same
end
end RF

/-! A def that calls what it is handed, and tells the refusal. -/
namespace DL
open PySem PySem.Spec PyProof.Rows L2 RH RF
/-- how the n-th callable is called -/
structure Callee (cl : Nat → Addr) (Z : Par) (P : Program) (w : World) (mg : Str → Option Value) (base : Heap) (k n : Nat) (wf : WFnX) : Prop where
  fn : ∀ (f : Addr) (F H : Hp) (h : Heap), Z.fx F f n → Ex F H → HOk P w H h → Z.K.In h → PySem.W.FnAt f h
  run : ∀ (f : Addr) (F : Hp) (A : Around) (outer : List Env) (s : Shared) (H : Hp) (us : List Value) (vs : List V) (Q : VK) (E : XK), Z.fx F f n → Ex F H → Room k A → Env0 P w Z.K mg base A outer s H → Vals vs us → LFX cl Z wf vs H Q E →
    codeAny (model P w) A (.call (.ref f) ⟨us, []⟩) (CR (L2N.CX P w) outer P w H s Q E) s
theorem Callee.of {cl : Nat → Addr} {Z : Par} {P : Program} {w : World} {mg : Str → Option Value} {base : Heap} {j k n : Nat} {x : Str} {ps : List Str} {wf : WFnX} (c : CalX cl Z P w mg base j x ps wf) (hjk : j ≤ k) (hx : ∀ F f, Z.fx F f n → mg x = some (.ref f)) (hfn : ∀ f, mg x = some (.ref f) → ∃ oc od fd sl, Z.K.lookup f = some ⟨oc, od, .func fd, sl⟩) : Callee cl Z P w mg base k n wf := by
  obtain ⟨f, fd, G, hm, hk, bi⟩ := c
  refine ⟨fun f' F H h z e hok hK => ?_, fun f' F A outer s H us vs Q E z e hr e0 r q => ?_⟩
  · obtain ⟨oc, od, fd, sl, e⟩ := hfn f' (hx F f' z)
    exact ⟨oc, od, fd, sl, hK _ _ e⟩
  · have e1 := hx F f' z
    rw [hm] at e1
    have e2 : f = f' := by
      injection e1 with e1
      injection e1
    subst e2
    have hl : us.length = ps.length := by
      rw [← r.length]
      exact G.len _ _ _ _ q
    exact (G.mono hjk).run A outer s H ⟨us, []⟩ us vs Q E hr e0 (by have b := bi s us (e0.mod.kin.keeps fun b o h => (e0.bs b o h).1) (by rw [List.append_nil]; exact hl); simpa using b) r q
def tCallV (cl : Nat → Addr) (Z : Par) (Sx : Nat → WFnX) (i : Nat) (E : L2.St → XK) (t : TA) : TE := fun σ H Q => ∃ f F n, σ[i]? = some (some (.ref f)) ∧ Z.fx F f n ∧ Ex F H ∧ t σ H fun vs H1 => Ex F H1 ∧ LFX cl Z (Sx n) vs H1 Q (E σ)
section
variable {cl : Nat → Addr} {Z : Par} {Sx : Nat → WFnX} {X : Cx} {k i : Nat} {x : Str} {p pos : Pos} {e : Expr} {es : List Expr} {t : TA} {W : WX}
theorem pe_callV (hK : X.K = Z.K) (C : ∀ n, Callee cl Z X.prog X.w X.mg X.base k n (Sx n)) (tk : L2N.Takes X W) (hr : Room k X.A) (hN : X.N[i]? = some x) (hv : Vis X.env.scope x) (ha : PA X (e :: es) t) (hdb : (x == ("__debug__" : Str)) = false := by decide) (hcd : (x == ("__classdict__" : Str)) = false := by decide)
    (he : starEach (e :: es) X.env = (false, eval e X.env) :: starEach es X.env := by rfl) (hpl : (backTo pos (starEach es X.env)).any (·.1) = false := by rfl) : PE X (.Call (.Name x p) (e :: es) [] pos) (tCallV cl Z Sx i (L2.WE W) t) := by
  refine ⟨fun pins s σ H Q I h => ?_⟩
  obtain ⟨f, F, n, hs, hz, hF, ht⟩ := h
  refine wpAny_Call_Name_kw (thn ((pe_var (pos := p) hN hv hdb hcd).run pins s σ H (fun v H1 => v = .ref f ∧ H1 = H) I ⟨.ref f, hs, rfl, rfl⟩) fun u s1 h1 => ?_)
  obtain ⟨v, H1, I1, r1, rfl, eH⟩ := h1
  cases r1
  rw [eH] at I1
  refine PySem.W.callWith_F ((C n).fn f F H s1.heap hz hF I1.hok (hK ▸ I1.kIn)) (thn (ha.run pos pins s1 σ H _ I1 ht) fun us s2 h2 => ?_) he hpl
  obtain ⟨vs, H2, I2, r2, hF2, q⟩ := h2
  refine ⟨(C n).fn f F H2 s2.heap hz hF2 I2.hok (hK ▸ I2.kIn), ?_⟩
  have e0 := I2.env0
  rw [hK] at e0
  refine wpAny_call (codeAny_mono ((C n).run f F X.A X.stack s2 H2 us vs Q (L2.WE W σ) hz hF2 hr e0 r2 q) fun r s' hq => ?_)
  cases r with
  | error e => exact (L2N.passAt tk σ) pins H2 s2 e s' I2 hq
  | ok fl =>
    cases fl with
    | ret u => exact I2.after hq
    | next => exact False.elim hq
    | brk => exact False.elim hq
    | cont => exact False.elim hq
/-- a block that is never reached -/
theorem pss_no {st : List Stmt} : PSs X st (fun _ _ _ => False) := ⟨fun _ _ _ _ _ _ h => h.elim⟩
theorem pss_or {ι : Type} {C : ι → Prop} {st : List Stmt} {t : ι → TS} (h : ∀ i, C i → PSs X st (t i)) : PSs X st (fun D σ H => ∃ i, C i ∧ t i D σ H) := ⟨fun pins s σ H D I q => by
  obtain ⟨i, c, q⟩ := q
  exact (h i c).run pins s σ H D I q⟩
end
/-! ### names of errors -/
def errNm : Nat → Str
  | 0 => "NoCards" | 1 => "NoPurse" | 2 => "NoStamps" | 3 => "NoRow" | 4 => "NoNumber" | 5 => "NoPurses" | 6 => "NoSeen" | 7 => "NoRide" | 8 => "NoKind" | 9 => "NoLoan" | 10 => "NothingLeft" | _ => "TooFew"
def kinD (x : XV) : List D := match x.f with
  | none => [.str (errNm x.c), .bool true]
  | some v => [.str "TooFew", v, .bool true]
def XOk (live : Nat → Prop) (x : XV) : Prop := live x.c ∧ x.f.isSome = decide (x.c = 11)
def wf_refused (Sx : Nat → WFnX) (live : Nat → Prop) : WFn := fun ds post => ∃ n a b c, ds = [fxD n, a, b, c] ∧ Sx n [a, b, c] (fun _ => post (.list [])) (fun x => XOk live x ∧ post (.list (kinD x)))
theorem len_refused (Sx : Nat → WFnX) (live : Nat → Prop) : ∀ ds post, wf_refused Sx live ds post → ds.length = 4 := by
  rintro ds post ⟨n, a, b, c, rfl, _⟩
  rfl
/-- new objects beside a world -/
theorem world_ext {Z : Par} {F H H' : Hp} {B : Addr → Prop} {p : Addr} {vs : List V} {ds : List D} (w : Wf Z F B H) (e : RF.Ext H H') (n : H p = none) (h : H' p = some (.lst vs)) (r : RepAll Z F B vs ds) : ∃ F', Le (dm H) F B H F' B H' ∧ Wf Z F' B H' ∧ Rep Z F' B (.ref p) (.list ds) := by
  have fp : F p = none := Evl.fresh_back w.ex n
  have ex : Ex F (upd F p (.lst vs)) := Evl.Ex.new fp
  refine ⟨upd F p (.lst vs), ⟨ex, fun _ h => h, fun a o _ _ q => e a o q, fun a q z => ?_, fun a q z => ?_, fun _ _ h => h⟩, ⟨fun a u q => ?_, fun b hb => ?_, w.tabs⟩, .lst upd_same (r.mono ex fun _ h => h)⟩
  · cases hq : H a with
    | none => exact q hq
    | some o => rw [e a o hq] at z; cases z
  · rw [upd_ne (fun y => q (by rw [y]; exact n))]
    exact z
  · by_cases ha : a = p
    · subst ha
      rw [upd_same] at q
      rw [h]
      exact q
    · rw [upd_ne ha] at q
      exact e a u (w.ex a u q)
  · obtain ⟨b1, b2⟩ := w.bags b hb
    obtain ⟨⟨o, ho⟩, _⟩ := id b2
    exact ⟨by rw [upd_ne (ne_of_none ho n)]; exact b1, b2.mono ex (by rw [ho, e b o ho])⟩
/-- a new object that nothing protects -/
theorem lay {Z : Par} {F H : Hp} {B : Addr → Prop} {p : Addr} {o : HO} (w : Wf Z F B H) (n : H p = none) : Wf Z F B (upd H p o) ∧ Le (dm H) F B H F B (upd H p o) := by
  have fp : F p = none := Evl.fresh_back w.ex n
  refine ⟨⟨w.ex.mut fp, fun b hb => ?_, w.tabs⟩, ⟨Evl.Ex.refl F, fun _ h => h, fun a u _ _ e => by rw [upd_ne (ne_of_none e n)]; exact e, fun a q => ?_, fun _ _ h => h, fun _ _ h => h⟩⟩
  · obtain ⟨b1, b2⟩ := w.bags b hb
    exact ⟨b1, b2.mono (Evl.Ex.refl F) (upd_ne fun z => w.bagNew n (by rw [← z]; exact hb))⟩
  · by_cases ha : a = p
    · subst ha
      rw [upd_same]
      exact fun z => nomatch z
    · rw [upd_ne ha]
      exact q
abbrev Sl2 := L2.St
/-- what the suite of the named error makes: slot 4 is the answer's -/
def tTold (a : Addr) (i : Nat) : TS := fun D σ H => σ.length = 9 ∧ σ[5]? = some (some (.ref a)) ∧ ∀ p H' (σ' : Sl2), RF.Ext H H' → H p = none → H' p = some (.lst [.str (errNm i), .bl true]) → σ'.length = 9 → σ'[4]? = some (some (.ref p)) → D.nx σ' H'
def ts2 (cl : Nat → Addr) (live : Nat → Prop) : TSu := fun a cls d D σ H => ∃ i, (live i ∧ i < 11 ∧ cls = .ref (cl i) ∧ d = none) ∧ tTold a i D σ H
def tRef (cl : Nat → Addr) (Z : Par) (Sx : Nat → WFnX) (live : Nat → Prop) (rR : Addr) (t1 : TSu) : TS :=
  tSeq (tAsg (tLst tNil) (gName 4)) (tSeq (fun D σ H => tDrop (tCallV cl Z Sx 0 (L2.WE (wMatch Z.K 5 (fun _ _ _ _ => False) D [(.ref (cl 11), t1), (.ref rR, ts2 cl live)])) (tCons (tVar 1) (tCons (tVar 2) (tCons (tVar 3) tNil)))) D σ H) (tRet (tVar 4)))
section
variable {cl : Nat → Addr} {Z : Par} {Sx : Nat → WFnX} {live : Nat → Prop} {rR : Addr} {t1 : TSu}
theorem refused_reads {N : List Str} (hN : N.length = 9) (exT : ∀ i, live i → PySem.W.exmOne Z.K (.ref (cl i)) (.ref (cl 11)) = some (decide (i = 11))) (exR : ∀ i, live i → PySem.W.exmOne Z.K (.ref (cl i)) (.ref rR) = some true) (hlt : ∀ i, live i → i ≤ 11)
    (hT1 : live 11 → ∀ (a dd : Addr) (u : V) (D : Ends) (σ : Sl2) (H : Hp), σ.length = 9 → σ[5]? = some (some (.ref a)) → H dd = some (.xd [(("kind" : Str), u)]) → (∀ p H' (σ' : Sl2), RF.Ext H H' → H p = none → H' p = some (.lst [.str "TooFew", u, .bl true]) → σ'.length = 9 → σ'[4]? = some (some (.ref p)) → D.nx σ' H') → t1 a (.ref (cl 11)) (some dd) D σ H)
    {vs : List V} {H : Hp} {Q : VK} {E : XK} (h : LF Z (wf_refused Sx live) vs H Q E) : tRef cl Z Sx live rR t1 { nx := fun _ H' => Q .non H', rt := Q } (L2.start N vs) H := by
  obtain ⟨F, B, ds, post, wF, r, ⟨n, a, b, c, rfl, hS⟩, k⟩ := h
  cases r with
  | cons r0 r => cases r with
  | cons r1 r => cases r with
  | cons r2 r => cases r with
  | cons r3 r =>
  cases r
  rename_i v0 v1 v2 v3
  obtain ⟨f, rfl, hf⟩ := Rep.fx_inv r0
  have hst : L2.start N [.ref f, v1, v2, v3] = [some (.ref f), some v1, some v2, some v3, none, none, none, none, none] := by
    unfold L2.start
    rw [hN]
    rfl
  rw [hst]
  refine ⟨by show 0 ≤ sizeLine; decide, fun l hl => ?_⟩
  obtain ⟨w1, e1⟩ := lay (o := .lst []) wF hl
  have nB : ¬ B l := wF.bagNew hl
  have nF : F l = none := Evl.fresh_back wF.ex hl
  have dl : dm (upd H l (.lst [])) l := by
    unfold dm
    rw [upd_same]
    exact fun q => nomatch q
  refine ⟨f, F, n, rfl, hf, w1.ex, _, rfl, _, rfl, _, rfl, w1.ex, F, B, [a, b, c], _, _, w1, .cons r1 (.cons r2 (.cons r3 .nil)), hS, fun F' B' H' v d e w' _ p => ?_, fun F' B' H' cc d x e w' rx p => ?_⟩
  · -- it ran through
    have hl' : H' l = some (.lst []) := e.hp l _ dl nB upd_same
    have o : OwnAt Z F' B' H' l [] := ⟨e.nf l dl nF, fun z => nB (e.nb l dl z), [], hl', .nil⟩
    obtain ⟨e2, w2⟩ := frz_le (P := dm H) w' o (fun z => z hl) hl'
    exact ⟨_, rfl, k _ _ _ _ _ ((e1.then e).trans e2) w2 (.lst upd_same .nil) p⟩
  · -- it was refused
    obtain ⟨⟨lv, hf⟩, hp⟩ := p
    obtain ⟨rc, rf⟩ := rx
    have le := hlt _ lv
    have out : ∀ (p : Addr) (us : List V) (H2 : Hp), RF.Ext H' H2 → H' p = none → H2 p = some (.lst us) → RepAll Z F' B' us (kinD x) → Q (.ref p) H2 := fun p us H2 eH nH hH rH => by
      obtain ⟨F2, e2, w2, r2⟩ := world_ext w' eH nH hH rH
      exact k _ _ _ _ _ ((e1.then e).then e2) w2 r2 hp
    by_cases h11 : x.c = 11
    · obtain ⟨xc, xf⟩ := x
      simp only at h11 hf rf rc lv hp
      subst h11
      cases xf with
      | none => cases hf
      | some v =>
        obtain ⟨dd, u, rfl, hd, ru⟩ := rf
        subst rc
        refine ⟨true, by rw [exT 11 lv]; rfl, fun _ a na => hT1 lv a dd u _ _ H' rfl rfl hd fun p H2 σ' eH nH hH hl4 h4 => ?_, fun z => nomatch z⟩
        show tRet (tVar 4) _ (σ'.set 5 none) H2
        refine ⟨.ref p, ?_, out p _ H2 eH nH hH (.cons (.str _) (.cons ru (.cons (.bl true) .nil)))⟩
        rw [List.getElem?_set_ne (by decide)]
        exact h4
    · obtain ⟨xc, xf⟩ := x
      simp only at h11 hf rf rc lv hp le
      cases xf with
      | some v => rw [decide_eq_false h11] at hf; cases hf
      | none =>
        subst rc
        obtain rfl : d = none := rf
        refine ⟨false, by rw [exT xc lv, decide_eq_false h11], (fun z => nomatch z), fun _ => ⟨true, exR xc lv, fun _ a na => ⟨xc, ⟨lv, by omega, rfl, rfl⟩, rfl, rfl, fun p H2 σ' eH nH hH hl4 h4 => ?_⟩, fun z => nomatch z⟩⟩
        show tRet (tVar 4) _ (σ'.set 5 none) H2
        refine ⟨.ref p, ?_, out p _ H2 eH nH hH (.cons (.str _) (.cons (.bl true) .nil))⟩
        rw [List.getElem?_set_ne (by decide)]
        exact h4
end
end DL

/-! The suites put together. -/
namespace DL
open PySem PySem.Spec PyProof.Rows L2 RH RF
structure Errs (K : PySem.W.Frag) (mg : Str → Option Value) (cl : Nat → Addr) (rR : Addr) (live : Nat → Prop) : Prop where
  gT : mg "TooFew" = some (.ref (cl 11))
  gR : mg "RideError" = some (.ref rR)
  nV : mg "ValueError" = none
  g : ∀ j, j < 11 → mg (errNm j) = some (.ref (cl j))
  lt : ∀ i, live i → i ≤ 11
  exT : ∀ i, live i → PySem.W.exmOne K (.ref (cl i)) (.ref (cl 11)) = some (decide (i = 11))
  exR : ∀ i, live i → PySem.W.exmOne K (.ref (cl i)) (.ref rR) = some true
  kit : ∀ i j, live i → i < 11 → j < 11 → PySem.W.kitOne K (.ref (cl i)) (.ref (cl j)) = some (decide (i = j))
  kitV : ∀ i, live i → PySem.W.kitOne K (.ref (cl i)) (.type "ValueError") = some true
  exc : ∀ i, live i → i < 11 → ExcC K (cl i)
theorem takesN0 {X : Cx} : L2N.Takes X (fun _ _ _ _ => False) := fun _ _ x => by
  obtain ⟨_, _, _, _, _, _, _, _, _, _, _, _, _, _, _, _, z⟩ := x
  exact z.elim
theorem pss_at {Y : Cx} {sts : List Stmt} {t : L2.St → Hp → TS} (h : ∀ σ H, PSs Y sts (t σ H)) : PSs Y sts (fun D σ H => t σ H D σ H) := ⟨fun pins s σ H D I q => (h σ H).run pins s σ H D I q⟩
abbrev pr (i j : Nat) : Str × Bool := (errNm j, decide (i = j))
theorem told_all {i : Nat} (h : i < 11) : told [pr i 0, pr i 1, pr i 2, pr i 3, pr i 4, pr i 5, pr i 6, pr i 7, pr i 8, pr i 9, pr i 10] = [errNm i] := by
  match i, h with
  | 0, _ => rfl
  | 1, _ => rfl
  | 2, _ => rfl
  | 3, _ => rfl
  | 4, _ => rfl
  | 5, _ => rfl
  | 6, _ => rfl
  | 7, _ => rfl
  | 8, _ => rfl
  | 9, _ => rfl
  | 10, _ => rfl
  | i + 11, h => exact absurd h (by omega)
section
variable {Y : Cx} {a : Addr} {i : Nat} {s0 s1 s2 s3 s4 s5 s6 s7 : Stmt}
abbrev tW1 (a : Addr) (ps qs : List (Str × Bool)) (σ0 : L2.St) (H0 : Hp) : TS := fun D σ H => WSt 5 6 a ps σ0 H0 σ H ∧ ∀ σ' H', WSt 5 6 a (ps ++ qs) σ0 H0 σ' H' → D.nx σ' H'
theorem told_suite (hi : i < 11)
    (h0 : ∀ σ0 H0, PS Y s0 (fun D σ H => σ = σ0 ∧ H = H0 ∧ 6 < σ0.length ∧ σ0[5]? = some (some (.ref a)) ∧ ∀ σ' H', WSt 5 6 a [pr i 0, pr i 1] σ0 H0 σ' H' → D.nx σ' H'))
    (h1 : ∀ σ0 H0, PS Y s1 (tW1 a [pr i 0, pr i 1] [pr i 2] σ0 H0))
    (h2 : ∀ σ0 H0, PS Y s2 (tW1 a [pr i 0, pr i 1, pr i 2] [pr i 3, pr i 4] σ0 H0))
    (h3 : ∀ σ0 H0, PS Y s3 (tW1 a [pr i 0, pr i 1, pr i 2, pr i 3, pr i 4] [pr i 5, pr i 6] σ0 H0))
    (h4 : ∀ σ0 H0, PS Y s4 (tW1 a [pr i 0, pr i 1, pr i 2, pr i 3, pr i 4, pr i 5, pr i 6] [pr i 7, pr i 8] σ0 H0))
    (h5 : ∀ σ0 H0, PS Y s5 (tW1 a [pr i 0, pr i 1, pr i 2, pr i 3, pr i 4, pr i 5, pr i 6, pr i 7, pr i 8] [pr i 9] σ0 H0))
    (h6 : ∀ σ0 H0, PS Y s6 (tW1 a [pr i 0, pr i 1, pr i 2, pr i 3, pr i 4, pr i 5, pr i 6, pr i 7, pr i 8, pr i 9] [pr i 10] σ0 H0))
    (h7 : ∀ σ0 H0, PS Y s7 (fun D σ H => WSt 5 6 a [pr i 0, pr i 1, pr i 2, pr i 3, pr i 4, pr i 5, pr i 6, pr i 7, pr i 8, pr i 9, pr i 10] σ0 H0 σ H ∧ 7 < σ.length ∧ 8 < σ.length ∧ ∀ p H', Ext H0 H' → H0 p = none → H' p = some (.lst ((told [pr i 0, pr i 1, pr i 2, pr i 3, pr i 4, pr i 5, pr i 6, pr i 7, pr i 8, pr i 9, pr i 10]).map V.str ++ [.bl true])) → D.nx (σ.set 4 (some (.ref p))) H')) :
    PSs Y [s0, s1, s2, s3, s4, s5, s6, s7] (tTold a i) :=
  pssW (pss_at fun σ0 H0 => pss_cons (h0 σ0 H0) (pss_cons (h1 σ0 H0) (pss_cons (h2 σ0 H0) (pss_cons (h3 σ0 H0) (pss_cons (h4 σ0 H0) (pss_cons (h5 σ0 H0) (pss_cons (h6 σ0 H0) (pss_one (h7 σ0 H0))))))))) fun D σ H q => by
    obtain ⟨hl, he, k⟩ := q
    refine ⟨rfl, rfl, by omega, he, fun σ1 H1 w1 => ⟨w1, fun σ2 H2 w2 => ⟨w2, fun σ3 H3 w3 => ⟨w3, fun σ4 H4 w4 => ⟨w4, fun σ5 H5 w5 => ⟨w5, fun σ6 H6 w6 => ⟨w6, fun σ7 H7 w7 => ?_⟩⟩⟩⟩⟩⟩⟩
    have l7 : σ7.length = 9 := by
      obtain ⟨_, ⟨l, vs, e, _⟩, _⟩ := w7
      rw [e, List.length_set]
      exact hl
    refine ⟨w7, by omega, by omega, fun p H' eH nH hH => ?_⟩
    rw [told_all hi] at hH
    exact k p H' _ eH nH hH (by rw [List.length_set]; exact l7) (List.getElem?_set_self (by omega))
end
/-! ### the facts of the error classes -/
theorem allc {P : Nat → Prop} {a : Nat} {l : List Nat} (h : P a) (r : ∀ i ∈ l, P i) : ∀ i ∈ a :: l, P i := List.forall_mem_cons.mpr ⟨h, r⟩
theorem alln {P : Nat → Prop} : ∀ i ∈ ([] : List Nat), P i := fun _ h => nomatch h
theorem lt11 {P : Nat → Prop} (h0 : P 0) (h1 : P 1) (h2 : P 2) (h3 : P 3) (h4 : P 4) (h5 : P 5) (h6 : P 6) (h7 : P 7) (h8 : P 8) (h9 : P 9) (h10 : P 10) : ∀ j, j < 11 → P j
  | 0, _ => h0 | 1, _ => h1 | 2, _ => h2 | 3, _ => h3 | 4, _ => h4 | 5, _ => h5 | 6, _ => h6 | 7, _ => h7 | 8, _ => h8 | 9, _ => h9 | 10, _ => h10
  | j + 11, h => absurd h (by omega)
def liveL (l : List Nat) (i : Nat) : Prop := i ∈ l
section
variable {K : PySem.W.Frag} {C D : Addr} {b : Bool}
theorem kit_mk (h : PySem.W.hasDictIn K C = true) (t : PySem.W.typeIn K (.ref C) = some (.type "type")) (s : PySem.W.subIn K (.ref D) (.ref C) = some b) (e : (Value.ref D == Value.ref C) = true → b = true) : PySem.W.kitOne K (.ref D) (.ref C) = some b := by
  obtain ⟨cd, hc, _⟩ := PySem.W.any_some h
  unfold PySem.W.kitOne
  by_cases q : (Value.ref D == Value.ref C) = true
  · rw [if_pos q, e q]
  · rw [if_neg q]
    unfold PySem.W.kitCls
    have e2 : ((PySem.W.clsIn K C).isSome && PySem.W.typeIn K (.ref C) == some (.type "type")) = true := by rw [hc, t] <;> rfl
    show (if _ = true then _ else none) = some b
    rw [if_pos e2]
    exact s
theorem kit_val (s : PySem.W.subIn K (.ref D) (.type "ValueError") = some true) : PySem.W.kitOne K (.ref D) (.type "ValueError") = some true := by
  unfold PySem.W.kitOne
  rw [if_neg (by intro z; cases z)]
  unfold PySem.W.kitCls
  show (if PySem.W.kitMeta "ValueError" = true then _ else none) = some true
  rw [if_pos (by decide +kernel)]
  exact s
end
/-! ### calls that are known to raise nothing; defs as values; the end -/
def calm (wf : WFnX) : WFn := fun ds post => wf ds post fun _ => False
section
variable {cl : Nat → Addr} {Z : Par} {X : Cx} {wl : WA} {e : Expr} {es : List Expr} {pos p : Pos}
theorem passN0 {E : XK} (h : ∀ c d H, ¬ E c d H) : Passes (L2N.CX X.prog X.w) X E := fun _ _ _ _ _ _ _ q => by
  obtain ⟨_, _, _, _, _, _, _, _, _, _, _, _, z⟩ := q
  exact (h _ _ _ z).elim
theorem qe_callC {k j : Nat} {x : Str} {ps : List Str} {wf : WFnX} (c : CalX cl Z X.prog X.w X.mg X.base k x ps wf) (hK : X.K = Z.K) (hr : Room j X.A) (hjk : k ≤ j) (ha : PA X (e :: es) (LA Z wl)) (hg : Gl X x := by rfl) (hdb : (x == ("__debug__" : Str)) = false := by decide)
    (he : starEach (e :: es) X.env = (false, eval e X.env) :: starEach es X.env := by rfl) (hpl : (backTo pos (starEach es X.env)).any (·.1) = false := by rfl) : PE X (.Call (.Name x p) (e :: es) [] pos) (LE Z (wFcall (calm wf) wl)) := by
  obtain ⟨f, fd, G, hm, hk, bi⟩ := c
  rw [← hK] at G hk bi
  refine peW (pe_call G (hr.mono hjk) hg hm hk bi .nil (E := fun _ _ _ => False) (passN0 fun _ _ _ z => z) ha hdb he hpl) fun σ H Q h => ?_
  obtain ⟨F, B, P, ρ, post, a, w, k⟩ := h
  refine ⟨F, B, P, ρ, _, a, w, fun F1 B1 H1 vs xs e1 w1 r1 p1 => ?_⟩
  obtain ⟨ds, rfl, q⟩ := p1
  refine ⟨F1, B1, ds, _, _, w1, ?_, q, fun F2 B2 H2 v d e2 w2 r2 p2 => k _ _ _ _ (.fr d) (e1.then e2) w2 r2 p2, fun _ _ _ _ _ _ _ _ _ z => z.elim⟩
  rw [List.append_nil]
  exact XRs.fr r1
theorem qe_globV {x : Str} {n : Nat} (v : ∃ f, X.mg x = some (.ref f) ∧ ∀ F, Z.fx F f n) (hg : Gl X x := by rfl) (hd : (x == ("__debug__" : Str)) = false := by decide) : PE X (.Name x pos) (LE Z (wC (fxD n))) := by
  obtain ⟨f, hm, hf⟩ := v
  exact qe_globF hg hm hf hd
end
/-- the defs of these names are values -/
def ZS (K : PySem.W.Frag) (mg : Str → Option Value) (names : List Str) : Par := ⟨K, fun _ f n => ∃ x, names[n]? = some x ∧ mg x = some (.ref f), fun _ h => h, fun _ _ => False⟩
/-- the law's own promise -/
def spL (K : PySem.W.Frag) : Sp := fun vs H Q _ => ∃ (a : Addr) (ns : List Int), vs = [.ref a] ∧ ns.length ≤ 63 ∧ SqL K H a (ns.map V.int) ∧ ∀ H', Q (.bl true) H'
theorem spL_of {Z : Par} (ht : ∀ b q, ¬ Z.tab b q) {wf : WFn} (hw : ∀ (ns : List Int) (post : D → Prop), post (.bool true) → wf [scrD ns] post) {vs : List V} {H : Hp} {Q : VK} {E : XK} (h : spL Z.K vs H Q E) : LF Z wf vs H Q E := by
  obtain ⟨a, ns, rfl, hl, hS, k⟩ := h
  refine ⟨H, fun _ => False, [scrD ns], fun d => d = .bool true, ⟨Evl.Ex.refl H, fun _ h => h.elim, fun b q z => ht b q z⟩, .cons (.scr hS (by omega)) .nil, hw ns _ rfl, fun F' B' H' v d _ _ r e => ?_⟩
  subst e
  rw [Rep.bl_inv r]
  exact k H'
end DL

/-! The data layer's rules: a, b = [..], y where a is a list of the frame's own. -/
namespace DL
open PySem PySem.Spec PyProof.Rows L2
def wsParO (i j : Nat) (wn : WN) (we : WE) : WS := fun W ρ => wn ρ fun ds => we ρ fun x => ∃ d, x = .fr d ∧ W.nx ((ρ.set i (some (.ow ds))).set j (some (.fr d)))
section
variable {Z : Par} {X : Cx} {wn : WN} {we : WE} {i j : Nat} {a b : Expr} {pos : Pos}
theorem s_parO {Dd : Ends} {σ : L2.St} {H : Hp} (h : LS Z (wsParO i j wn we) Dd σ H) : tAsg (tTup (tCons (LN Z wn) (tCons (LE Z we) tNil))) (gTup Z.K 2 (gCons (gName i) (gCons (gName j) gNil))) Dd σ H := by
  obtain ⟨F, B, P, ρ, W, a, w, kn, kr, kb, kc⟩ := h
  refine ⟨F, B, P, ρ, _, a, w, fun F1 B1 H1 l ds e1 w1 n1 o1 p1 => ?_⟩
  have a1 := a.step e1 w1
  refine ⟨F1, B1, P, ρ, _, a1, p1, fun F2 B2 H2 v x e2 w2 r2 p2 => ?_⟩
  obtain ⟨d, rfl, q⟩ := p2
  refine ⟨by show 2 ≤ sizeLine; decide, fun p hp => ?_⟩
  obtain ⟨w3, e3⟩ := lay (o := .tup [.ref l, v]) w2 hp
  have a3 := (a1.step e2 w2).step e3 w3
  have np : ¬ P l := fun z => a.pd l z n1
  have o3 := (o1.mono e2).mono e3
  refine ⟨p, _, rfl, SqT.of upd_same, rfl, .ref l, [v], rfl, v, [], rfl, rfl, ?_⟩
  have rs1 : RS Z F2 B2 (upd H2 p (.tup [.ref l, v])) P (σ.set i (some (.ref l))) (ρ.set i (some (.ow ds))) := a3.rs.setOw i o3 np fun k es _ hk hs => a.rs.fresh n1 k es hk hs
  exact kn _ _ _ _ _ (((a.rebase e1).trans (a1.rebase e2)).trans ((a1.step e2 w2).rebase e3)) ⟨w3, rs1.setFr j (XR.mono (x := .fr d) r2 e3), a3.pd⟩ q
theorem qs_parO (i j : Nat) {x y : Str} {px py pt : Pos} {kt k2 pt2} (hK : X.K = Z.K) (hc : X.calm = true) (hN : X.N.Nodup) (hi : X.N[i]? = some x) (hj : X.N[j]? = some y) (hx : Loc X.env.scope x) (hy : Loc X.env.scope y) (ha : PE X a (LN Z wn)) (hb : PE X b (LE Z we))
    (fx : X.fn x = true ∨ X.env.scope.names.lookup x = some .local := by first | exact .inl rfl | exact .inr rfl) (fy : X.fn y = true ∨ X.env.scope.names.lookup y = some .local := by first | exact .inl rfl | exact .inr rfl)
    (hw : swappedStores [.Tuple [.Name x px, .Name y py] kt pt] (.Tuple [a, b] k2 pt2) X.env = pure none := by rfl) (hs : swapsWithSole [.Tuple [.Name x px, .Name y py] kt pt] (.Tuple [a, b] k2 pt2) pos.line X.env = pure false := by rfl)
    (h1 : (assignEach [.Tuple [.Name x px, .Name y py] kt pt] X.env).map (·.2) = [assign (.Tuple [.Name x px, .Name y py] kt pt) X.env] := by rfl)
    (h2 : starEach [a, b] X.env = (false, eval a X.env) :: starEach [b] X.env := by rfl) (h3 : starEach [b] X.env = (false, eval b X.env) :: starEach [] X.env := by rfl) :
    PS X (.Assign [.Tuple [.Name x px, .Name y py] kt pt] (.Tuple [a, b] k2 pt2) pos) (LS Z (wsParO i j wn we)) := psW (ps_asg (pe_tup (pa_cons ha (pa_cons hb pa_nil h3) h2)) (pg_tup hc (pgs_cons (pg_name hN hi hx fx) (pgs_cons (pg_name hN hj hy fy) pgs_nil))) hs hw h1) fun _ _ _ h => by
  rw [hK]
  exact s_parO h
end
end DL

/-! The data layer's rules: lambdas. -/
namespace DL
open PySem PySem.Spec PyProof.Rows L2 RH RF
open LamX (CodeO TabB)
/-- where a lambda stands in the text -/
structure LamSite where
  q : Str
  params : Arguments
  body : Expr
  scope : Scope
abbrev lamFn (s : LamSite) (pm : Value) (c' : Addr) (ctv : Value) : FuncData := PySem.W.kla_fn "<lambda>" s.q s.params s.body s.scope [] pm (.ref c') ctv
/-- the object at f is a lambda of the site s, its code object at c' -/
def LamO (s : LamSite) (f c' : Addr) : HO := .ext fun h => ∃ pm ctv, h.get? f = some (PySem.W.kla_obj "<lambda>" s.q s.params s.body s.scope [] pm c' ctv)
/-- defs of these names, lambdas of these sites as values; the tables of their makers -/
def ZL (K : PySem.W.Frag) (mg : Str → Option Value) (names : List Str) (sites : Nat → Option LamSite) (tabs : List (Addr × Str)) : Par :=
  ⟨K, fun F f n => (∃ x, names[n]? = some x ∧ mg x = some (.ref f)) ∨ ∃ s c', sites n = some s ∧ F f = some (LamO s f c') ∧ F c' = some (CodeO c' s.q),
    fun e h => h.elim .inl fun ⟨s, c', h1, h2, h3⟩ => .inr ⟨s, c', h1, e _ _ h2, e _ _ h3⟩, fun b q => (b, q) ∈ tabs⟩
theorem clo_nil {cells : List (Str × Addr)} : ∀ {names : List (Str × NameKind)}, (∀ y ∈ names, y.2 ≠ .free) → cloFrom cells names [] = []
  | [], _ => rfl
  | (n, k) :: r, h => by
    unfold cloFrom
    have hk : (k == NameKind.free) = false := by
      have := h (n, k) List.mem_cons_self
      cases k <;> first | rfl | exact absurd rfl this
    rw [hk]
    exact clo_nil fun y hy => h y (List.mem_cons_of_mem _ hy)
section
variable {Z : Par} {X : Cx} {params : Arguments} {body : Expr} {scope : Scope} {pos : Pos} {n : Nat} {s : LamSite} {c P : Addr}
theorem LamO_ok {prog : Program} {w : World} {H : Hp} {h : Heap} {f c' : Addr} {pm ctv : Value} (e : h.get? f = some (PySem.W.kla_obj "<lambda>" s.q s.params s.body s.scope [] pm c' ctv)) : ObjOk prog w H h f (LamO s f c') :=
  ⟨⟨pm, ctv, e⟩, ⟨_, e⟩, fun h1 h2 ⟨pm, ctv, q⟩ st => ⟨pm, ctv, st _ q⟩⟩
theorem qe_lam (hs : s = ⟨X.env.qual ++ "<lambda>", params, body, scope⟩) (TB : TabB X.base X.mg c P) (hcode : X.env.code = .ref c) (ht : Z.tab P s.q) (hu : ∀ q, Z.tab P q → q = s.q) (hdef : defaultsOf params X.env = ([], [])) (hfree : ∀ y ∈ scope.names, y.2 ≠ .free)
    (hfx : ∀ F f c', F f = some (LamO s f c') → F c' = some (CodeO c' s.q) → Z.fx F f n) : PE X (.Lambda params body scope pos) (LE Z (wC (fxD n))) := by
  refine ⟨fun pins s0 σ H Q I h => ?_⟩
  obtain ⟨F, B, Pp, ρ, post, a, p, k⟩ := h
  have hB : B P := a.wf.tabs P _ ht
  obtain ⟨fP, _, _, tab⟩ := a.wf.bags P hB
  obtain ⟨ps, hP, tr, all⟩ := tab _ ht
  refine PySem.W.kla_eval hdef ?_
  have bP : s0.heap.BuiltinsAt X.mg P := TB.bm.keeps I.bk
  have hP' : s0.heap.get? P = some { cls := .none, data := .fields ps } := I.hok P _ hP
  have hclo : closureFor scope X.env = pure [] := by
    rw [closure_ok fun y hy e => absurd e (hfree y hy), clo_nil hfree]
  subst hs
  -- the lambda's own object, tracked from now on
  have fin : ∀ {h' : Heap} {t' : Nat} {F1 H1 : Hp} {c' : Addr} {pm ctv : Value}, Inv X pins σ H1 { s0 with heap := h', toks := t' } → s0.heap.objs.size ≤ h'.objs.size → Le (dm H) F B H F1 B H1 → Wf Z F1 B H1 → F1 c' = some (CodeO c' (X.env.qual ++ "<lambda>")) →
      EP X pins σ Q (.ref h'.objs.size) { s0 with heap := h'.push (PySem.W.kla_obj "<lambda>" (X.env.qual ++ "<lambda>") params body scope [] pm c' ctv), toks := t' } := fun {h' t' F1 H1 c' pm ctv} I1 hsz e1 w1 hc => by
    have nf : H1 h'.objs.size = none := I1.hok.fresh (Nat.le_refl _)
    have I2 := I1.laid (a := h'.objs.size) (o := LamO ⟨X.env.qual ++ "<lambda>", params, body, scope⟩ h'.objs.size c') (h' := h'.push (PySem.W.kla_obj "<lambda>" (X.env.qual ++ "<lambda>") params body scope [] pm c' ctv)) (t' := t') (fun b u e => Heap.get?_push_of_some _ e) (Nat.le_refl _) (LamO_ok (s := ⟨X.env.qual ++ "<lambda>", params, body, scope⟩) (pm := pm) (ctv := ctv) (Heap.get?_push_size _ rfl))
    have w2 := w1.new (o := LamO ⟨X.env.qual ++ "<lambda>", params, body, scope⟩ h'.objs.size c') nf
    have e2 := e1.then (Le.new (o := LamO ⟨X.env.qual ++ "<lambda>", params, body, scope⟩ h'.objs.size c') w1 nf)
    have fc : F1 h'.objs.size = none := Evl.fresh_back w1.ex nf
    refine ⟨.ref h'.objs.size, _, I2, rfl, k _ _ _ _ (.fr (fxD n)) e2 w2 (.fx (hfx _ _ c' upd_same ?_)) p⟩
    rw [upd_ne (ne_of_none hc fc)]
    exact hc
  cases hc : codeAmong pos ps.toList with
  | some cv =>
    obtain ⟨c', rfl, hco⟩ := all pos cv hc
    refine PySem.W.kla_makeFunctionHit (mg := X.mg) (c := c) (P := P) (ps := ps) hclo I.ok.glob (I.mod.glob.keeps I.bk) hcode (TB.code.keeps I.bk) hP' tr hc bP fun ctv h' tk hx hsz => ?_
    exact fin (I.kept (t' := tk) hx) hsz Le.refl a.wf hco
  | none =>
    refine PySem.W.kla_makeFunction (mg := X.mg) (c := c) (P := P) (ps := ps) hclo I.ok.glob (I.mod.glob.keeps I.bk) hcode (TB.code.keeps I.bk) hP' tr hc TB.gP bP fun c' ctv h' tk hx hge hlt hrec htb => ?_
    obtain ⟨c2, oc, vs, t, e2, hoc, hd, hv⟩ := hrec
    cases e2
    have nC : H c' = none := I.hok.fresh hge
    have fC : F c' = none := Evl.fresh_back a.wf.ex nC
    have nPc : P ≠ c' := ne_of_none hP nC
    have I1 := LamX.inv_table (t' := tk) (more := #[rawInt pos.line, rawInt pos.col, .ref c']) (q := X.env.qual ++ "<lambda>") I hP (fun b o hb e => hx b o hb e) htb hge ⟨oc, vs, t, hoc, hd, hv⟩
    have exF : Ex F (upd F c' (CodeO c' (X.env.qual ++ "<lambda>"))) := Evl.Ex.new fC
    have eL : (ps ++ #[rawInt pos.line, rawInt pos.col, .ref c']).toList = ps.toList ++ [rawInt pos.line, rawInt pos.col, .ref c'] := by simp
    have at_ : ∀ b, b ≠ P → b ≠ c' → upd (upd H P (.tbl (ps ++ #[rawInt pos.line, rawInt pos.col, .ref c']))) c' (CodeO c' (X.env.qual ++ "<lambda>")) b = H b := fun b h1 h2 => by rw [upd_ne h2, upd_ne h1]
    have w1 : Wf Z (upd F c' (CodeO c' (X.env.qual ++ "<lambda>"))) B (upd (upd H P (.tbl (ps ++ #[rawInt pos.line, rawInt pos.col, .ref c']))) c' (CodeO c' (X.env.qual ++ "<lambda>"))) := by
      refine ⟨fun b u e => ?_, fun b hb => ?_, a.wf.tabs⟩
      · by_cases hb : b = c'
        · subst hb
          rw [upd_same] at e ⊢
          exact e
        · rw [upd_ne hb] at e
          rw [at_ b (fun z => by rw [z, fP] at e; cases e) hb]
          exact a.wf.ex b u e
      · obtain ⟨b1, b2⟩ := a.wf.bags b hb
        obtain ⟨⟨o, ho⟩, _⟩ := id b2
        have nb : b ≠ c' := ne_of_none ho nC
        refine ⟨by rw [upd_ne nb]; exact b1, ?_⟩
        by_cases hbP : b = P
        · subst hbP
          refine ⟨⟨_, by rw [upd_ne nb, upd_same]⟩, fun z => absurd ht (z _), fun q hq => ?_⟩
          rw [hu q hq]
          refine ⟨_, by rw [upd_ne nb, upd_same], by rw [eL]; exact PySem.TriplesOk_snoc _ _ _ _ tr, fun p' cv hcv => ?_⟩
          rw [eL] at hcv
          rcases LamX.among_app _ tr hcv with z | z
          · obtain ⟨c0, g1, g2⟩ := all p' cv z
            exact ⟨c0, g1, exF _ _ g2⟩
          · exact ⟨c', z, upd_same⟩
        · exact b2.mono exF (at_ b hbP nb)
    have e1 : Le (dm H) F B H (upd F c' (CodeO c' (X.env.qual ++ "<lambda>"))) B (upd (upd H P (.tbl (ps ++ #[rawInt pos.line, rawInt pos.col, .ref c']))) c' (CodeO c' (X.env.qual ++ "<lambda>"))) := by
      refine ⟨exF, fun _ h => h, fun b u _ hb e => ?_, fun b hb => ?_, fun b hb hf => ?_, fun _ _ h => h⟩
      · rw [at_ b (fun z => hb (by rw [z]; exact hB)) (ne_of_none e nC)]
        exact e
      · by_cases h1 : b = c'
        · subst h1
          rw [upd_same]
          exact fun z => nomatch z
        · by_cases h2 : b = P
          · subst h2
            rw [upd_ne h1, upd_same]
            exact fun z => nomatch z
          · rw [at_ b h2 h1]
            exact hb
      · rw [upd_ne (fun z => hb (by rw [z]; exact nC))]
        exact hf
    exact fin I1 (Nat.le_trans hge (Nat.le_of_lt hlt)) e1 w1 upd_same
end
/-! ### calls of lambdas -/
section
variable {cl : Nat → Addr} {Pg : Program} {w : World} {Z : Par} {mg : Str → Option Value} {base : Heap} {s : LamSite} {N ps : List Str} {k n : Nat} {wf : WFnX} {we : (XV → Prop) → WE}
theorem Callee.lam (hZ : ∀ F f, Z.fx F f n → ∃ c', F f = some (LamO s f c') ∧ F c' = some (CodeO c' s.q)) (S : FnScope N ps s.scope) (len : ∀ ds post xp, wf ds post xp → ds.length = ps.length)
    (hbind : ∀ (pm : Value) (c' : Addr) (ctv : Value) (us : List Value), us.length = ps.length → bindArgs (lamFn s pm c' ctv) ⟨us, []⟩ = pure (ps.zip us))
    (hb : ∀ (f : Addr) (cdv : Value) (A : Around) (outer : List Env) (st : Shared) (H : Hp) (E : XK) (xp : XV → Prop), Room k (A.deeper (envOfC s.q s.scope st.heap.objs.size f cdv)) → PE (cxOf (L2N.CX Pg w) Pg w Z.K mg base N s.q s.scope f cdv A outer st H E) s.body (LEX cl Z E xp (we xp)))
    (hd : ∀ ds post xp, wf ds post xp → we xp (startR N.length ds) fun x => ∃ d, x = .fr d ∧ post d) : Callee cl Z Pg w mg base (k + 1) n wf := by
  refine ⟨fun f F H h z e hok _ => ?_, fun f F A outer st H us vs Q E z e hr e0 r q => ?_⟩
  · obtain ⟨c', h1, _⟩ := hZ F f z
    obtain ⟨⟨pm, ctv, e2⟩, _⟩ := hok f _ (e _ _ h1)
    exact ⟨_, _, _, _, e2⟩
  · obtain ⟨c', h1, h2⟩ := hZ F f z
    obtain ⟨⟨pm, ctv, of⟩, _⟩ := e0.hok f _ (e _ _ h1)
    obtain ⟨⟨oc, vc, t, hoc, hdc, hvc⟩, _⟩ := e0.hok c' _ (e _ _ h2)
    obtain ⟨F0, B0, ds, post, xp, wF, rr, p, kk, kx⟩ := id q
    have hl : vs.length = ps.length := by
      rw [rr.length]
      exact len ds post xp p
    have hlu : us.length = ps.length := by rw [← r.length]; exact hl
    have lim : st.heap.NoLimit := e0.mod.nolimit.keeps fun b o e => (e0.bs b o e).1
    have hkind : ∀ y ∈ ps.zip us, s.scope.names.lookup y.1 = some .local ∨ (s.scope.names.lookup y.1 = some .cell ∧ ((cellsFrom (st.heap.objs.size + 1) s.scope.names []).lookup y.1).isSome = true) := fun ⟨n, v⟩ hy => by
      rcases S.par n (List.of_mem_zip hy).1 with q | q
      · exact .inl q
      · exact .inr ⟨q, PySem.W.cellsFrom_some _ _ _ (.inl q)⟩
    refine PySem.W.kla_callFunE hr.depth of rfl S.co S.gen rfl ⟨c', oc, vc, t, rfl, hoc, hdc, hvc⟩ ?_
    rw [hbind pm c' ctv us hlu]
    refine wpAny_pure (wpAny_newFunctionEnv_cells S.kind hkind fun env he s1 x => ?_)
    subst he
    refine ⟨lim.keeps x.toInCall.keep, ?_⟩
    have I : Inv (cxOf (L2N.CX Pg w) Pg w Z.K mg base N s.q s.scope f (.ref c') A outer st H E) [] (L2.start N vs) H s1 := inv_start S hr.hd e0 hl r x
    refine PySem.W.kla_codeExpr (wpAny_mono ((hb f (.ref c') A outer st H E xp (hr.deeper _)).run [] s1 (L2.start N vs) H Q I ⟨F0, B0, dm H, startR N.length ds, _, ⟨wF, start_rs rr, fun _ h => h⟩, hd ds post xp p, fun F' B' H' v x e w r q => ?_, kx⟩) (fun v s' hq => ?_) fun e s' hq => hq)
    · obtain ⟨d, rfl, q⟩ := q
      exact kk _ _ _ _ _ e w r q
    · obtain ⟨w', H', J, rv, q⟩ := hq
      exact ⟨w', H', J.os, J.bare, J.base, J.hok, rv, q⟩
end
/-! ### the law's end -/
def spLT (K : PySem.W.Frag) (cs : List (Addr × Addr)) : Sp := fun vs H Q _ => ∃ (a : Addr) (ns : List Int), vs = [.ref a] ∧ ns.length ≤ 63 ∧ (∀ p ∈ cs, H p.2 = some (.tbl #[])) ∧ SqL K H a (ns.map V.int) ∧ ∀ H', Q (.bl true) H'
theorem spLT_of {Z : Par} {cs : List (Addr × Addr)} (ht : ∀ b q, Z.tab b q → ∃ c, (c, b) ∈ cs) {wf : WFn} (hw : ∀ (ns : List Int) (post : D → Prop), post (.bool true) → wf [scrD ns] post) {vs : List V} {H : Hp} {Q : VK} {E : XK} (h : spLT Z.K cs vs H Q E) : LF Z wf vs H Q E := by
  obtain ⟨a, ns, rfl, hl, hT, hS, k⟩ := h
  have isT : ∀ b, (∃ q, Z.tab b q) → H b = some (.tbl #[]) := fun b ⟨q, z⟩ => by
    obtain ⟨c, hc⟩ := ht b q z
    exact hT _ hc
  let F : Hp := fun b => match H b with
    | some (.tbl _) => none
    | o => o
  have eF : ∀ b o, F b = some o → H b = some o := fun b o e => by
    show H b = some o
    have e : (match H b with | some (.tbl _) => none | o => o) = some o := e
    split at e
    · cases e
    · exact e
  have nF : ∀ b, H b = some (.tbl #[]) → F b = none := fun b e => by
    show (match H b with | some (.tbl _) => none | o => o) = none
    rw [e]
  have oF : ∀ b o, H b = some o → (∀ ps, o ≠ .tbl ps) → F b = some o := fun b o e n => by
    show (match H b with | some (.tbl _) => none | o => o) = some o
    rw [e]
    cases o <;> first | rfl | exact absurd rfl (n _)
  have hSF : SqL Z.K F a (ns.map V.int) := by
    rcases hS with (q | ⟨o, q⟩) | q
    · exact .inl (.inl (oF _ _ q fun ps z => nomatch z))
    · exact .inl (.inr ⟨o, oF _ _ q fun ps z => nomatch z⟩)
    · exact .inr q
  refine ⟨F, fun b => ∃ q, Z.tab b q, [scrD ns], fun d => d = .bool true, ⟨eF, fun b hb => ⟨nF b (isT b hb), ⟨_, isT b hb⟩, fun z => ?_, fun q hq => ⟨#[], isT b hb, True.intro, fun pos cv hc => by simp [codeAmong] at hc⟩⟩, fun b q z => ⟨q, z⟩⟩, .cons (.scr hSF (by omega)) .nil, hw ns _ rfl, fun F' B' H' v d _ _ r e => ?_⟩
  · obtain ⟨q, hq⟩ := hb
    exact absurd hq (z q)
  · subst e
    rw [Rep.bl_inv r]
    exact k H'
end DL

/-! Where a lambda stands; the defs that hold lambdas. -/
section
open PySem PySem.Spec PyProof PyProof.Rows L2
theorem L2.PS.nox {X : L2.Cx} {st : PySem.Stmt} {t : L2.TS} (h : L2.PS X.nox st t) : L2.PS X st t := ⟨fun pins s σ H D I hw =>
  wpAny_mono (h.run pins s σ H D (I.wish _) hw) (fun _ _ q => q.unwish) fun _ _ z => False.elim z⟩
end
namespace DL
open PySem PySem.Spec PyProof.Rows L2 RH RF
open LamX (CodeO TabB)
def noE : Expr := .Constant .none 0 ⟨0, 0, 0, 0⟩
def kidsS : Stmt → List Stmt
  | .For _ _ b _ _ => b
  | .While _ b _ _ => b
  | .If _ b _ _ => b
  | s => defBody s
def elseS : Stmt → List Stmt
  | .If _ _ b _ => b
  | _ => []
def stS (l : List Stmt) (i : Nat) : Stmt := l.getD i (.Pass ⟨0, 0, 0, 0⟩)
def valS : Stmt → Expr
  | .Assign _ v _ => v
  | .Return v _ => v.getD noE
  | .Expr v _ => v
  | .If t _ _ _ => t
  | .While t _ _ _ => t
  | .For _ it _ _ _ => it
  | _ => noE
def kidE : Expr → Nat → Expr
  | .BoolOp _ vs _, i => vs.getD i noE
  | .BinOp l _ r _, i => [l, r].getD i noE
  | .UnaryOp _ e _, i => [e].getD i noE
  | .IfExp a b c _, i => [a, b, c].getD i noE
  | .Compare l _ cs _, i => (l :: cs).getD i noE
  | .Call f as _ _, i => (f :: as).getD i noE
  | .Attribute v _ _, i => [v].getD i noE
  | .Subscript v s _, i => [v, s].getD i noE
  | .Tuple es _ _, i => es.getD i noE
  | .List es _, i => es.getD i noE
  | _, _ => noE
def siteOf (q : Str) : Expr → LamSite
  | .Lambda ps b sc _ => ⟨q, ps, b, sc⟩
  | _ => ⟨q, ⟨[], [], none, [], [], none, []⟩, noE, default⟩
theorem Callee.mono {cl : Nat → Addr} {Z : Par} {P : Program} {w : World} {mg : Str → Option Value} {base : Heap} {j k n : Nat} {wf : WFnX} (c : Callee cl Z P w mg base j n wf) (h : j ≤ k) : Callee cl Z P w mg base k n wf :=
  ⟨c.fn, fun f F A outer s H us vs Q E z e hr e0 r q => c.run f F A outer s H us vs Q E z e (hr.mono h) e0 r q⟩
theorem fn_dataC {P : Program} {w : World} {Z : Par} {mg : Str → Option Value} {base : Heap} {x : Str} {st : Stmt} {f c : Addr} {ps N : List Str} {k : Nat} {ws : WS} {wf : WFn} {oc kV doc pm ct : Value} {od an : Option Addr} {osl : Array (Option Value)}
    (lk : Z.K.lookup f = some ⟨oc, od, .func (PySem.W.fnOf x x (defArgs st) (defBody st) (defScope st) .none kV doc pm an (.ref c) ct), osl⟩) (hcd : PySem.W.codeIn Z.K (.ref c) x = true) (S : FnScope N ps (defScope st)) (len : ∀ ds post, wf ds post → ds.length = ps.length)
    (hb : ∀ (f : Addr) (A : Around) (outer : List Env) (s : Shared) (H : Hp) (E : XK), Room k (A.deeper (envOfC x (defScope st) s.heap.objs.size f (.ref c))) → PSs (cxOf CX0 P w Z.K mg base N x (defScope st) f (.ref c) A outer s H E).nox (defBody st) (LS Z ws))
    (hd : ∀ ds post, wf ds post → ws { nx := fun _ => post .none, rt := post } (startR N.length ds)) : FnOk P w Z.K mg base CX0 (k + 1) f (PySem.W.fnOf x x (defArgs st) (defBody st) (defScope st) .none kV doc pm an (.ref c) ct) ps (LF Z wf) := by
  refine fn_of lk hcd S (fun vs H Q E h => ?_) (fun A outer s H vs Q E hr h => ⟨_, (hb f A outer s H E hr).nox, fn_reads hd h⟩)
  obtain ⟨F, B, ds, post, _, r, p, _⟩ := h
  rw [r.length]
  exact len ds post p
/-! ### defs that give back a list of their own -/
abbrev WFnN := List D → (List D → Prop) → (XV → Prop) → Prop
def outN (w : WFnN) : WFnX := fun ds post xp => w ds (fun es => post (.list es)) xp
def LFXN (cl : Nat → Addr) (Z : Par) (w : WFnN) : Sp := fun vs H Q E => ∃ F B ds post xp, Wf Z F B H ∧ RepAll Z F B vs ds ∧ w ds post xp ∧ (∀ F' B' H' l es, Le (dm H) F B H F' B' H' → Wf Z F' B' H' → H l = none → OwnAt Z F' B' H' l es → post es → Q (.ref l) H') ∧ KR cl Z (dm H) F B H xp E
def CalXN (cl : Nat → Addr) (Z : Par) (P : Program) (w : World) (mg : Str → Option Value) (base : Heap) (k : Nat) (x : Str) (ps : List Str) (wf : WFnN) : Prop := ∃ f fd, FnOk P w Z.K mg base (L2N.CX P w) k f fd ps (LFXN cl Z wf) ∧ mg x = some (.ref f) ∧ PySem.W.keepIn Z.K (.ref f) = true ∧ Binds Z.K fd ps []
theorem CalXN.toX {cl : Nat → Addr} {Z : Par} {P : Program} {w : World} {mg : Str → Option Value} {base : Heap} {k : Nat} {x : Str} {ps : List Str} {wf : WFnN} (c : CalXN cl Z P w mg base k x ps wf) : CalX cl Z P w mg base k x ps (outN wf) := by
  obtain ⟨f, fd, G, r⟩ := c
  refine ⟨f, fd, G.imp fun vs H Q E h => ?_, r⟩
  obtain ⟨F, B, ds, post, xp, wF, ra, p, k, kx⟩ := h
  refine ⟨F, B, ds, _, xp, wF, ra, p, fun F' B' H' l es e w n o q => ?_, kx⟩
  exact fr_list (P := dm H) (post := fun x => ∃ d, x = .fr d ∧ post d) (fun F1 B1 H1 v x e1 w1 r1 p1 => by
    obtain ⟨d, rfl, p1⟩ := p1
    exact k _ _ _ _ _ e1 w1 r1 p1) e w n o ⟨_, rfl, q⟩
def wNcall (wf : WFnN) (wl : WA) : WN := fun ρ post => wl ρ fun xs => ∃ ds, xs = ds.map DL.X.fr ∧ wf ds post fun _ => False
def LSXN (cl : Nat → Addr) (Z : Par) (E : XK) (xp : XV → Prop) (w : WS) : TS := fun Dd σ H => ∃ F B P ρ W, At Z σ H F B P ρ ∧ w W ρ ∧
  (∀ F' B' H' σ' ρ', Le P F B H F' B' H' → At Z σ' H' F' B' P ρ' → W.nx ρ' → Dd.nx σ' H') ∧
  (∀ F' B' H' l es, Le P F B H F' B' H' → Wf Z F' B' H' → ¬ P l → OwnAt Z F' B' H' l es → W.rt (.list es) → Dd.rt (.ref l) H') ∧
  (∀ F' B' H' σ' ρ', Le P F B H F' B' H' → At Z σ' H' F' B' P ρ' → W.bk ρ' → Dd.bk σ' H') ∧
  (∀ F' B' H' σ' ρ', Le P F B H F' B' H' → At Z σ' H' F' B' P ρ' → W.ct ρ' → Dd.ct σ' H') ∧ KR cl Z P F B H xp E
def wsRetO (i : Nat) : WS := fun W ρ => ∃ es, ρ[i]? = some (some (.ow es)) ∧ W.rt (.list es)
section
variable {cl : Nat → Addr} {Z : Par} {X : Cx} {E : XK} {xp : XV → Prop} {st : Stmt} {rest : List Stmt} {t u : WS} {wl : WA} {e : Expr} {es : List Expr} {pos pos' p : Pos}
theorem qn_callN {k j : Nat} {x : Str} {ps : List Str} {wf : WFnN} (c : CalXN cl Z X.prog X.w X.mg X.base k x ps wf) (hK : X.K = Z.K) (hr : Room j X.A) (hjk : k ≤ j) (ha : PA X (e :: es) (LA Z wl)) (hg : Gl X x := by rfl) (hdb : (x == ("__debug__" : Str)) = false := by decide)
    (he : starEach (e :: es) X.env = (false, eval e X.env) :: starEach es X.env := by rfl) (hpl : (backTo pos (starEach es X.env)).any (·.1) = false := by rfl) : PE X (.Call (.Name x p) (e :: es) [] pos) (LN Z (wNcall wf wl)) := by
  obtain ⟨f, fd, G, hm, hk, bi⟩ := c
  rw [← hK] at G hk bi
  refine peW (pe_call G (hr.mono hjk) hg hm hk bi .nil (E := fun _ _ _ => False) (passN0 fun _ _ _ z => z) ha hdb he hpl) fun σ H Q h => ?_
  obtain ⟨F, B, P, ρ, post, a, w, k⟩ := h
  refine ⟨F, B, P, ρ, _, a, w, fun F1 B1 H1 vs xs e1 w1 r1 p1 => ?_⟩
  obtain ⟨ds, rfl, q⟩ := p1
  refine ⟨F1, B1, ds, _, _, w1, ?_, q, fun F2 B2 H2 l es e2 w2 n2 o2 p2 => k _ _ _ _ _ (e1.then e2) w2 (back_dm e1 n2) o2 p2, fun _ _ _ _ _ _ _ _ _ z => z.elim⟩
  rw [List.append_nil]
  exact XRs.fr r1
theorem qssXN_cons (h1 : PS X st (LSX cl Z E xp t)) (ht : ∀ (W : WEnds) ρ, t W ρ → t { W with rt := fun _ => False } ρ) (h2 : PSs X rest (LSXN cl Z E xp u)) : PSs X (st :: rest) (LSXN cl Z E xp (wsSeq t u)) := pssW (pss_cons h1 h2) fun Dd σ H h => by
  obtain ⟨F, B, P, ρ, W, a, w, kn, kr, kb, kc, kx⟩ := h
  refine ⟨F, B, P, ρ, _, a, ht _ _ w, fun F1 B1 H1 σ1 ρ1 e1 a1 p1 => ?_, fun _ _ _ _ _ _ _ _ z => z.elim, kb, kc, kx⟩
  exact ⟨F1, B1, P, ρ1, W, a1, p1, fun F2 B2 H2 σ2 ρ2 e2 a2 p2 => kn _ _ _ _ _ (e1.trans e2) a2 p2, fun F2 B2 H2 l es e2 w2 n2 o2 p2 => kr _ _ _ _ _ (e1.trans e2) w2 n2 o2 p2, fun F2 B2 H2 σ2 ρ2 e2 a2 p2 => kb _ _ _ _ _ (e1.trans e2) a2 p2, fun F2 B2 H2 σ2 ρ2 e2 a2 p2 => kc _ _ _ _ _ (e1.trans e2) a2 p2, KR.later kx e1⟩
theorem qssXN_ret (i : Nat) {x : Str} (hN : X.N[i]? = some x := by rfl) (hv : Vis X.env.scope x := by first | exact Or.inl rfl | exact Or.inr (Or.inl rfl) | exact Or.inr (Or.inr rfl)) (hd : (x == ("__debug__" : Str)) = false := by decide)
    (hcd : (x == ("__classdict__" : Str)) = false := by decide) : PSs X [.Return (some (.Name x pos)) pos'] (LSXN cl Z E xp (wsRetO i)) := pssW (pss_one (ps_ret (pe_var hN hv hd hcd))) fun Dd σ H h => by
  obtain ⟨F, B, P, ρ, W, a, w, kn, kr, kb, kc, kx⟩ := h
  obtain ⟨es, hi, q⟩ := w
  obtain ⟨v, hv, l, rfl, o, np⟩ := a.rs.val i _ hi
  exact ⟨_, hv, kr _ _ _ _ _ Le.refl a.wf np o q⟩
end
section
variable {cl : Nat → Addr} {P : Program} {w : World} {Z : Par} {mg : Str → Option Value} {base : Heap}
theorem Def.calXN {x : Str} {st : Stmt} {ps N : List Str} {k : Nat} {ws : (XV → Prop) → WS} {wf : WFnN} (d : Def Z.K mg x st ps) (S : FnScope N ps (defScope st)) (len : ∀ ds post xp, wf ds post xp → ds.length = ps.length)
    (hb : ∀ (f : Addr) (cdv : Value) (A : Around) (outer : List Env) (s : Shared) (H : Hp) (E : XK) (xp : XV → Prop), Room k (A.deeper (envOfC x (defScope st) s.heap.objs.size f cdv)) → PSs (cxOf (L2N.CX P w) P w Z.K mg base N x (defScope st) f cdv A outer s H E) (defBody st) (LSXN cl Z E xp (ws xp)))
    (hd : ∀ ds post xp, wf ds post xp → ws xp { nx := fun _ => False, rt := fun d => ∃ es, d = .list es ∧ post es } (startR N.length ds)) : CalXN cl Z P w mg base (k + 1) x ps wf := by
  obtain ⟨f, fd, F, hm, bi⟩ := d
  refine ⟨f, fd, fun_okN F S (fun vs H Q E h => ?_) (fun cdv A outer s H vs Q E hr h => ?_), hm, F.kp, bi⟩
  · obtain ⟨F, B, ds, post, xp, _, r, p, _⟩ := h
    rw [r.length]
    exact len ds post xp p
  · obtain ⟨F, B, ds, post, xp, wF, r, p, k, kx⟩ := h
    refine ⟨_, hb f cdv A outer s H E xp hr, F, B, dm H, _, _, ⟨wF, start_rs r, fun _ h => h⟩, hd ds post xp p, fun _ _ _ _ _ _ _ z => z.elim, fun F1 B1 H1 l es e1 w1 n1 o1 p1 => ?_, fun _ _ _ _ _ _ _ z => z.elim, fun _ _ _ _ _ _ _ z => z.elim, kx⟩
    obtain ⟨es', e2, p1⟩ := p1
    cases e2
    exact k _ _ _ _ _ e1 w1 (Classical.byContradiction n1) o1 p1
end
end DL

/-! Calls of what stands in a name; a class whose __init__ refuses; defs that hold lambdas. -/
namespace DL
open PySem PySem.Spec PyProof.Rows L2 RH RF
open LamX (CodeO TabB)
def clsB : Stmt → List Stmt
  | .ClassDef _ _ _ b _ _ _ _ _ _ _ => b
  | _ => []
/-- a call of what the name holds: a def or a lambda -/
def wXcallV (S : Nat → WFnX) (xp : XV → Prop) (i : Nat) (wl : WA) : WE := fun ρ post => ∃ n, ρ[i]? = some (some (.fr (fxD n))) ∧ wl ρ fun xs => ∃ ds, xs = ds.map DL.X.fr ∧ S n ds (fun d => post (.fr d)) xp
section
variable {cl : Nat → Addr} {Z : Par} {X : Cx} {E : XK} {xp : XV → Prop} {st : Stmt} {rest : List Stmt} {t u : WS} {wl : WA} {e : Expr} {es : List Expr} {pos pos' p : Pos}
theorem fx_inv {F : Hp} {B : Addr → Prop} {v : V} {n : Nat} (r : Rep Z F B v (fxD n)) : ∃ f, v = .ref f ∧ Z.fx F f n := by
  generalize hd : fxD n = d at r
  cases r with
  | fx z =>
    injection hd with hd
    injection hd with h1 _
    injection h1 with h1 _
    injection h1 with h1
    have : n = _ := Int.ofNat.inj h1
    subst this
    exact ⟨_, rfl, z⟩
  | _ => cases hd
theorem qeX_callV {S : Nat → WFnX} {k : Nat} {i : Nat} {x : Str} (hK : X.K = Z.K) (C : ∀ n, Callee cl Z X.prog X.w X.mg X.base k n (S n)) (tk : L2N.Takes X fun c d _ H => E c d H) (hr : Room k X.A) (ha : PA X (e :: es) (LA Z wl)) (hN : X.N[i]? = some x := by rfl) (hv : Vis X.env.scope x := by first | exact Or.inl rfl | exact Or.inr (Or.inl rfl) | exact Or.inr (Or.inr rfl)) (hdb : (x == ("__debug__" : Str)) = false := by decide) (hcd : (x == ("__classdict__" : Str)) = false := by decide)
    (he : starEach (e :: es) X.env = (false, eval e X.env) :: starEach es X.env := by rfl) (hpl : (backTo pos (starEach es X.env)).any (·.1) = false := by rfl) : PE X (.Call (.Name x p) (e :: es) [] pos) (LEX cl Z E xp (wXcallV S xp i wl)) :=
  peW (pe_callV (pos := pos) (p := p) hK C tk hr hN hv ha hdb hcd he hpl) fun σ H Q h => by
    obtain ⟨F, B, P, ρ, post, a, ⟨n, hn, w⟩, k, kx⟩ := h
    obtain ⟨v, hv, r⟩ := a.rs.val i _ hn
    obtain ⟨f, rfl, z⟩ := fx_inv (show Rep Z F B v (fxD n) from r)
    refine ⟨f, F, n, hv, z, a.wf.ex, F, B, P, ρ, _, a, w, fun F1 B1 H1 vs xs e1 w1 r1 p1 => ?_⟩
    obtain ⟨ds, rfl, q⟩ := p1
    exact ⟨fun a o h => w1.ex _ _ (e1.ex _ _ h), F1, B1, ds, _, xp, w1, XRs.fr r1, q, fun F2 B2 H2 v d e2 w2 r2 p2 => k _ _ _ _ (.fr d) (e1.then e2) w2 r2 p2, KR.back kx e1⟩
/-! ### a class whose __init__ refuses -/
abbrev WFnI := List D → (XV → Prop) → Prop
def LFI (cl : Nat → Addr) (Z : Par) (w : WFnI) : Sp := fun vs H Q E => ∃ v0 rest F B ds xp, vs = v0 :: rest ∧ Wf Z F B H ∧ RepAll Z F B rest ds ∧ w ds xp ∧ KR cl Z (dm H) F B H xp E
def IniX (cl : Nat → Addr) (Z : Par) (P : Program) (w : World) (mg : Str → Option Value) (base : Heap) (k : Nat) (x : Str) (ps : List Str) (wf : WFnI) : Prop := ∃ C f fd, Mk Z.K C f ∧ FnOk P w Z.K mg base (L2N.CX P w) k f fd ps (LFI cl Z wf) ∧ mg x = some (.ref C) ∧ Binds Z.K fd ps []
theorem qeX_make {k j : Nat} {x : Str} {ps : List Str} {wf : WFnI} (c : IniX cl Z X.prog X.w X.mg X.base k x ps wf) (hK : X.K = Z.K) (tk : L2N.Takes X fun c d _ H => E c d H) (hr : Room j X.A) (hjk : k + 1 ≤ j) (ha : PA X (e :: es) (LA Z wl)) (hg : Gl X x := by rfl) (hdb : (x == ("__debug__" : Str)) = false := by decide)
    (he : starEach (e :: es) X.env = (false, eval e X.env) :: starEach es X.env := by rfl) (hpl : (backTo pos (starEach es X.env)).any (·.1) = false := by rfl) : PE X (.Call (.Name x p) (e :: es) [] pos) (LEX cl Z E xp (wXcall (fun ds _ xp => wf ds xp) xp wl)) := by
  obtain ⟨C, f, fd, M, G, hm, bi⟩ := c
  rw [← hK] at M G bi
  refine peW (pe_make M G (hr.mono hjk) hg hm bi .nil (E := E) (L2N.passes_call tk fun _ _ _ _ h => h) ha hdb he hpl) fun σ H Q h => ?_
  obtain ⟨F, B, P, ρ, post, a, w, k, kx⟩ := h
  refine ⟨F, B, P, ρ, _, a, w, fun F1 B1 H1 vs xs e1 w1 r1 p1 => ?_⟩
  obtain ⟨ds, rfl, q⟩ := p1
  intro y dx hy hdx hne
  have r1 := XRs.fr r1
  have w2 := w1.new (o := HO.own y) hdx
  have l2 := Le.new (o := HO.own y) w1 hdx
  have hy2 : upd H1 dx (HO.own y) y = none := by rw [upd_ne (Ne.symm hne)]; exact hy
  have w3 := w2.new (o := HO.ins C dx []) hy2
  have l3 := Le.new (o := HO.ins C dx []) w2 hy2
  refine ⟨.ref y, vs, _, B1, ds, xp, by rw [List.append_nil], w3, r1.mono (l2.then l3).ex fun _ h => h, q, KR.back kx (e1.then (l2.then l3))⟩
end
section
variable {cl : Nat → Addr} {P : Program} {w : World} {Z : Par} {mg : Str → Option Value} {base : Heap}
theorem ini_of {x : Str} {qual : Str} {st : Stmt} {ps N : List Str} {k : Nat} {ws : (XV → Prop) → WS} {wf : WFnI} {C f : Addr} {fd : FuncData} {n0 : Str} (F : Fun Z.K n0 qual st f fd) (M : Mk Z.K C f) (hm : mg x = some (.ref C)) (bi : Binds Z.K fd ps []) (S : FnScope N ps (defScope st)) (len : ∀ ds xp, wf ds xp → ds.length + 1 = ps.length)
    (hb : ∀ (f : Addr) (cdv : Value) (A : Around) (outer : List Env) (s : Shared) (H : Hp) (E : XK) (xp : XV → Prop), Room k (A.deeper (envOfC qual (defScope st) s.heap.objs.size f cdv)) → PSs (cxOf (L2N.CX P w) P w Z.K mg base N qual (defScope st) f cdv A outer s H E) (defBody st) (LSX cl Z E xp (ws xp)))
    (hd : ∀ ds xp, wf ds xp → ws xp { nx := fun _ => False, rt := fun _ => False } ((startR N.length (.none :: ds)).set 0 none)) : IniX cl Z P w mg base (k + 1) x ps wf := by
  refine ⟨C, f, fd, M, fun_okN F S (fun vs H Q E h => ?_) (fun cdv A outer s H vs Q E hr h => ?_), hm, bi⟩
  · obtain ⟨v0, rest, F, B, ds, xp, rfl, _, r, p, _⟩ := h
    rw [List.length_cons, r.length]
    exact len ds xp p
  · obtain ⟨v0, rest, F1, B, ds, xp, rfl, wF, r, p, kx⟩ := h
    have rs := (start_rs (N := N) (P := dm H) (H := H) (RepAll.cons .non r)).forget 0 (some v0)
    exact ⟨_, hb f cdv A outer s H E xp hr, F1, B, dm H, _, _, ⟨wF, rs, fun _ h => h⟩, hd ds xp p, fun _ _ _ _ _ _ _ z => z.elim, fun _ _ _ _ _ _ _ _ z => z.elim, fun _ _ _ _ _ _ _ z => z.elim, fun _ _ _ _ _ _ _ z => z.elim, kx⟩
/-- what is never come to -/
theorem qssX_never {E : XK} {X : Cx} {xp : XV → Prop} {sts : List Stmt} : PSs X sts (LSX cl Z E xp wsNever) := ⟨fun _ _ _ _ _ _ h => by
  obtain ⟨_, _, _, _, _, _, w, _⟩ := h
  exact w.elim⟩
/-! ### defs that hold lambdas -/
theorem def_calC {x : Str} {st : Stmt} {f c : Addr} {ps N : List Str} {k : Nat} {ws : WS} {wf : WFn} {oc kV doc pm ct : Value} {od an : Option Addr} {osl : Array (Option Value)}
    (lk : Z.K.lookup f = some ⟨oc, od, .func (PySem.W.fnOf x x (defArgs st) (defBody st) (defScope st) .none kV doc pm an (.ref c) ct), osl⟩) (hcd : PySem.W.codeIn Z.K (.ref c) x = true) (hm : mg x = some (.ref f)) (hk : PySem.W.keepIn Z.K (.ref f) = true)
    (bi : Binds Z.K (PySem.W.fnOf x x (defArgs st) (defBody st) (defScope st) .none kV doc pm an (.ref c) ct) ps []) (S : FnScope N ps (defScope st)) (len : ∀ ds post, wf ds post → ds.length = ps.length)
    (hb : ∀ (f : Addr) (A : Around) (outer : List Env) (s : Shared) (H : Hp) (E : XK), Room k (A.deeper (envOfC x (defScope st) s.heap.objs.size f (.ref c))) → PSs (cxOf CX0 P w Z.K mg base N x (defScope st) f (.ref c) A outer s H E).nox (defBody st) (LS Z ws))
    (hd : ∀ ds post, wf ds post → ws { nx := fun _ => post .none, rt := post } (startR N.length ds)) : Cal Z P w mg base (k + 1) x ps wf :=
  ⟨f, _, fn_dataC lk hcd S len hb hd, hm, hk, bi⟩
theorem Callee.dead {j k n : Nat} {wf : WFnX} (c : Callee cl Z P w mg base j n wf) : Callee cl Z P w mg base k n (fun _ _ _ => False) :=
  ⟨c.fn, fun f F A outer s H us vs Q E z e hr e0 r q => by
    obtain ⟨_, _, _, _, _, _, _, p, _⟩ := q
    exact p.elim⟩
theorem Callee.dead_lam {k n : Nat} {s : LamSite} (hZ : ∀ F f, Z.fx F f n → ∃ c', F f = some (LamO s f c') ∧ F c' = some (CodeO c' s.q)) : Callee cl Z P w mg base k n (fun _ _ _ => False) :=
  ⟨fun f F H h z e hok _ => by
    obtain ⟨c', h1, _⟩ := hZ F f z
    obtain ⟨⟨pm, ctv, e2⟩, _⟩ := hok f _ (e _ _ h1)
    exact ⟨_, _, _, _, e2⟩, fun f F A outer s H us vs Q E z e hr e0 r q => by
    obtain ⟨_, _, _, _, _, _, _, p, _⟩ := q
    exact p.elim⟩
end
end DL

/-! isinstance with a tuple of two classes; a def that calls itself. -/
namespace DL
open PySem PySem.Spec PyProof.Rows L2
def wIsi2 (T U : String) (we : WE) : WE := fun ρ post => we ρ fun x => plainD x.dat = true ∧ post (.fr (.bool (isTy T x.dat || isTy U x.dat)))
section
variable {Z : Par} {X : Cx} {a : Expr} {wa : WE} {p p2 p3 p4 pos : Pos} {k2 : Nat}
theorem qe_isi_tuple_list (hK : X.K = Z.K) (hm : X.mg "isinstance" = none) (hm2 : X.mg "tuple" = none) (hm3 : X.mg "list" = none) (ha : PE X a (LE Z wa)) (hg : Gl X "isinstance" := by rfl) (hg2 : Gl X "tuple" := by rfl) (hg3 : Gl X "list" := by rfl)
    (h2 : starEach [.Name "tuple" p2, .Name "list" p3] X.env = (false, eval (.Name "tuple" p2) X.env) :: starEach [.Name "list" p3] X.env := by rfl) (h3 : starEach [.Name "list" p3] X.env = (false, eval (.Name "list" p3) X.env) :: starEach [] X.env := by rfl)
    (he : starEach [a, .Tuple [.Name "tuple" p2, .Name "list" p3] k2 p4] X.env = (false, eval a X.env) :: starEach [.Tuple [.Name "tuple" p2, .Name "list" p3] k2 p4] X.env := by rfl)
    (he2 : starEach [.Tuple [.Name "tuple" p2, .Name "list" p3] k2 p4] X.env = (false, eval (.Tuple [.Name "tuple" p2, .Name "list" p3] k2 p4) X.env) :: starEach [] X.env := by rfl)
    (hpl : (backTo pos (starEach [.Tuple [.Name "tuple" p2, .Name "list" p3] k2 p4] X.env)).any (·.1) = false := by rfl) :
    PE X (.Call (.Name "isinstance" p) [a, .Tuple [.Name "tuple" p2, .Name "list" p3] k2 p4] [] pos) (LE Z (wIsi2 "tuple" "list" wa)) :=
  peW (pe_callB call_isiT hg hm (by decide +kernel) (pa_cons ha (pa_cons (pe_tup (pa_cons (pe_bltn (v := .ty "tuple") hg2 hm2 (by decide +kernel) rfl (by decide) (by decide)) (pa_cons (pe_bltn (v := .ty "list") hg3 hm3 (by decide +kernel) rfl (by decide) (by decide)) pa_nil h3) h2)) pa_nil he2) he) (by decide) (by decide) he hpl) fun σ H Q h => by
    obtain ⟨F, B, P, ρ, post, a, w, k⟩ := h
    refine ⟨F, B, P, ρ, _, a, w, fun F1 B1 H1 v x e1 w1 r1 p1 => ?_⟩
    obtain ⟨pl, q⟩ := p1
    refine ⟨by show 2 ≤ sizeLine; decide, fun tp hp => ?_⟩
    obtain ⟨w2, e2⟩ := lay (o := .tup [.ty "tuple", .ty "list"]) w1 hp
    have r2 := r1.mono e2
    rw [hK]
    refine ⟨v, tp, [.ty "tuple", .ty "list"], _, [.type "tuple", .type "list"], isTy "tuple" x.dat || isTy "list" x.dat, rfl, upd_same, .cons (.ty _) (.cons (.ty _) .nil), XR.tyx w2 r2 pl, ?_, k _ _ _ _ (.fr _) (e1.then e2) w2 (.bl _) q⟩
    refine kitAny_cons (kit_ty (kit_tuple _ pl)) (fun hb => ?_) (fun hb => by rw [hb]; rfl)
    rw [hb, Bool.false_or]
    refine kitAny_cons (kit_ty (kit_list _ pl)) (fun hb2 => ?_) (fun hb2 => hb2)
    rw [hb2]
    exact kitAny_nil
end
theorem Def.calNo {P : Program} {w : World} {Z : Par} {mg : Str → Option Value} {base : Heap} {x : Str} {st : Stmt} {ps : List Str} {k : Nat} (d : Def Z.K mg x st ps) : Cal Z P w mg base k x ps (fun _ _ => False) := by
  obtain ⟨f, fd, F, hm, bi⟩ := d
  refine ⟨f, fd, ⟨fun vs H Q E h => ?_, fun A outer s H args us vs Q E hr he hb hv hs => ?_⟩, hm, F.kp, bi⟩
  · obtain ⟨_, _, _, _, _, _, q, _⟩ := h
    exact q.elim
  · obtain ⟨_, _, _, _, _, _, q, _⟩ := hs
    exact q.elim
end DL

/-! The data layer with objects: kept purses, their states told beside the frame. -/
namespace DL
open PySem PySem.Spec PyProof.Rows L2
/-- a kept purse: its cards, what was done, where the list of it stands -/
structure KO where
  cs : D
  past : List D
  pl : Addr
abbrev OS := Addr → Option KO
def OS.L (S : OS) (a : Addr) : Prop := ∃ b k, S b = some k ∧ k.pl = a
def OS.put (S : OS) (a : Addr) (k : KO) : OS := fun b => if b = a then some k else S b
theorem OS.put_same {S : OS} {a : Addr} {k : KO} : S.put a k a = some k := if_pos rfl
theorem OS.put_ne {S : OS} {a b : Addr} {k : KO} (h : b ≠ a) : S.put a k b = S b := if_neg h
structure Wd where
  F : Hp
  B : Addr → Prop
  H : Hp
  S : OS
abbrev insF (C dx pl : Addr) (vc : V) : HO := .ins C dx [("cards", vc), ("past", .ref pl)]
/-- the number of a kept purse as data -/
abbrev hD (a : Addr) : D := fxD (1000 + a)
structure ZO (Z : Par) (C : Addr) : Prop where
  mkf : ∀ F a dx, F dx = some (.own a) → Z.fx F a (1000 + a)
  inv : ∀ F a b, Z.fx F b (1000 + a) → b = a
structure OA (Z : Par) (C : Addr) (w : Wd) : Prop where
  at_ : ∀ a k, w.S a = some k → ∃ dx vc vs, w.F a = some (insF C dx k.pl vc) ∧ Rep Z w.F w.B vc k.cs ∧ w.F k.pl = none ∧ ¬ w.B k.pl ∧ w.H k.pl = some (.lst vs) ∧ RepAll Z w.F w.B vs k.past
  inj : ∀ a b k l, w.S a = some k → w.S b = some l → k.pl = l.pl → a = b
structure Ok (Z : Par) (C : Addr) (w : Wd) : Prop where
  wf : Wf Z w.F w.B w.H
  oa : OA Z C w
def PU (P : Addr → Prop) (S : OS) : Addr → Prop := fun a => P a ∨ S.L a
structure Le2 (P : Addr → Prop) (w w' : Wd) : Prop where
  ex : Ex w.F w'.F
  bg : ∀ a, w.B a → w'.B a
  hp : ∀ a o, P a → ¬ w.B a → ¬ w.S.L a → w.H a = some o → w'.H a = some o
  dom : ∀ a, w.H a ≠ none → w'.H a ≠ none
  nf : ∀ a, P a → w.F a = none → w'.F a = none
  nb : ∀ a, P a → w'.B a → w.B a
  no : ∀ a, P a → w'.S.L a → w.S.L a
  st : ∀ a k, w.S a = some k → ∃ k', w'.S a = some k' ∧ k'.pl = k.pl
structure At2 (Z : Par) (C : Addr) (σ : L2.St) (w : Wd) (P : Addr → Prop) (ρ : Ρ) : Prop where
  at_ : At Z σ w.H w.F w.B (PU P w.S) ρ
  oa : OA Z C w
section
variable {Z : Par} {C : Addr} {P P' Q : Addr → Prop} {w w' w1 w2 : Wd} {σ : L2.St} {ρ : Ρ} {v : V} {x : X}
theorem Le2.refl : Le2 P w w := ⟨Evl.Ex.refl _, fun _ h => h, fun _ _ _ _ _ h => h, fun _ h => h, fun _ _ h => h, fun _ _ h => h, fun _ _ h => h, fun _ k h => ⟨k, h, rfl⟩⟩
theorem Le2.trans (a : Le2 P w w1) (b : Le2 P w1 w2) : Le2 P w w2 :=
  ⟨a.ex.trans b.ex, fun x h => b.bg x (a.bg x h), fun x o p nb ns h => b.hp x o p (fun z => nb (a.nb x p z)) (fun z => ns (a.no x p z)) (a.hp x o p nb ns h), fun x h => b.dom x (a.dom x h), fun x p h => b.nf x p (a.nf x p h), fun x p h => a.nb x p (b.nb x p h), fun x p h => a.no x p (b.no x p h), fun x k h => by
    obtain ⟨k1, h1, e1⟩ := a.st x k h
    obtain ⟨k2, h2, e2⟩ := b.st x k1 h1
    exact ⟨k2, h2, e2.trans e1⟩⟩
theorem Le2.mono (a : Le2 P w w1) (h : ∀ x, P' x → P x) : Le2 P' w w1 :=
  ⟨a.ex, a.bg, fun x o p => a.hp x o (h x p), a.dom, fun x p => a.nf x (h x p), fun x p => a.nb x (h x p), fun x p => a.no x (h x p), a.st⟩
theorem Le2.then (a : Le2 (dm w.H) w w1) (b : Le2 (dm w1.H) w1 w2) : Le2 (dm w.H) w w2 := a.trans (b.mono fun x h => a.dom x h)
theorem Le2.L (a : Le2 P w w1) {l : Addr} (h : w.S.L l) : w1.S.L l := by
  obtain ⟨b, k, h1, h2⟩ := h
  obtain ⟨k', h3, h4⟩ := a.st b k h1
  exact ⟨b, k', h3, h4.trans h2⟩
/-- a step of the old layer -/
theorem Le.to2 {F' : Hp} {B' : Addr → Prop} {H' : Hp} (e : Le Q w.F w.B w.H F' B' H') (h : ∀ x, P x → Q x) : Le2 P w ⟨F', B', H', w.S⟩ :=
  ⟨e.ex, e.bg, fun a o p nb _ q => e.hp a o (h a p) nb q, e.dom, fun a p => e.nf a (h a p), fun a p => e.nb a (h a p), fun _ _ h => h, fun _ k h => ⟨k, h, rfl⟩⟩
theorem OA.old {F' : Hp} {B' : Addr → Prop} {H' : Hp} (o : OA Z C w) (e : Le Q w.F w.B w.H F' B' H') (h : ∀ x, w.S.L x → Q x) : OA Z C ⟨F', B', H', w.S⟩ := by
  refine ⟨fun a k ha => ?_, o.inj⟩
  obtain ⟨dx, vc, vs, h1, h2, h3, h4, h5, h6⟩ := o.at_ a k ha
  have q : Q k.pl := h _ ⟨a, k, ha, rfl⟩
  exact ⟨dx, vc, vs, e.ex _ _ h1, h2.mono e.ex e.bg, e.nf _ q h3, fun z => h4 (e.nb _ q z), e.hp _ _ q h4 h5, h6.mono e.ex e.bg⟩
theorem OA.dm (o : OA Z C w) : ∀ x, w.S.L x → dm w.H x := by
  rintro x ⟨a, k, ha, rfl⟩
  obtain ⟨dx, vc, vs, h1, h2, h3, h4, h5, h6⟩ := o.at_ a k ha
  unfold DL.dm
  rw [h5]
  exact fun z => nomatch z
theorem Ok.oldE {F' : Hp} {B' : Addr → Prop} {H' : Hp} (o : OA Z C w) (e : Le (DL.dm w.H) w.F w.B w.H F' B' H') (wf : Wf Z F' B' H') : Ok Z C ⟨F', B', H', w.S⟩ := ⟨wf, o.old e o.dm⟩
theorem OwnAt.mono2 {l : Addr} {ds : List D} (h : OwnAt Z w.F w.B w.H l ds) (e : Le2 (dm w.H) w w1) (ns : ¬ w.S.L l) : OwnAt Z w1.F w1.B w1.H l ds := by
  obtain ⟨vs, h1, h2⟩ := h.at_
  have hd : DL.dm w.H l := by unfold DL.dm; rw [h1]; exact fun q => nomatch q
  exact ⟨e.nf l hd h.nf, fun z => h.nb (e.nb l hd z), vs, e.hp l _ hd h.nb ns h1, h2.mono e.ex e.bg⟩
theorem XR.mono2 (h : XR Z w.F w.B w.H (PU P w.S) v x) (e : Le2 (dm w.H) w w1) : XR Z w1.F w1.B w1.H (PU P w1.S) v x := by
  cases x with
  | fr d => exact Rep.mono e.ex e.bg h
  | ow ds =>
    obtain ⟨l, h1, h2, h3⟩ := h
    have ns : ¬ w.S.L l := fun z => h3 (.inr z)
    refine ⟨l, h1, h2.mono2 e ns, fun z => ?_⟩
    rcases z with z | z
    · exact h3 (.inl z)
    · obtain ⟨vs, h4, _⟩ := h2.at_
      exact ns (e.no l (by unfold DL.dm; rw [h4]; exact fun q => nomatch q) z)
theorem XRs.mono2 : ∀ {vs : List V} {xs : List X}, XRs Z w.F w.B w.H (PU P w.S) vs xs → Le2 (dm w.H) w w1 → XRs Z w1.F w1.B w1.H (PU P w1.S) vs xs
  | _, _, .nil, _ => .nil
  | _, _, .cons h r, e => .cons (h.mono2 e) (XRs.mono2 r e)
theorem RS.mono2 (h : RS Z w.F w.B w.H (PU P w.S) σ ρ) (e : Le2 (dm w.H) w w1) : RS Z w1.F w1.B w1.H (PU P w1.S) σ ρ :=
  ⟨h.len, fun i x hx => let ⟨v, h1, h2⟩ := h.val i x hx; ⟨v, h1, h2.mono2 e⟩, h.dif⟩
theorem At2.ok (a : At2 Z C σ w P ρ) : Ok Z C w := ⟨a.at_.wf, a.oa⟩
theorem At2.step (a : At2 Z C σ w P ρ) (e : Le2 (dm w.H) w w1) (o : Ok Z C w1) : At2 Z C σ w1 P ρ := ⟨⟨o.wf, a.at_.rs.mono2 e, fun x h => by
  rcases h with h | h
  · exact e.dom x (a.at_.pd x (.inl h))
  · exact o.oa.dm x h⟩, o.oa⟩
theorem At2.rebase (a : At2 Z C σ w P ρ) (e : Le2 (dm w.H) w w1) : Le2 P w w1 := e.mono fun x h => a.at_.pd x (.inl h)
theorem At2.setFr (a : At2 Z C σ w P ρ) {d : D} (i : Nat) (r : Rep Z w.F w.B v d) : At2 Z C (σ.set i (some v)) w P (ρ.set i (some (.fr d))) := ⟨a.at_.setFr i r, a.oa⟩
/-- the old layer's step of a statement -/
theorem At2.old {F' : Hp} {B' : Addr → Prop} {H' : Hp} {σ' : L2.St} {ρ' : Ρ} (a : At2 Z C σ w P ρ) (e : Le (PU P w.S) w.F w.B w.H F' B' H') (a' : At Z σ' H' F' B' (PU P w.S) ρ') : At2 Z C σ' ⟨F', B', H', w.S⟩ P ρ' := ⟨a', a.oa.old e fun _ h => .inr h⟩
end
/-! ### transformers and readings -/
abbrev WE2 := OS → Ρ → (OS → X → Prop) → Prop
abbrev WT2 := OS → Ρ → (OS → Bool → Prop) → Prop
abbrev WA2 := OS → Ρ → (OS → List X → Prop) → Prop
abbrev WI2 := OS → Ρ → (OS → List D → Prop) → Prop
structure WEnds2 where
  nx : OS → Ρ → Prop
  rt : OS → D → Prop
  bk : OS → Ρ → Prop := fun _ _ => False
  ct : OS → Ρ → Prop := fun _ _ => False
abbrev WS2 := WEnds2 → OS → Ρ → Prop
abbrev WFn2 := List D → OS → (OS → D → Prop) → (OS → XV → Prop) → Prop
/-- what stands around: the classes of errors, the fixed part, the class of kept purses, what is wished of an error -/
structure Md where
  cl : Nat → Addr
  Z : Par
  C : Addr
  E : XK
  xp : OS → XV → Prop
def KR2 (M : Md) (P : Addr → Prop) (w : Wd) : Prop := ∀ w' c d x, Le2 P w w' → Ok M.Z M.C w' → XRep M.cl M.Z w'.F w'.B w'.H c d x → M.xp w'.S x → M.E c d w'.H
def LE2 (M : Md) (we : WE2) : TE := fun σ H Q => ∃ w P ρ post, w.H = H ∧ At2 M.Z M.C σ w P ρ ∧ we w.S ρ post ∧ (∀ w' v x, Le2 (dm w.H) w w' → Ok M.Z M.C w' → XR M.Z w'.F w'.B w'.H (PU P w'.S) v x → post w'.S x → Q v w'.H) ∧ KR2 M (dm w.H) w
def LT2 (M : Md) (we : WT2) : TT := fun σ H Q => ∃ w P ρ post, w.H = H ∧ At2 M.Z M.C σ w P ρ ∧ we w.S ρ post ∧ (∀ w' b, Le2 (dm w.H) w w' → Ok M.Z M.C w' → post w'.S b → Q b w'.H) ∧ KR2 M (dm w.H) w
def LA2 (M : Md) (we : WA2) : TA := fun σ H Q => ∃ w P ρ post, w.H = H ∧ At2 M.Z M.C σ w P ρ ∧ we w.S ρ post ∧ (∀ w' vs xs, Le2 (dm w.H) w w' → Ok M.Z M.C w' → XRs M.Z w'.F w'.B w'.H (PU P w'.S) vs xs → post w'.S xs → Q vs w'.H) ∧ KR2 M (dm w.H) w
def LI2 (M : Md) (we : WI2) : TI := fun σ H R => ∃ w P ρ post, w.H = H ∧ At2 M.Z M.C σ w P ρ ∧ we w.S ρ post ∧ (∀ w' J ds, Le2 (dm w.H) w w' → Ok M.Z M.C w' → WalkD M.Z w'.F w'.B J ds → post w'.S ds → R J w'.H) ∧ KR2 M (dm w.H) w
def LS2 (M : Md) (ws : WS2) : TS := fun Dd σ H => ∃ w P ρ W, w.H = H ∧ At2 M.Z M.C σ w P ρ ∧ ws W w.S ρ ∧
  (∀ w' σ' ρ', Le2 P w w' → At2 M.Z M.C σ' w' P ρ' → W.nx w'.S ρ' → Dd.nx σ' w'.H) ∧
  (∀ w' v d, Le2 P w w' → Ok M.Z M.C w' → Rep M.Z w'.F w'.B v d → W.rt w'.S d → Dd.rt v w'.H) ∧
  (∀ w' σ' ρ', Le2 P w w' → At2 M.Z M.C σ' w' P ρ' → W.bk w'.S ρ' → Dd.bk σ' w'.H) ∧
  (∀ w' σ' ρ', Le2 P w w' → At2 M.Z M.C σ' w' P ρ' → W.ct w'.S ρ' → Dd.ct σ' w'.H) ∧ KR2 M P w
def WEnds2.at_ (W : WEnds2) (S : OS) : WEnds := { nx := W.nx S, rt := W.rt S, bk := W.bk S, ct := W.ct S }
def lE (we : WE) : WE2 := fun S ρ post => we ρ (post S)
def lT (we : WT) : WT2 := fun S ρ post => we ρ (post S)
def lA (we : WA) : WA2 := fun S ρ post => we ρ (post S)
def lI (we : WI) : WI2 := fun S ρ post => we ρ (post S)
def lS (ws : WS) : WS2 := fun W S ρ => ws (W.at_ S) ρ
section
variable {M : Md} {X : Cx} {P : Addr → Prop} {w w1 : Wd} {e a b c tg iter : Expr} {es : List Expr} {st : Stmt} {rest sa sb body : List Stmt} {we wa wb : WE2} {wt wu : WT2} {wl : WA2} {wi : WI2} {t u : WS2} {pos pos' p : Pos}
theorem KR2.later (k : KR2 M P w) (e : Le2 P w w1) : KR2 M P w1 := fun w' c d x e' o r p => k w' c d x (e.trans e') o r p
theorem KR2.back (k : KR2 M (dm w.H) w) (e : Le2 (dm w.H) w w1) : KR2 M (dm w1.H) w1 := fun w' c d x e' o r p => k w' c d x (e.then e') o r p
theorem KR2.dm {σ : L2.St} {ρ : Ρ} (k : KR2 M P w) (a : At2 M.Z M.C σ w P ρ) : KR2 M (DL.dm w.H) w := fun w' c d x e' o r p => k w' c d x (a.rebase e') o r p
/-! #### what has nothing to do with objects -/
theorem re_lift {we : WE} (h : PE X e (LE M.Z we)) : PE X e (LE2 M (lE we)) := peW h fun σ H Q h => by
  obtain ⟨w, P, ρ, post, rfl, a, q, k, kx⟩ := h
  exact ⟨w.F, w.B, _, ρ, _, a.at_, q, fun F' B' H' v x e1 w1 r1 p1 => k ⟨F', B', H', w.S⟩ v x (e1.to2 fun _ h => h) (Ok.oldE a.oa e1 w1) r1 p1⟩
theorem rt_lift {we : WT} (h : PT X e (LT M.Z we)) : PT X e (LT2 M (lT we)) := ptW h fun σ H Q h => by
  obtain ⟨w, P, ρ, post, rfl, a, q, k, kx⟩ := h
  exact ⟨w.F, w.B, _, ρ, _, a.at_, q, fun F' B' H' b e1 w1 p1 => k ⟨F', B', H', w.S⟩ b (e1.to2 fun _ h => h) (Ok.oldE a.oa e1 w1) p1⟩
theorem ra_lift {we : WA} (h : PA X es (LA M.Z we)) : PA X es (LA2 M (lA we)) := paW h fun σ H Q h => by
  obtain ⟨w, P, ρ, post, rfl, a, q, k, kx⟩ := h
  exact ⟨w.F, w.B, _, ρ, _, a.at_, q, fun F' B' H' v x e1 w1 r1 p1 => k ⟨F', B', H', w.S⟩ v x (e1.to2 fun _ h => h) (Ok.oldE a.oa e1 w1) r1 p1⟩
theorem ri_lift {we : WI} (h : PI X tg e (LI M.Z we)) : PI X tg e (LI2 M (lI we)) := piW h fun σ H Q h => by
  obtain ⟨w, P, ρ, post, rfl, a, q, k, kx⟩ := h
  exact ⟨w.F, w.B, _, ρ, _, a.at_, q, fun F' B' H' v x e1 w1 r1 p1 => k ⟨F', B', H', w.S⟩ v x (e1.to2 fun _ h => h) (Ok.oldE a.oa e1 w1) r1 p1⟩
theorem s_lift2 {ws : WS} {Dd : Ends} {σ : L2.St} {H : Hp} (h : LS2 M (lS ws) Dd σ H) : LS M.Z ws Dd σ H := by
  obtain ⟨w, P, ρ, W, rfl, a, q, kn, kr, kb, kc, kx⟩ := h
  have sub : ∀ x, P x → PU P w.S x := fun _ h => .inl h
  exact ⟨w.F, w.B, PU P w.S, ρ, _, a.at_, q, fun F' B' H' σ' ρ' e1 a1 p1 => kn ⟨F', B', H', w.S⟩ σ' ρ' (e1.to2 sub) (a.old e1 a1) p1, fun F' B' H' v d e1 w1 r1 p1 => kr ⟨F', B', H', w.S⟩ v d (e1.to2 sub) ⟨w1, a.oa.old e1 fun _ h => .inr h⟩ r1 p1,
    fun F' B' H' σ' ρ' e1 a1 p1 => kb ⟨F', B', H', w.S⟩ σ' ρ' (e1.to2 sub) (a.old e1 a1) p1, fun F' B' H' σ' ρ' e1 a1 p1 => kc ⟨F', B', H', w.S⟩ σ' ρ' (e1.to2 sub) (a.old e1 a1) p1⟩
theorem rs_lift {ws : WS} (h : PS X st (LS M.Z ws)) : PS X st (LS2 M (lS ws)) := psW h fun _ _ _ h => s_lift2 h
theorem rss_lift {ws : WS} (h : PSs X rest (LS M.Z ws)) : PSs X rest (LS2 M (lS ws)) := pssW h fun _ _ _ h => s_lift2 h
/-- what may raise, without objects -/
theorem rs_liftX {ws : (XV → Prop) → WS} (h : ∀ xp, PS X st (LSX M.cl M.Z M.E xp (ws xp))) : PS X st (LS2 M (fun W S ρ => ws (M.xp S) (W.at_ S) ρ)) := ⟨fun pins s σ H Dd I q => by
  obtain ⟨w, P, ρ, W, rfl, a, q, kn, kr, kb, kc, kx⟩ := q
  have sub : ∀ x, P x → PU P w.S x := fun _ h => .inl h
  exact (h (M.xp w.S)).run pins s σ _ Dd I ⟨w.F, w.B, PU P w.S, ρ, _, a.at_, q, fun F' B' H' σ' ρ' e1 a1 p1 => kn ⟨F', B', H', w.S⟩ σ' ρ' (e1.to2 sub) (a.old e1 a1) p1, fun F' B' H' v d e1 w1 r1 p1 => kr ⟨F', B', H', w.S⟩ v d (e1.to2 sub) ⟨w1, a.oa.old e1 fun _ h => .inr h⟩ r1 p1,
    fun F' B' H' σ' ρ' e1 a1 p1 => kb ⟨F', B', H', w.S⟩ σ' ρ' (e1.to2 sub) (a.old e1 a1) p1, fun F' B' H' σ' ρ' e1 a1 p1 => kc ⟨F', B', H', w.S⟩ σ' ρ' (e1.to2 sub) (a.old e1 a1) p1,
    fun F' B' H' c d x e1 w1 r1 p1 => kx ⟨F', B', H', w.S⟩ c d x (e1.to2 sub) ⟨w1, a.oa.old e1 fun _ h => .inr h⟩ r1 p1⟩⟩
/-! #### expressions -/
def wOp2 (wr : DL.X → DL.X → (DL.X → Prop) → Prop) (wa wb : WE2) : WE2 := fun S ρ post => wa S ρ fun S1 x => wb S1 ρ fun S2 y => wr x y (post S2)
theorem s_op2 {r : R2} {wr : DL.X → DL.X → (DL.X → Prop) → Prop} {σ : L2.St} {H : Hp} {Q : VK} (hs : OpS M.Z r wr) (h : LE2 M (wOp2 wr wa wb) σ H Q) : tOp r (LE2 M wa) (LE2 M wb) σ H Q := by
  obtain ⟨w, P, ρ, post, rfl, a, q, k, kx⟩ := h
  refine ⟨w, P, ρ, _, rfl, a, q, fun w1 v x e1 o1 r1 p1 => ?_, kx⟩
  refine ⟨w1, P, ρ, _, rfl, a.step e1 o1, p1, fun w2 u y e2 o2 r2 p2 => ?_, kx.back e1⟩
  exact hs w2.F w2.B w2.H (PU P w2.S) v u x y _ Q o2.wf (r1.mono2 e2) r2 p2 fun F' B' H' v' x' e3 w3 r3 p3 => k ⟨F', B', H', w2.S⟩ v' x' ((e1.then e2).then (e3.to2 fun _ h => h)) (Ok.oldE o2.oa e3 w3) r3 p3
theorem re_cmp {op : CmpOp} {r : R2} {wr : DL.X → DL.X → (DL.X → Prop) → Prop} (ho : OpR X (compareOp op) r) (hs : OpS M.Z r wr) (ha : PE X a (LE2 M wa)) (hb : PE X b (LE2 M wb)) (hm : behindInMarks op b = false) : PE X (.Compare a [op] [b] pos) (LE2 M (wOp2 wr wa wb)) := peW (pe_cmpR ho ha hb hm) fun _ _ _ h => s_op2 hs h
theorem re_ix {r : R2} {wr : DL.X → DL.X → (DL.X → Prop) → Prop} (hr : IxR X r) (hs : OpS M.Z r wr) (ha : PE X a (LE2 M wa)) (hb : PE X b (LE2 M wb)) (hp : PlainIx b := by exact fun _ _ => rfl) : PE X (.Subscript a b pos) (LE2 M (wOp2 wr wa wb)) := peW (pe_ix hr ha hb hp) fun _ _ _ h => s_op2 hs h
end
end DL

/-! The data layer with objects: expressions, tests, statements. -/
namespace DL
open PySem PySem.Spec PyProof.Rows L2
section
variable {M : Md} {X : Cx} {P : Addr → Prop} {w w1 : Wd} {e a b c tg iter : Expr} {es : List Expr} {st : Stmt} {rest sa sb body : List Stmt} {we wa wb : WE2} {wt wu : WT2} {wl : WA2} {wi : WI2} {t u : WS2} {pos pos' p : Pos} {σ : L2.St} {H : Hp} {Q : VK}
def wTest2 (we : WE2) : WT2 := fun S ρ post => we S ρ fun S1 x => ∃ b, x = .fr (.bool b) ∧ post S1 b
def wAnd2 (t u : WT2) : WT2 := fun S ρ post => t S ρ fun S1 b => if b = true then u S1 ρ post else post S1 false
def wOr2 (t u : WT2) : WT2 := fun S ρ post => t S ρ fun S1 b => if b = true then post S1 true else u S1 ρ post
def wNot2 (t : WT2) : WT2 := fun S ρ post => t S ρ fun S1 b => post S1 (!b)
theorem s_test2 {QT : Bool → Hp → Prop} (h : LT2 M (wTest2 we) σ H QT) : tTest (LE2 M we) σ H QT := by
  obtain ⟨w, P, ρ, post, rfl, a, q, k, kx⟩ := h
  refine ⟨w, P, ρ, _, rfl, a, q, fun w1 v x e1 o1 r1 p1 => ?_, kx⟩
  obtain ⟨b, rfl, p⟩ := p1
  exact ⟨b, Rep.bl_inv r1, k w1 b e1 o1 p⟩
theorem rt_val (h : PE X a (LE2 M wa)) (he : ∀ whole, isTrue a X.env whole = (do let v ← whole; standAt a.pos; holding [v] (truthy v)) := by intro _; rfl) : PT X a (LT2 M (wTest2 wa)) := ptW (pt_val h he) fun _ _ _ q => s_test2 q
theorem rt_cmp {op : CmpOp} {r : R2} {wr : DL.X → DL.X → (DL.X → Prop) → Prop} (ho : OpR X (compareOp op) r) (hs : OpS M.Z r wr) (ha : PE X a (LE2 M wa)) (hb : PE X b (LE2 M wb)) (hm : behindInMarks op b = false) : PT X (.Compare a [op] [b] pos) (LT2 M (wTest2 (wOp2 wr wa wb))) := ptW (pt_cmpR ho ha hb hm) fun σ H Q h => by
  obtain ⟨w, P, ρ, post, rfl, a, q, k, kx⟩ := h
  refine s_op2 hs ⟨w, P, ρ, _, rfl, a, q, fun w1 v x e1 o1 r1 p1 => ?_, kx⟩
  obtain ⟨b, rfl, p⟩ := p1
  exact ⟨b, Rep.bl_inv r1, k w1 b e1 o1 p⟩
theorem s_and2 {QT : Bool → Hp → Prop} (h : LT2 M (wAnd2 wt wu) σ H QT) : tAnd (LT2 M wt) (LT2 M wu) σ H QT := by
  obtain ⟨w, P, ρ, post, rfl, a, q, k, kx⟩ := h
  refine ⟨w, P, ρ, _, rfl, a, q, fun w1 b e1 o1 p1 => ?_, kx⟩
  cases b with
  | true => exact ⟨w1, P, ρ, _, rfl, a.step e1 o1, p1, fun w2 b e2 o2 p2 => k w2 b (e1.then e2) o2 p2, kx.back e1⟩
  | false => exact k w1 false e1 o1 p1
theorem s_or2 {QT : Bool → Hp → Prop} (h : LT2 M (wOr2 wt wu) σ H QT) : tOr (LT2 M wt) (LT2 M wu) σ H QT := by
  obtain ⟨w, P, ρ, post, rfl, a, q, k, kx⟩ := h
  refine ⟨w, P, ρ, _, rfl, a, q, fun w1 b e1 o1 p1 => ?_, kx⟩
  cases b with
  | false => exact ⟨w1, P, ρ, _, rfl, a.step e1 o1, p1, fun w2 b e2 o2 p2 => k w2 b (e1.then e2) o2 p2, kx.back e1⟩
  | true => exact k w1 true e1 o1 p1
theorem s_not2 {QT : Bool → Hp → Prop} (h : LT2 M (wNot2 wt) σ H QT) : tNot (LT2 M wt) σ H QT := by
  obtain ⟨w, P, ρ, post, rfl, a, q, k, kx⟩ := h
  exact ⟨w, P, ρ, _, rfl, a, q, fun w1 b e1 o1 p1 => k w1 _ e1 o1 p1, kx⟩
theorem rw_and1 (ha : PT X a (LT2 M wt)) : PW X (.BoolOp .And [a] pos) (LT2 M wt) := pw_and1 ha
theorem rw_or1 (ha : PT X a (LT2 M wt)) : PW X (.BoolOp .Or [a] pos) (LT2 M wt) := pw_or1 ha
theorem rw_and {rest : List Expr} (ha : PT X a (LT2 M wt)) (hb : PW X (.BoolOp .And (b :: rest) pos) (LT2 M wu)) : PW X (.BoolOp .And (a :: b :: rest) pos) (LT2 M (wAnd2 wt wu)) := pwW (pw_and ha hb) fun _ _ _ h => s_and2 h
theorem rw_or {rest : List Expr} (ha : PT X a (LT2 M wt)) (hb : PW X (.BoolOp .Or (b :: rest) pos) (LT2 M wu)) : PW X (.BoolOp .Or (a :: b :: rest) pos) (LT2 M (wOr2 wt wu)) := pwW (pw_or ha hb) fun _ _ _ h => s_or2 h
theorem rt_not (ha : PT X a (LT2 M wt)) : PT X (.UnaryOp .Not a pos) (LT2 M (wNot2 wt)) := ptW (pt_not ha) fun _ _ _ h => s_not2 h
/-! #### comparisons, subscripts -/
theorem rt_lt (ha : PE X a (LE2 M wa)) (hb : PE X b (LE2 M wb)) : PT X (.Compare a [.Lt] [b] pos) (LT2 M (wTest2 (wOp2 wLt wa wb))) := rt_cmp op_lt o_bI ha hb (nomark _)
theorem rt_ge (ha : PE X a (LE2 M wa)) (hb : PE X b (LE2 M wb)) : PT X (.Compare a [.GtE] [b] pos) (LT2 M (wTest2 (wOp2 wGe wa wb))) := rt_cmp op_ge o_bI ha hb (nomark _)
theorem rt_gt (ha : PE X a (LE2 M wa)) (hb : PE X b (LE2 M wb)) : PT X (.Compare a [.Gt] [b] pos) (LT2 M (wTest2 (wOp2 wGt wa wb))) := rt_cmp op_gt o_bI ha hb (nomark _)
theorem rt_eq (hK : X.K = M.Z.K) (hu : X.A.units + 64 < cLine) (ha : PE X a (LE2 M wa)) (hb : PE X b (LE2 M wb)) : PT X (.Compare a [.Eq] [b] pos) (LT2 M (wTest2 (wOp2 (wEq false) wa wb))) := rt_cmp (op_eqD hu) (fun F B H P v u x y post Q w rx ry wr k => by
  obtain ⟨s1, s2, p⟩ := wr
  rw [hK]
  exact ⟨_, _, XR.dp w rx (SeqAt.canLay_of_shaped s1), XR.dp w ry (SeqAt.canLay_of_shaped s2), s1, s2, KX.here k w (x := .fr _) (.bl _) p⟩) ha hb (nomark _)
theorem rt_ne (hK : X.K = M.Z.K) (hu : X.A.units + 64 < cLine) (ha : PE X a (LE2 M wa)) (hb : PE X b (LE2 M wb)) : PT X (.Compare a [.NotEq] [b] pos) (LT2 M (wTest2 (wOp2 (wEq true) wa wb))) := rt_cmp (op_neD hu) (fun F B H P v u x y post Q w rx ry wr k => by
  obtain ⟨s1, s2, p⟩ := wr
  rw [hK]
  exact ⟨_, _, XR.dp w rx (SeqAt.canLay_of_shaped s1), XR.dp w ry (SeqAt.canLay_of_shaped s2), s1, s2, KX.here k w (x := .fr _) (.bl _) p⟩) ha hb (nomark _)
theorem re_sub_ (hK : X.K = M.Z.K) (ha : PE X a (LE2 M wa)) (hb : PE X b (LE2 M wb)) (hp : PlainIx b := by exact fun _ _ => rfl) : PE X (.Subscript a b pos) (LE2 M (wOp2 wIx wa wb)) :=
  re_ix ix_seq (fun F B H P v u x y post Q w rx ry wr k => by
    obtain ⟨ds, i, d, rfl, it, h, q⟩ := wr
    obtain ⟨p, us, rfl, hs, ra⟩ := it.at w rx
    obtain ⟨z, h1, h2⟩ := atI_rep ra h
    rw [hK]
    rcases hs with hs | hs
    · exact .inl ⟨p, us, i, z, rfl, Rep.int_inv ry, hs, h1, KX.here k w (x := .fr d) h2 q⟩
    · exact .inr (.inl ⟨p, us, i, z, rfl, Rep.int_inv ry, hs, h1, KX.here k w (x := .fr d) h2 q⟩)) ha hb hp
/-! #### lists of expressions, tuples -/
def wNil2 : WA2 := fun S _ post => post S []
def wCons2 (we : WE2) (wr : WA2) : WA2 := fun S ρ post => we S ρ fun S1 x => wr S1 ρ fun S2 xs => post S2 (x :: xs)
theorem ra_nil : PA X [] (LA2 M wNil2) := paW pa_nil fun σ H Q h => by
  obtain ⟨w, P, ρ, post, rfl, a, q, k, kx⟩ := h
  exact k w [] [] Le2.refl a.ok .nil q
theorem ra_cons (ha : PE X e (LE2 M we)) (hr : PA X es (LA2 M wl)) (hs : starEach (e :: es) X.env = (false, eval e X.env) :: starEach es X.env := by rfl) : PA X (e :: es) (LA2 M (wCons2 we wl)) := paW (pa_cons ha hr hs) fun σ H Q h => by
  obtain ⟨w, P, ρ, post, rfl, a, q, k, kx⟩ := h
  refine ⟨w, P, ρ, _, rfl, a, q, fun w1 v x e1 o1 r1 p1 => ?_, kx⟩
  exact ⟨w1, P, ρ, _, rfl, a.step e1 o1, p1, fun w2 vs xs e2 o2 r2 p2 => k w2 (v :: vs) (x :: xs) (e1.then e2) o2 (.cons (r1.mono2 e2) r2) p2, kx.back e1⟩
def wTup2 (wl : WA2) : WE2 := fun S ρ post => wl S ρ fun S1 xs => ∃ ds, xs = ds.map DL.X.fr ∧ ds.length ≤ 100000 ∧ post S1 (.fr (.tuple ds))
theorem re_tup {x1} (h : PA X es (LA2 M wl)) : PE X (.Tuple es x1 pos) (LE2 M (wTup2 wl)) := peW (pe_tup h) fun σ H Q h => by
  obtain ⟨w, P, ρ, post, rfl, a, q, k, kx⟩ := h
  refine ⟨w, P, ρ, _, rfl, a, q, fun w1 vs xs e1 o1 r1 p1 => ?_, kx⟩
  obtain ⟨ds, rfl, hl, p⟩ := p1
  have r := XRs.fr r1
  refine ⟨by rw [r.length]; exact sz hl, fun q hq => ?_⟩
  have fq : w1.F q = none := Evl.fresh_back o1.wf.ex hq
  have l1 := Le.new (o := .tup vs) o1.wf hq
  exact k ⟨upd w1.F q (.tup vs), w1.B, upd w1.H q (.tup vs), w1.S⟩ _ (.fr (.tuple ds)) (e1.then (l1.to2 fun _ h => h)) (Ok.oldE o1.oa l1 (o1.wf.new hq)) (.tup upd_same (r.mono (Evl.Ex.new fq) fun _ h => h)) p
/-! #### calls of defs without objects -/
def wFcall2 (wf : WFn) (wl : WA2) : WE2 := fun S ρ post => wl S ρ fun S1 xs => ∃ ds, xs = ds.map DL.X.fr ∧ wf ds fun d => post S1 (.fr d)
theorem re_call {k j : Nat} {x : Str} {ps : List Str} {wf : WFn} (c : Cal M.Z X.prog X.w X.mg X.base k x ps wf) (hK : X.K = M.Z.K) (hr : Room j X.A) (hjk : k ≤ j) (ha : PA X (e :: es) (LA2 M wl)) (hg : Gl X x := by rfl) (hdb : (x == ("__debug__" : Str)) = false := by decide)
    (he : starEach (e :: es) X.env = (false, eval e X.env) :: starEach es X.env := by rfl) (hpl : (backTo pos (starEach es X.env)).any (·.1) = false := by rfl) : PE X (.Call (.Name x p) (e :: es) [] pos) (LE2 M (wFcall2 wf wl)) := by
  obtain ⟨f, fd, G, hm, hk, bi⟩ := c
  rw [← hK] at G hk bi
  refine peW (pe_call G (hr.mono hjk) hg hm hk bi .nil pass0 ha hdb he hpl) fun σ H Q h => ?_
  obtain ⟨w, P, ρ, post, rfl, a, q, k, kx⟩ := h
  refine ⟨w, P, ρ, _, rfl, a, q, fun w1 vs xs e1 o1 r1 p1 => ?_, kx⟩
  obtain ⟨ds, rfl, q⟩ := p1
  refine ⟨w1.F, w1.B, ds, _, o1.wf, ?_, q, fun F2 B2 H2 v d e2 w2 r2 p2 => k ⟨F2, B2, H2, w1.S⟩ v (.fr d) (e1.then (e2.to2 fun _ h => h)) (Ok.oldE o1.oa e2 w2) r2 p2⟩
  rw [List.append_nil]
  exact XRs.fr r1
/-! #### statements -/
def wsSeq2 (t u : WS2) : WS2 := fun W S ρ => t { W with nx := u W } S ρ
def wsNext2 : WS2 := fun W S ρ => W.nx S ρ
def wsSet2 (i : Nat) (we : WE2) : WS2 := fun W S ρ => we S ρ fun S1 x => ∃ d, x = .fr d ∧ W.nx S1 (ρ.set i (some (.fr d)))
def wsAsg2 (we : WE2) (wg : WG) : WS2 := fun W S ρ => we S ρ fun S1 x => ∃ d, x = .fr d ∧ wg d ρ (W.nx S1)
def wsRet2 (we : WE2) : WS2 := fun W S ρ => we S ρ fun S1 x => ∃ d, x = .fr d ∧ W.rt S1 d
def wsExpr2 (we : WE2) : WS2 := fun W S ρ => we S ρ fun S1 _ => W.nx S1 ρ
def wsIf2 (wt : WT2) (a b : WS2) : WS2 := fun W S ρ => wt S ρ fun S1 c => if c = true then a W S1 ρ else b W S1 ρ
def wsWhile2 (wt : WT2) (wb : WS2) : WS2 := fun W S ρ => ∃ Inv : Nat → OS → Ρ → Prop, (∃ m, Inv m S ρ) ∧ ∀ m S1 ρ1, Inv m S1 ρ1 → wt S1 ρ1 fun S2 b => if b = true then wb { W with nx := fun S3 ρ2 => ∃ m', m' < m ∧ Inv m' S3 ρ2, ct := fun S3 ρ2 => ∃ m', m' < m ∧ Inv m' S3 ρ2, bk := W.nx } S2 ρ1 else W.nx S2 ρ1
def wsFor2 (wi : WI2) (wg : WG) (wb : WS2) : WS2 := fun W S ρ => wi S ρ fun S0 ds => ∃ Inv : Nat → OS → Ρ → Prop, Inv 0 S0 ρ ∧ (∀ i d S1 ρ1, ds[i]? = some d → Inv i S1 ρ1 → wg d ρ1 fun ρ2 => wb { W with nx := Inv (i + 1), ct := Inv (i + 1), bk := W.nx } S1 ρ2) ∧ ∀ S1 ρ1, Inv ds.length S1 ρ1 → W.nx S1 ρ1
theorem rss_nil : PSs X [] (LS2 M wsNext2) := pssW pss_nil fun Dd σ H h => by
  obtain ⟨w, P, ρ, W, rfl, a, q, kn, kr, kb, kc, kx⟩ := h
  exact kn w σ ρ Le2.refl a q
theorem rss_one (h1 : PS X st (LS2 M t)) : PSs X [st] (LS2 M t) := pss_one h1
theorem rss_cons (h1 : PS X st (LS2 M t)) (h2 : PSs X rest (LS2 M u)) : PSs X (st :: rest) (LS2 M (wsSeq2 t u)) := pssW (pss_cons h1 h2) fun Dd σ H h => by
  obtain ⟨w, P, ρ, W, rfl, a, q, kn, kr, kb, kc, kx⟩ := h
  refine ⟨w, P, ρ, _, rfl, a, q, fun w1 σ1 ρ1 e1 a1 p1 => ?_, kr, kb, kc, kx⟩
  exact ⟨w1, P, ρ1, W, rfl, a1, p1, fun w2 σ2 ρ2 e2 a2 p2 => kn w2 σ2 ρ2 (e1.trans e2) a2 p2, fun w2 v d e2 o2 r2 p2 => kr w2 v d (e1.trans e2) o2 r2 p2, fun w2 σ2 ρ2 e2 a2 p2 => kb w2 σ2 ρ2 (e1.trans e2) a2 p2, fun w2 σ2 ρ2 e2 a2 p2 => kc w2 σ2 ρ2 (e1.trans e2) a2 p2, kx.later e1⟩
theorem rs_set (i : Nat) {x : Str} (hN : X.N.Nodup) (hi : X.N[i]? = some x) (hx : Loc X.env.scope x) (he : PE X e (LE2 M we)) (hs : swapsWith e (some (.Name x pos')) pos.line X.env = pure false := by rfl) (hf : X.fn x = true ∨ X.env.scope.names.lookup x = some .local := by first | exact .inl rfl | exact .inr rfl | assumption) :
    PS X (.Assign [.Name x pos'] e pos) (LS2 M (wsSet2 i we)) := psW (ps_set hN hi hx he hs hf) fun Dd σ H h => by
  obtain ⟨w, P, ρ, W, rfl, a, q, kn, kr, kb, kc, kx⟩ := h
  refine ⟨w, P, ρ, _, rfl, a, q, fun w1 v x e1 o1 r1 p1 => ?_, KR2.dm kx a⟩
  obtain ⟨d, rfl, q⟩ := p1
  exact kn w1 _ _ (a.rebase e1) ((a.step e1 o1).setFr i r1) q
theorem rs_asg {g : TG} {wg : WG} {js : List Nat} (gs : GS M.Z g wg js) (he : PE X e (LE2 M we)) (hg : PG X tg g) (hs : swapsWithSole [tg] e pos.line X.env = pure false := by rfl) (hw : swappedStores [tg] e X.env = pure none := by rfl) (h1 : (assignEach [tg] X.env).map (·.2) = [assign tg X.env] := by rfl) : PS X (.Assign [tg] e pos) (LS2 M (wsAsg2 we wg)) := psW (ps_asg he hg hs hw h1) fun Dd σ H h => by
  obtain ⟨w, P, ρ, W, rfl, a, q, kn, kr, kb, kc, kx⟩ := h
  refine ⟨w, P, ρ, _, rfl, a, q, fun w1 v x e1 o1 r1 p1 => ?_, KR2.dm kx a⟩
  obtain ⟨d, rfl, q⟩ := p1
  have a1 := a.step e1 o1
  exact gs w1.F w1.B w1.H (PU P w1.S) σ ρ v d _ _ a1.at_ r1 q fun σ' ρ' a' _ p' => kn w1 σ' ρ' (a.rebase e1) ⟨a', o1.oa⟩ p'
theorem rs_ret (he : PE X e (LE2 M we)) : PS X (.Return (some e) pos) (LS2 M (wsRet2 we)) := psW (ps_ret he) fun Dd σ H h => by
  obtain ⟨w, P, ρ, W, rfl, a, q, kn, kr, kb, kc, kx⟩ := h
  refine ⟨w, P, ρ, _, rfl, a, q, fun w1 v x e1 o1 r1 p1 => ?_, KR2.dm kx a⟩
  obtain ⟨d, rfl, q⟩ := p1
  exact kr w1 v d (a.rebase e1) o1 r1 q
theorem rs_expr (he : PE X e (LE2 M we)) (hs : swapsWith e none pos.line X.env = pure false := by rfl) : PS X (.Expr e pos) (LS2 M (wsExpr2 we)) := psW (ps_expr he hs) fun Dd σ H h => by
  obtain ⟨w, P, ρ, W, rfl, a, q, kn, kr, kb, kc, kx⟩ := h
  exact ⟨w, P, ρ, _, rfl, a, q, fun w1 v x e1 o1 r1 p1 => kn w1 σ ρ (a.rebase e1) (a.step e1 o1) p1, KR2.dm kx a⟩
theorem rs_if (hc : PT X c (LT2 M wt)) (ha : PSs X sa (LS2 M t)) (hb : PSs X sb (LS2 M u)) : PS X (.If c sa sb pos) (LS2 M (wsIf2 wt t u)) := psW (ps_if hc ha hb) fun Dd σ H h => by
  obtain ⟨w, P, ρ, W, rfl, a, q, kn, kr, kb, kc, kx⟩ := h
  refine ⟨w, P, ρ, _, rfl, a, q, fun w1 b e1 o1 p1 => ?_, KR2.dm kx a⟩
  have e := a.rebase e1
  cases b with
  | true => exact ⟨w1, P, ρ, W, rfl, a.step e1 o1, p1, fun w2 σ2 ρ2 e2 a2 p2 => kn w2 σ2 ρ2 (e.trans e2) a2 p2, fun w2 v d e2 o2 r2 p2 => kr w2 v d (e.trans e2) o2 r2 p2, fun w2 σ2 ρ2 e2 a2 p2 => kb w2 σ2 ρ2 (e.trans e2) a2 p2, fun w2 σ2 ρ2 e2 a2 p2 => kc w2 σ2 ρ2 (e.trans e2) a2 p2, kx.later e⟩
  | false => exact ⟨w1, P, ρ, W, rfl, a.step e1 o1, p1, fun w2 σ2 ρ2 e2 a2 p2 => kn w2 σ2 ρ2 (e.trans e2) a2 p2, fun w2 v d e2 o2 r2 p2 => kr w2 v d (e.trans e2) o2 r2 p2, fun w2 σ2 ρ2 e2 a2 p2 => kb w2 σ2 ρ2 (e.trans e2) a2 p2, fun w2 σ2 ρ2 e2 a2 p2 => kc w2 σ2 ρ2 (e.trans e2) a2 p2, kx.later e⟩
theorem rs_while (hp : PassesOwn (model X.prog X.w) X.A X.env X.xe) (hc : PT X c (LT2 M wt)) (hb : PSs X body (LS2 M t)) : PS X (.While c body [] pos) (LS2 M (wsWhile2 wt t)) := psW (ps_while hp hc hb) fun Dd σ H h => by
  obtain ⟨w, P, ρ, W, rfl, a, ⟨Inv, ⟨m0, i0⟩, turn⟩, kn, kr, kb, kc, kx⟩ := h
  refine ⟨fun m σ' H' => ∃ w' ρ', w'.H = H' ∧ Le2 P w w' ∧ At2 M.Z M.C σ' w' P ρ' ∧ Inv m w'.S ρ', ⟨m0, w, ρ, rfl, Le2.refl, a, i0⟩, ?_⟩
  rintro m σ1 H1 ⟨w1, ρ1, rfl, e1, a1, i1⟩
  refine ⟨w1, P, ρ1, _, rfl, a1, turn m w1.S ρ1 i1, fun w2 b e2 o2 p2 => ?_, KR2.dm (kx.later e1) a1⟩
  have e12 := e1.trans (a1.rebase e2)
  have a2 := a1.step e2 o2
  cases b with
  | false => exact kn w2 _ _ e12 a2 p2
  | true =>
    refine ⟨fun σ' H' => ∃ m', m' < m ∧ ∃ w' ρ', w'.H = H' ∧ Le2 P w w' ∧ At2 M.Z M.C σ' w' P ρ' ∧ Inv m' w'.S ρ', fun σ' H' q => q, w2, P, ρ1, _, rfl, a2, p2, fun w3 σ3 ρ3 e3 a3 p3 => ?_, fun w3 v d e3 o3 r3 p3 => kr w3 v d (e12.trans e3) o3 r3 p3, fun w3 σ3 ρ3 e3 a3 p3 => kn w3 σ3 ρ3 (e12.trans e3) a3 p3, fun w3 σ3 ρ3 e3 a3 p3 => ?_, kx.later e12⟩
    · obtain ⟨m', hm, i3⟩ := p3
      exact ⟨m', hm, w3, ρ3, rfl, e12.trans e3, a3, i3⟩
    · obtain ⟨m', hm, i3⟩ := p3
      exact ⟨m', hm, w3, ρ3, rfl, e12.trans e3, a3, i3⟩
theorem rs_for {g : TG} {wg : WG} {js : List Nat} (gs : GS M.Z g wg js) (hp : PassesOwn (model X.prog X.w) X.A X.env X.xe) (hc : X.calm = true) (hi : PI X tg iter (LI2 M wi)) (hg : PG X tg g) (hb : PSs X body (LS2 M t))
    (hs : ∀ x, foldedSetIterable iter X.env x = pure x := by intro _; rfl) : PS X (.For tg iter body [] pos) (LS2 M (wsFor2 wi wg t)) := psW (ps_for hp hc hi hg hb hs) fun Dd σ H h => by
  obtain ⟨w, P, ρ, W, rfl, a, q, kn, kr, kb, kc, kx⟩ := h
  refine ⟨w, P, ρ, _, rfl, a, q, fun w1 J ds e1 o1 wk p1 => ?_, KR2.dm kx a⟩
  obtain ⟨Inv, i0, turn, fin⟩ := p1
  have b1 := a.rebase e1
  refine ⟨fun i m σ' H' => m = ds.length - i ∧ i ≤ ds.length ∧ ∃ w' ρ', w'.H = H' ∧ Le2 P w1 w' ∧ At2 M.Z M.C σ' w' P ρ' ∧ Inv i w'.S ρ', ⟨ds.length, by simp, Nat.zero_le _, w1, ρ, rfl, Le2.refl, a.step e1 o1, i0⟩, ?_⟩
  rintro i m σ2 H2 ⟨rfl, hi, w2, ρ2, rfl, e2, a2, i2⟩
  by_cases hlt : i < ds.length
  · refine .inr ⟨wk.go i w2.F w2.B w2.H e2.ex e2.bg a2.at_.wf hlt, fun σ' H' => ∃ w' ρ', w'.H = H' ∧ Le2 P w1 w' ∧ At2 M.Z M.C σ' w' P ρ' ∧ Inv (i + 1) w'.S ρ', fun σ' H' q => ⟨ds.length - (i + 1), by omega, rfl, hlt, q⟩, fun x H3 y => ?_⟩
    obtain ⟨F3, d, hd, e3, wf3, rx⟩ := wk.yld i w2.F w2.B w2.H x H3 e2.ex e2.bg a2.at_.wf hlt y
    have e3' : Le2 (dm w2.H) w2 ⟨F3, w2.B, H3, w2.S⟩ := e3.to2 fun _ h => h
    have a3 := a2.step e3' (Ok.oldE a2.oa e3 wf3)
    have e23 := e2.trans (a2.rebase e3')
    refine gs F3 w2.B H3 (PU P w2.S) σ2 ρ2 x d _ _ a3.at_ rx (turn i d w2.S ρ2 hd i2) fun σ4 ρ4 a4 _ t4 => ?_
    exact ⟨⟨F3, w2.B, H3, w2.S⟩, P, ρ4, _, rfl, ⟨a4, a3.oa⟩, t4, fun w5 σ5 ρ5 e5 a5 p5 => ⟨w5, ρ5, rfl, e23.trans e5, a5, p5⟩, fun w5 v d e5 o5 r5 p5 => kr w5 v d ((b1.trans e23).trans e5) o5 r5 p5, fun w5 σ5 ρ5 e5 a5 p5 => kn w5 σ5 ρ5 ((b1.trans e23).trans e5) a5 p5, fun w5 σ5 ρ5 e5 a5 p5 => ⟨w5, ρ5, rfl, e23.trans e5, a5, p5⟩, kx.later (b1.trans e23)⟩
  · have ei : i = ds.length := by omega
    subst ei
    exact .inl ⟨wk.stop w2.F w2.B w2.H e2.ex e2.bg a2.at_.wf, kn w2 _ _ (b1.trans e2) a2 (fin w2.S ρ2 i2)⟩
end
end DL

/-! The data layer with objects: defs, methods, fields. -/
namespace DL
open PySem PySem.Spec PyProof.Rows L2
/-! ### the state of an object is changed -/
section
variable {Z : Par} {C : Addr} {P P' Q : Addr → Prop} {w w1 : Wd} {σ : L2.St} {ρ : Ρ}
abbrev Wd.past (w : Wd) (b : Addr) (k : KO) (us : List V) (es : List D) : Wd := ⟨w.F, w.B, upd w.H k.pl (.lst us), w.S.put b { k with past := es }⟩
theorem OS.put_L {S : OS} {b : Addr} {k k' : KO} (h : S b = some k) (e : k'.pl = k.pl) {x : Addr} : (S.put b k').L x ↔ S.L x := by
  constructor
  · rintro ⟨a, l, h1, h2⟩
    by_cases ha : a = b
    · subst ha
      rw [OS.put_same] at h1
      cases h1
      exact ⟨a, k, h, e.symm.trans h2⟩
    · rw [OS.put_ne ha] at h1
      exact ⟨a, l, h1, h2⟩
  · rintro ⟨a, l, h1, h2⟩
    by_cases ha : a = b
    · subst ha
      rw [h] at h1
      cases h1
      exact ⟨a, k', OS.put_same, e.trans h2⟩
    · exact ⟨a, l, by rw [OS.put_ne ha]; exact h1, h2⟩
theorem Ok.past (o : Ok Z C w) {b : Addr} {k : KO} (hS : w.S b = some k) {us : List V} {es : List D} (r : RepAll Z w.F w.B us es) : Le2 P w (w.past b k us es) ∧ Ok Z C (w.past b k us es) := by
  obtain ⟨dx, vc, vs, h1, h2, h3, h4, h5, h6⟩ := o.oa.at_ b k hS
  have hL : ∀ x, (w.S.put b { k with past := es }).L x ↔ w.S.L x := fun x => OS.put_L (k' := { k with past := es }) hS rfl
  refine ⟨⟨Evl.Ex.refl _, fun _ h => h, fun x u _ _ ns e => ?_, fun x n => ?_, fun _ _ h => h, fun _ _ h => h, fun x _ h => (hL x).mp h, fun a l h => ?_⟩, ⟨o.wf.ex.mut h3, fun x hb => ?_, o.wf.tabs⟩, fun a l h => ?_, fun a c l m h g e => ?_⟩
  · show upd w.H k.pl _ x = _
    rw [upd_ne (fun z => ns ⟨b, k, hS, z.symm⟩)]
    exact e
  · show upd w.H k.pl _ x ≠ none
    by_cases hx : x = k.pl
    · rw [hx, upd_same]; exact fun q => nomatch q
    · rw [upd_ne hx]; exact n
  · by_cases ha : a = b
    · subst ha
      rw [hS] at h
      cases h
      exact ⟨_, OS.put_same, rfl⟩
    · exact ⟨l, by show w.S.put b _ a = _; rw [OS.put_ne ha]; exact h, rfl⟩
  · obtain ⟨b1, b2⟩ := o.wf.bags x hb
    exact ⟨b1, b2.mono (Evl.Ex.refl _) (upd_ne fun z => h4 (by rw [← z]; exact hb))⟩
  · by_cases ha : a = b
    · subst ha
      have h : w.S.put a { k with past := es } a = some l := h
      rw [OS.put_same] at h
      cases h
      exact ⟨dx, vc, us, h1, h2, h3, h4, upd_same, r⟩
    · have h : w.S.put b { k with past := es } a = some l := h
      rw [OS.put_ne ha] at h
      obtain ⟨dx', vc', vs', g1, g2, g3, g4, g5, g6⟩ := o.oa.at_ a l h
      exact ⟨dx', vc', vs', g1, g2, g3, g4, by show upd w.H k.pl _ l.pl = _; rw [upd_ne (fun z => ha (o.oa.inj a b l k h hS z))]; exact g5, g6⟩
  · have key : ∀ (a : Addr) (l : KO), w.S.put b { k with past := es } a = some l → ∃ l', w.S a = some l' ∧ l'.pl = l.pl := fun a l h => by
      by_cases ha : a = b
      · subst ha
        rw [OS.put_same] at h
        cases h
        exact ⟨k, hS, rfl⟩
      · rw [OS.put_ne ha] at h
        exact ⟨l, h, rfl⟩
    obtain ⟨l', q1, q2⟩ := key a l h
    obtain ⟨m', q3, q4⟩ := key c m g
    exact o.oa.inj a c l' m' q1 q3 (by rw [q2, q4]; exact e)
end
/-! ### defs without errors -/
abbrev WFc2 := List D → OS → (OS → D → Prop) → Prop
def LF2c (Z : Par) (C : Addr) (wf : WFc2) : Sp := fun vs H Q _ => ∃ w ds post, w.H = H ∧ Ok Z C w ∧ RepAll Z w.F w.B vs ds ∧ wf ds w.S post ∧ ∀ w' v d, Le2 (dm w.H) w w' → Ok Z C w' → Rep Z w'.F w'.B v d → post w'.S d → Q v w'.H
def LF2 (cl : Nat → Addr) (Z : Par) (C : Addr) (wf : WFn2) : Sp := fun vs H Q E => ∃ w ds post xp, w.H = H ∧ Ok Z C w ∧ RepAll Z w.F w.B vs ds ∧ wf ds w.S post xp ∧ (∀ w' v d, Le2 (dm w.H) w w' → Ok Z C w' → Rep Z w'.F w'.B v d → post w'.S d → Q v w'.H) ∧ KR2 ⟨cl, Z, C, E, xp⟩ (dm w.H) w
/-- calm -/
abbrev Md0 (cl : Nat → Addr) (Z : Par) (C : Addr) : Md := ⟨cl, Z, C, fun _ _ _ => False, fun _ _ => False⟩
theorem start_at2 {Z : Par} {C : Addr} {w : Wd} {N : List Str} {vs : List V} {ds : List D} (o : Ok Z C w) (r : RepAll Z w.F w.B vs ds) : At2 Z C (L2.start N vs) w (dm w.H) (startR N.length ds) := ⟨⟨o.wf, start_rs r, fun a h => h.elim id (o.oa.dm a)⟩, o.oa⟩
section
variable {cl : Nat → Addr} {Pg : Program} {w : World} {Z : Par} {C : Addr} {mg : Str → Option Value} {base : Heap} {x qual n0 : Str} {st : Stmt} {f : Addr} {fd : FuncData} {ps N : List Str} {k : Nat}
def Cal2 (Z : Par) (C : Addr) (P : Program) (w : World) (mg : Str → Option Value) (base : Heap) (k : Nat) (x : Str) (ps : List Str) (wf : WFc2) : Prop := ∃ f fd, FnOk P w Z.K mg base CX0 k f fd ps (LF2c Z C wf) ∧ mg x = some (.ref f) ∧ PySem.W.keepIn Z.K (.ref f) = true ∧ Binds Z.K fd ps []
theorem fn_data2 {ws : WS2} {wf : WFc2} (F : Fun Z.K x x st f fd) (S : FnScope N ps (defScope st)) (len : ∀ ds S post, wf ds S post → ds.length = ps.length)
    (hb : ∀ (f : Addr) (cdv : Value) (A : Around) (outer : List Env) (s : Shared) (H : Hp) (E : XK), Room k (A.deeper (envOfC x (defScope st) s.heap.objs.size f cdv)) → PSs (cxOf CX0 Pg w Z.K mg base N x (defScope st) f cdv A outer s H E).nox (defBody st) (LS2 (Md0 cl Z C) ws))
    (hd : ∀ ds S post, wf ds S post → ws { nx := fun S _ => post S .none, rt := post } S (startR N.length ds)) : FnOk Pg w Z.K mg base CX0 (k + 1) f fd ps (LF2c Z C wf) := by
  refine F.ok S (fun vs H Q E h => ?_) (fun cdv A outer s H vs Q E hr h => ⟨_, hb f cdv A outer s H E hr, ?_⟩)
  · obtain ⟨w, ds, post, _, _, r, p, _⟩ := h
    rw [r.length]
    exact len ds _ post p
  · obtain ⟨w, ds, post, rfl, o, r, p, kk⟩ := h
    exact ⟨w, dm w.H, _, _, rfl, start_at2 o r, hd ds w.S post p, fun w' σ' ρ' e1 a1 p1 => kk w' .non .none e1 a1.ok .non p1, fun w' v d e1 o1 r1 p1 => kk w' v d e1 o1 r1 p1, fun _ _ _ _ _ z => z.elim, fun _ _ _ _ _ z => z.elim, fun _ _ _ _ _ _ _ z => z.elim⟩
theorem Def.cal2 {ws : WS2} {wf : WFc2} (d : Def Z.K mg x st ps) (S : FnScope N ps (defScope st)) (len : ∀ ds S post, wf ds S post → ds.length = ps.length)
    (hb : ∀ (f : Addr) (cdv : Value) (A : Around) (outer : List Env) (s : Shared) (H : Hp) (E : XK), Room k (A.deeper (envOfC x (defScope st) s.heap.objs.size f cdv)) → PSs (cxOf CX0 Pg w Z.K mg base N x (defScope st) f cdv A outer s H E).nox (defBody st) (LS2 (Md0 cl Z C) ws))
    (hd : ∀ ds S post, wf ds S post → ws { nx := fun S _ => post S .none, rt := post } S (startR N.length ds)) : Cal2 Z C Pg w mg base (k + 1) x ps wf := by
  obtain ⟨f, fd, F, hm, bi⟩ := d
  exact ⟨f, fd, fn_data2 F S len hb hd, hm, F.kp, bi⟩
/-- a def that is called without objects -/
theorem FnOk.from2 {wf : WFn} {wf2 : WFc2} (F : FnOk Pg w Z.K mg base CX0 k f fd ps (LF2c Z C wf2)) (h : ∀ ds post, wf ds post → wf2 ds (fun _ => none) fun _ d => post d) : FnOk Pg w Z.K mg base CX0 k f fd ps (LF Z wf) := F.imp fun vs H Q E q => by
  obtain ⟨F1, B, ds, post, wF, r, p, k⟩ := q
  refine ⟨⟨F1, B, H, fun _ => none⟩, ds, _, rfl, ⟨wF, ⟨fun _ _ h => (by cases h), fun _ _ _ _ h => (by cases h)⟩⟩, r, h ds post p, fun w' v d e o r p => k w'.F w'.B w'.H v d ?_ o.wf r p⟩
  exact ⟨e.ex, e.bg, fun a o p nb q => e.hp a o p nb (fun z => by obtain ⟨b, k, z, _⟩ := z; cases z) q, e.dom, e.nf, e.nb⟩
/-! ### methods -/
def Met (cl : Nat → Addr) (Z : Par) (C : Addr) (P : Program) (w : World) (mg : Str → Option Value) (base : Heap) (k : Nat) (m : Str) (ps : List Str) (wf : WFn2) : Prop := ∃ f fd, FnOk P w Z.K mg base (L2N.CX P w) k f fd ps (LF2 cl Z C wf) ∧ Cls Z.K C ∧ Meth Z.K C m f ∧ Binds Z.K fd ps []
theorem met_of {m : Str} {ws : (OS → XV → Prop) → WS2} {wf : WFn2} (F : Fun Z.K n0 qual st f fd) (c : Cls Z.K C) (hm : Meth Z.K C m f) (bi : Binds Z.K fd ps []) (S : FnScope N ps (defScope st)) (len : ∀ ds S post xp, wf ds S post xp → ds.length = ps.length)
    (hb : ∀ (f : Addr) (cdv : Value) (A : Around) (outer : List Env) (s : Shared) (H : Hp) (E : XK) (xp : OS → XV → Prop), Room k (A.deeper (envOfC qual (defScope st) s.heap.objs.size f cdv)) → PSs (cxOf (L2N.CX Pg w) Pg w Z.K mg base N qual (defScope st) f cdv A outer s H E) (defBody st) (LS2 ⟨cl, Z, C, E, xp⟩ (ws xp)))
    (hd : ∀ ds S post xp, wf ds S post xp → ws xp { nx := fun S _ => post S .none, rt := post } S (startR N.length ds)) : Met cl Z C Pg w mg base (k + 1) m ps wf := by
  refine ⟨f, fd, fun_okN F S (fun vs H Q E h => ?_) (fun cdv A outer s H vs Q E hr h => ?_), c, hm, bi⟩
  · obtain ⟨w, ds, post, xp, _, _, r, p, _⟩ := h
    rw [r.length]
    exact len ds _ post xp p
  · obtain ⟨w, ds, post, xp, rfl, o, r, p, kk, kx⟩ := h
    exact ⟨_, hb f cdv A outer s w.H E xp hr, w, dm w.H, _, _, rfl, start_at2 o r, hd ds w.S post xp p, fun w' σ' ρ' e1 a1 p1 => kk w' .non .none e1 a1.ok .non p1, fun w' v d e1 o1 r1 p1 => kk w' v d e1 o1 r1 p1, fun _ _ _ _ _ z => z.elim, fun _ _ _ _ _ z => z.elim, kx⟩
end
/-! ### calls -/
section
variable {M : Md} {X : Cx} {P : Addr → Prop} {w w1 : Wd} {e o : Expr} {es : List Expr} {we : WE2} {wl : WA2} {pos apos p : Pos} {σ : L2.St} {H : Hp} {Q : VK} {j k : Nat} {ps : List Str}
def wCal2 (wf : WFc2) (wl : WA2) : WE2 := fun S ρ post => wl S ρ fun S1 xs => ∃ ds, xs = ds.map DL.X.fr ∧ wf ds S1 fun S2 d => post S2 (.fr d)
theorem re_cal2 {x : Str} {wf : WFc2} (c : Cal2 M.Z M.C X.prog X.w X.mg X.base k x ps wf) (hK : X.K = M.Z.K) (hr : Room j X.A) (hjk : k ≤ j) (ha : PA X (e :: es) (LA2 M wl)) (hg : Gl X x := by rfl) (hdb : (x == ("__debug__" : Str)) = false := by decide)
    (he : starEach (e :: es) X.env = (false, eval e X.env) :: starEach es X.env := by rfl) (hpl : (backTo pos (starEach es X.env)).any (·.1) = false := by rfl) : PE X (.Call (.Name x p) (e :: es) [] pos) (LE2 M (wCal2 wf wl)) := by
  obtain ⟨f, fd, G, hm, hk, bi⟩ := c
  rw [← hK] at G hk bi
  refine peW (pe_call G (hr.mono hjk) hg hm hk bi .nil pass0 ha hdb he hpl) fun σ H Q h => ?_
  obtain ⟨w, P, ρ, post, rfl, a, q, k, kx⟩ := h
  refine ⟨w, P, ρ, _, rfl, a, q, fun w1 vs xs e1 o1 r1 p1 => ?_, kx⟩
  obtain ⟨ds, rfl, q⟩ := p1
  refine ⟨w1, ds, _, rfl, o1, ?_, q, fun w2 v d e2 o2 r2 p2 => k w2 v (.fr d) (e1.then e2) o2 r2 p2⟩
  rw [List.append_nil]
  exact XRs.fr r1
theorem obj_at (zo : ZO M.Z M.C) {b : Addr} {ko : KO} (o1 : Ok M.Z M.C w1) {v : V} (r1 : Rep M.Z w1.F w1.B v (hD b)) (hS : w1.S b = some ko) : v = .ref b ∧ ∃ dx vc, w1.H b = some (insF M.C dx ko.pl vc) ∧ Rep M.Z w1.F w1.B vc ko.cs := by
  obtain ⟨f, rfl, z⟩ := fx_inv r1
  have := zo.inv _ _ _ z
  subst this
  obtain ⟨dx, vc, vs, h1, h2, _⟩ := o1.oa.at_ f ko hS
  exact ⟨rfl, dx, vc, o1.wf.ex _ _ h1, h2⟩
theorem look_m {m : Str} {pl : Addr} {vc : V} (h1 : m ≠ "cards") (h2 : m ≠ "past") : ([("cards", vc), ("past", .ref pl)] : List (Str × V)).lookup m = none := by
  have e1 : (m == ("cards" : Str)) = false := beq_eq_false_iff_ne.mpr h1
  have e2 : (m == ("past" : Str)) = false := beq_eq_false_iff_ne.mpr h2
  show (match m == ("cards" : Str) with | true => _ | false => _) = none
  rw [e1]
  show (match m == ("past" : Str) with | true => _ | false => _) = none
  rw [e2]
  rfl
def wMeth2 (wf : WFn2) (xp : OS → XV → Prop) (we : WE2) (wl : WA2) : WE2 := fun S ρ post => we S ρ fun S1 x => ∃ a k, x = .fr (hD a) ∧ S1 a = some k ∧ wl S1 ρ fun S2 xs => ∃ ds, xs = ds.map DL.X.fr ∧ wf (hD a :: ds) S2 (fun S3 d => post S3 (.fr d)) xp
theorem s_meth {m : Str} {wf : WFn2} (zo : ZO M.Z M.C) (h1 : m ≠ "cards") (h2 : m ≠ "past") (h : LE2 M (wMeth2 wf M.xp we wl) σ H Q) : tMeth M.C m (LF2 M.cl M.Z M.C wf) [] M.E (LE2 M we) (LA2 M wl) σ H Q := by
  obtain ⟨w, P, ρ, post, rfl, a, q, k, kx⟩ := h
  refine ⟨w, P, ρ, _, rfl, a, q, fun w1 v x e1 o1 r1 p1 => ?_, kx⟩
  obtain ⟨b, ko, rfl, hS, q⟩ := p1
  obtain ⟨rfl, dx, vc, hb, hc⟩ := obj_at zo o1 r1 hS
  refine ⟨b, dx, _, rfl, hb, look_m h1 h2, w1, P, ρ, _, rfl, a.step e1 o1, q, fun w2 vs xs e2 o2 r2 p2 => ?_, kx.back e1⟩
  obtain ⟨ds, rfl, q⟩ := p2
  have r3 : Rep M.Z w1.F w1.B (.ref b) (hD b) := r1
  refine ⟨w2, hD b :: ds, _, M.xp, rfl, o2, ?_, q, fun w3 v d e3 o3 r3 p3 => k w3 v (.fr d) ((e1.then e2).then e3) o3 r3 p3, kx.back (e1.then e2)⟩
  rw [List.append_nil]
  exact .cons (r3.mono e2.ex e2.bg) (XRs.fr r2)
theorem re_meth {m : Str} {wf : WFn2} {pl : Sem Bool} (c : Met M.cl M.Z M.C X.prog X.w X.mg X.base k m ps wf) (zo : ZO M.Z M.C) (hK : X.K = M.Z.K) (hx : Passes (L2N.CX X.prog X.w) X M.E) (hr : Room j X.A) (hjk : k ≤ j) (ho : PE X o (LE2 M we)) (ha : PA X (e :: es) (LA2 M wl)) (h1 : m ≠ "cards" := by decide) (h2 : m ≠ "past" := by decide)
    (hst : starEach (e :: es) X.env = (false, eval e X.env) :: starEach es X.env := by rfl) (hpl : (backTo pos (starEach es X.env)).any (·.1) = false := by rfl)
    (ht : eval (.Call (.Attribute o m apos) (e :: es) [] pos) X.env = (do
      let ov ← eval o X.env
      standAt apos.atName
      let (f, first) ← holding [ov] (getMethod ov m pl)
      callWith pos f first (backTo pos (starEach (e :: es) X.env)) (backToKw pos (keywordEach [] X.env))) := by rfl) :
    PE X (.Call (.Attribute o m apos) (e :: es) [] pos) (LE2 M (wMeth2 wf M.xp we wl)) := by
  obtain ⟨f, fd, G, cc, hm, bi⟩ := c
  rw [← hK] at G cc hm bi
  exact peW (pe_meth ho cc hm G (hr.mono hjk) bi .nil hx ha hst hpl ht) fun σ H Q h => s_meth zo h1 h2 h
theorem re_meth0 {m : Str} {wf : WFn2} {pl : Sem Bool} (c : Met M.cl M.Z M.C X.prog X.w X.mg X.base k m ps wf) (zo : ZO M.Z M.C) (hK : X.K = M.Z.K) (hx : Passes (L2N.CX X.prog X.w) X M.E) (hr : Room j X.A) (hjk : k ≤ j) (ho : PE X o (LE2 M we)) (h1 : m ≠ "cards" := by decide) (h2 : m ≠ "past" := by decide)
    (ht : eval (.Call (.Attribute o m apos) [] [] pos) X.env = (do
      let ov ← eval o X.env
      standAt apos.atName
      let (f, first) ← holding [ov] (getMethod ov m pl)
      callWith pos f first (backTo pos (starEach [] X.env)) (backToKw pos (keywordEach [] X.env))) := by rfl) :
    PE X (.Call (.Attribute o m apos) [] [] pos) (LE2 M (wMeth2 wf M.xp we wNil2)) := by
  obtain ⟨f, fd, G, cc, hm, bi⟩ := c
  rw [← hK] at G cc hm bi
  refine peW (pe_meth0 ho cc hm G (hr.mono hjk) bi .nil hx ht) fun σ H Q h => ?_
  obtain ⟨w, P, ρ, post, rfl, a, q, k, kx⟩ := s_meth zo h1 h2 h
  refine ⟨w, P, ρ, post, rfl, a, q, fun w1 v x e1 o1 r1 p1 => ?_, kx⟩
  obtain ⟨a1, dx, fs, h3, h4, h5, w2, P2, ρ2, post2, e6, a6, q6, k6, kx6⟩ := k w1 v x e1 o1 r1 p1
  exact ⟨a1, dx, fs, h3, h4, h5, by rw [← e6]; exact k6 w2 [] [] Le2.refl a6.ok .nil q6⟩
/-! ### fields -/
structure Fld (K : PySem.W.Frag) (C : Addr) : Prop where
  cls : Cls K C
  cards : NoAttr K C "cards"
  past : NoAttr K C "past"
def wCards (i : Nat) : WE2 := fun S ρ post => ∃ b k, ρ[i]? = some (some (.fr (hD b))) ∧ S b = some k ∧ post S (.fr k.cs)
def wPast (i : Nat) : WE2 := fun S ρ post => ∃ b k d, ρ[i]? = some (some (.fr (hD b))) ∧ S b = some k ∧ atI k.past (-1) = some d ∧ post S (.fr d)
def wsPush (i : Nat) (we : WE2) : WS2 := fun W S ρ => ∃ b, ρ[i]? = some (some (.fr (hD b))) ∧ (∃ k, S b = some k) ∧ we S ρ fun S1 x => ∃ d k, x = .fr d ∧ S1 b = some k ∧ k.past.length < 100000 ∧ W.nx (S1.put b { k with past := k.past ++ [d] }) ρ
theorem re_cards (zo : ZO M.Z M.C) (i : Nat) {x : Str} (fl : Fld X.K M.C) (hv : PE X (.Name x p) (tVar i)) (hb : attributeBase (.Name x p) "cards" X.env (eval (.Name x p) X.env) = eval (.Name x p) X.env := by rfl) : PE X (.Attribute (.Name x p) "cards" pos) (LE2 M (wCards i)) := peW (pe_fld hv hb) fun σ H Q h => by
  obtain ⟨w, P, ρ, post, rfl, a, ⟨b, ko, hi, hS, q⟩, k, kx⟩ := h
  obtain ⟨v, hv, r⟩ := a.at_.rs.val i _ hi
  obtain ⟨rfl, dx, vc, hb, hc⟩ := obj_at zo a.ok (show Rep M.Z w.F w.B v (hD b) from r) hS
  exact ⟨_, hv, b, M.C, dx, _, vc, rfl, hb, fl.cls, fl.cards, rfl, k w vc (.fr ko.cs) Le2.refl a.ok hc q⟩
theorem re_past (zo : ZO M.Z M.C) (i : Nat) {x : Str} {n : Nat} {p2 p3 p4 : Pos} (fl : Fld X.K M.C) (hK : X.K = M.Z.K) (hv : PE X (.Name x p) (tVar i)) (hb : attributeBase (.Name x p) "past" X.env (eval (.Name x p) X.env) = eval (.Name x p) X.env := by rfl) (hp : PlainIx (.UnaryOp .USub (.Constant (.int 1) n p2) p3) := by exact fun _ _ => rfl) :
    PE X (.Subscript (.Attribute (.Name x p) "past" p4) (.UnaryOp .USub (.Constant (.int 1) n p2) p3) pos) (LE2 M (wPast i)) := peW (pe_ix ix_seq (pe_fld hv hb) (pe_un un_neg pe_int) hp) fun σ H Q h => by
  obtain ⟨w, P, ρ, post, rfl, a, ⟨b, ko, d, hi, hS, hd, q⟩, k, kx⟩ := h
  obtain ⟨v, hv, r⟩ := a.at_.rs.val i _ hi
  obtain ⟨rfl, dx, vc, hb, hc⟩ := obj_at zo a.ok (show Rep M.Z w.F w.B v (hD b) from r) hS
  obtain ⟨_, _, vs, _, _, _, _, h5, h6⟩ := a.oa.at_ b ko hS
  obtain ⟨z, h7, h8⟩ := atI_rep h6 hd
  refine ⟨_, hv, b, M.C, dx, _, .ref ko.pl, rfl, hb, fl.cls, fl.past, rfl, 1, rfl, .inl ⟨ko.pl, vs, -1, z, rfl, rfl, SqL.of h5, h7, k w z (.fr d) Le2.refl a.ok h8 q⟩⟩
theorem rs_push (zo : ZO M.Z M.C) (i : Nat) {x : Str} {p2 p3 pos' : Pos} (fl : Fld X.K M.C) (hK : X.K = M.Z.K) (hbm : PE X (.Call (.Attribute (.Attribute (.Name x p) "past" p2) "append" p3) [e] [] pos) (tBM X.K "list" rAppend (tFld X.K (tVar i) "past") (tCons (LE2 M we) tNil)))
    (hs : swapsWith (.Call (.Attribute (.Attribute (.Name x p) "past" p2) "append" p3) [e] [] pos) none pos'.line X.env = pure false := by rfl) : PS X (.Expr (.Call (.Attribute (.Attribute (.Name x p) "past" p2) "append" p3) [e] [] pos) pos') (LS2 M (wsPush i we)) := psW (ps_expr hbm hs) fun Dd σ H h => by
  obtain ⟨w, P, ρ, W, rfl, a, ⟨b, hi, ⟨ko, hS⟩, q⟩, kn, kr, kb, kc, kx⟩ := h
  obtain ⟨v, hv, r⟩ := a.at_.rs.val i _ hi
  obtain ⟨rfl, dx, vc, hb, hc⟩ := obj_at zo a.ok (show Rep M.Z w.F w.B v (hD b) from r) hS
  obtain ⟨_, _, vs, _, _, _, _, h5, h6⟩ := a.oa.at_ b ko hS
  refine ⟨_, hv, b, M.C, dx, _, .ref ko.pl, rfl, hb, fl.cls, fl.past, rfl, .inl ⟨rfl, vs, SqL.of h5⟩, w, P, ρ, _, rfl, a, q, fun w1 v x e1 o1 r1 p1 => ?_, KR2.dm kx a⟩
  obtain ⟨d, k1, rfl, hS1, hl, q⟩ := p1
  obtain ⟨k1', hk1, hpl⟩ := e1.st b ko hS
  rw [hS1] at hk1
  cases hk1
  obtain ⟨_, _, us, _, _, _, _, g5, g6⟩ := o1.oa.at_ b k1 hS1
  rw [hpl] at g5
  refine ⟨ko.pl, us, v, rfl, rfl, g5, szl (by rw [g6.length]; exact hl), ?_⟩
  obtain ⟨e2, o2⟩ := Ok.past (P := dm w1.H) o1 hS1 (us := us ++ [v]) (es := k1.past ++ [d]) (g6.append (.cons r1 .nil))
  have e12 := e1.then e2
  have z := kn (w1.past b k1 (us ++ [v]) (k1.past ++ [d])) σ ρ (a.rebase e12) (a.step e12 o2) q
  have ez : (w1.past b k1 (us ++ [v]) (k1.past ++ [d])).H = upd w1.H ko.pl (.lst (us ++ [v])) := by show upd w1.H k1.pl _ = _; rw [hpl]
  rw [ez] at z
  exact z
end
end DL

/-! The data layer with objects: a kept purse is made. -/
namespace DL
open PySem PySem.Spec PyProof.Rows L2
abbrev WFI2 := List D → (D → List D → Prop) → (XV → Prop) → Prop
def LFI2 (cl : Nat → Addr) (Z : Par) (C : Addr) (wi : WFI2) : Sp := fun vs H Q E => ∃ (x dx : Addr) (rest : List V) (w : Wd) (ds : List D) (post : D → List D → Prop) (xp : OS → XV → Prop), vs = .ref x :: rest ∧ w.H x = none ∧ w.H dx = none ∧ dx ≠ x ∧ H = upd (upd w.H dx (.own x)) x (.ins C dx []) ∧
  Ok Z C w ∧ RepAll Z w.F w.B rest ds ∧ wi ds post (xp w.S) ∧ (∀ w' c past pl, Le2 (dm w.H) w w' → Ok Z C w' → w'.S = w.S.put x ⟨c, past, pl⟩ → w.S x = none → w'.F dx = some (.own x) → post c past → Q .non w'.H) ∧ KR2 ⟨cl, Z, C, E, xp⟩ (dm w.H) w
def Ini2 (cl : Nat → Addr) (Z : Par) (C : Addr) (P : Program) (w : World) (mg : Str → Option Value) (base : Heap) (k : Nat) (x : Str) (ps : List Str) (wi : WFI2) : Prop := ∃ f fd, Mk Z.K C f ∧ FnOk P w Z.K mg base (L2N.CX P w) k f fd ps (LFI2 cl Z C wi) ∧ mg x = some (.ref C) ∧ Binds Z.K fd ps []
def wMake2 (wi : WFI2) (xp : OS → XV → Prop) (wl : WA2) : WE2 := fun S ρ post => wl S ρ fun S1 xs => ∃ ds, xs = ds.map DL.X.fr ∧ wi ds (fun c past => ∀ a pl, S1 a = none → post (S1.put a ⟨c, past, pl⟩) (.fr (hD a))) (xp S1)
section
variable {M : Md} {X : Cx} {e : Expr} {es : List Expr} {wl : WA2} {pos p : Pos} {j k : Nat} {ps : List Str}
theorem re_make {x : Str} {wi : WFI2} (c : Ini2 M.cl M.Z M.C X.prog X.w X.mg X.base k x ps wi) (zo : ZO M.Z M.C) (hK : X.K = M.Z.K) (hx : Passes (L2N.CX X.prog X.w) X M.E) (hr : Room j X.A) (hjk : k + 1 ≤ j) (ha : PA X (e :: es) (LA2 M wl)) (hg : Gl X x := by rfl) (hdb : (x == ("__debug__" : Str)) = false := by decide)
    (he : starEach (e :: es) X.env = (false, eval e X.env) :: starEach es X.env := by rfl) (hpl : (backTo pos (starEach es X.env)).any (·.1) = false := by rfl) : PE X (.Call (.Name x p) (e :: es) [] pos) (LE2 M (wMake2 wi M.xp wl)) := by
  obtain ⟨f, fd, mk, G, hm, bi⟩ := c
  rw [← hK] at mk G bi
  refine peW (pe_make mk G (hr.mono hjk) hg hm bi .nil hx ha hdb he hpl) fun σ H Q h => ?_
  obtain ⟨w, P, ρ, post, rfl, a, q, k, kx⟩ := h
  refine ⟨w, P, ρ, _, rfl, a, q, fun w1 vs xs e1 o1 r1 p1 => ?_, kx⟩
  obtain ⟨ds, rfl, q⟩ := p1
  intro y dx hy hdx hne
  refine ⟨y, dx, vs, w1, ds, _, M.xp, by rw [List.append_nil], hy, hdx, hne, rfl, o1, XRs.fr r1, q, fun w' c past pl e2 o2 hs hn hf p2 => ⟨rfl, ?_⟩, kx.back e1⟩
  have z := k w' (.ref y) (.fr (hD y)) (e1.then e2) o2 (.fx (zo.mkf _ _ _ hf))
  rw [hs] at z
  exact z (p2 y pl hn)
end
section
variable {Z : Par} {C : Addr} {w : Wd} {x dx : Addr}
abbrev Wd.born (w : Wd) (C x dx : Addr) : Wd := ⟨upd w.F dx (.own x), w.B, upd (upd w.H dx (.own x)) x (.ins C dx []), w.S⟩
theorem Ok.born (o : Ok Z C w) (hx : w.H x = none) (hd : w.H dx = none) (ne : dx ≠ x) : Le2 (dm w.H) w (w.born C x dx) ∧ Ok Z C (w.born C x dx) := by
  have w1 := o.wf.new (o := .own x) hd
  have l1 := Le.new (o := .own x) o.wf hd
  have hx1 : upd w.H dx (.own x) x = none := by rw [upd_ne (Ne.symm ne)]; exact hx
  obtain ⟨w2, l2⟩ := lay (o := .ins C dx []) w1 hx1
  have l := l1.then l2
  exact ⟨l.to2 fun _ h => h, w2, o.oa.old l o.oa.dm⟩
/-- the fields are there -/
theorem Ok.made (o : Ok Z C w) {fs : List (Str × V)} {H' : Hp} {t p : Addr} {vc vp : V} {c pd : D} (hx : w.H x = some (.ins C dx fs)) (fx : w.F x = none) (bx : ¬ w.B x) (lx : ¬ w.S.L x) (sx : w.S x = none) (rc : Rep Z w.F w.B vc c) (rp : Rep Z w.F w.B vp pd)
    (ht : w.H t = none) (hp : w.H p = none) (tp : p ≠ t) (hH : H' = upd (upd (upd w.H t (.tup [vp, .int 0, .int 0])) p (.lst [.ref t])) x (insF C dx p vc)) :
    Le2 (fun a => dm w.H a ∧ a ≠ x) w ⟨upd (upd w.F t (.tup [vp, .int 0, .int 0])) x (insF C dx p vc), w.B, H', w.S.put x ⟨c, [.tuple [pd, .int 0, .int 0]], p⟩⟩ ∧ Ok Z C ⟨upd (upd w.F t (.tup [vp, .int 0, .int 0])) x (insF C dx p vc), w.B, H', w.S.put x ⟨c, [.tuple [pd, .int 0, .int 0]], p⟩⟩ := by
  subst hH
  have xt : x ≠ t := ne_of_none hx ht
  have xp : x ≠ p := ne_of_none hx hp
  have ft : w.F t = none := Evl.fresh_back o.wf.ex ht
  have fp : w.F p = none := Evl.fresh_back o.wf.ex hp
  have hs : ∀ a, a ≠ x → a ≠ t → a ≠ p → upd (upd (upd w.H t (.tup [vp, .int 0, .int 0])) p (.lst [.ref t])) x (insF C dx p vc) a = w.H a := fun a h1 h2 h3 => by rw [upd_ne h1, upd_ne h3, upd_ne h2]
  have fs' : ∀ a, a ≠ x → a ≠ t → upd (upd w.F t (.tup [vp, .int 0, .int 0])) x (insF C dx p vc) a = w.F a := fun a h1 h2 => by rw [upd_ne h1, upd_ne h2]
  have ex : Ex w.F (upd (upd w.F t (.tup [vp, .int 0, .int 0])) x (insF C dx p vc)) := fun a u h => by rw [fs' a (ne_of_none h fx) (ne_of_none h ft)]; exact h
  have sl : ∀ a, (w.S.put x ⟨c, [.tuple [pd, .int 0, .int 0]], p⟩).L a → a = p ∨ w.S.L a := fun a h => by
    obtain ⟨b, l, h1, h2⟩ := h
    by_cases hb : b = x
    · subst hb
      rw [OS.put_same] at h1
      cases h1
      exact .inl h2.symm
    · rw [OS.put_ne hb] at h1
      exact .inr ⟨b, l, h1, h2⟩
  have bh : ∀ a, w.B a → w.H a ≠ none := fun a h z => o.wf.bagNew z h
  refine ⟨⟨ex, fun _ h => h, fun a u ha _ _ e => ?_, fun a n => ?_, fun a ha e => ?_, fun _ _ h => h, fun a ha h => ?_, fun a l h => ⟨l, ?_, rfl⟩⟩, ⟨fun a u e => ?_, fun b hb => ?_, o.wf.tabs⟩, fun a l h => ?_, fun a b l m h g e => ?_⟩
  · show upd (upd (upd w.H t _) p _) x _ a = _
    rw [hs a ha.2 (ne_of_none e ht) (ne_of_none e hp)]
    exact e
  · show upd (upd (upd w.H t _) p _) x _ a ≠ none
    by_cases h1 : a = x
    · subst h1; rw [upd_same]; exact fun z => nomatch z
    · rw [hs a h1 (fun z => n (by rw [z]; exact ht)) (fun z => n (by rw [z]; exact hp))]
      exact n
  · show upd (upd w.F t _) x _ a = _
    rw [fs' a ha.2 (fun z => ha.1 (by rw [z]; exact ht))]
    exact e
  · rcases sl a h with rfl | h
    · exact absurd hp ha.1
    · exact h
  · show w.S.put x _ a = _
    rw [OS.put_ne (fun z => by rw [z, sx] at h; cases h)]
    exact h
  · show upd (upd (upd w.H t _) p _) x _ a = _
    by_cases h1 : a = x
    · subst h1
      have e : upd (upd w.F t (.tup [vp, .int 0, .int 0])) a (insF C dx p vc) a = some u := e
      rw [upd_same] at e ⊢
      exact e
    · by_cases h2 : a = t
      · subst h2
        have e : upd (upd w.F a (.tup [vp, .int 0, .int 0])) x (insF C dx p vc) a = some u := e
        rw [upd_ne h1, upd_same] at e
        rw [upd_ne h1, upd_ne (Ne.symm tp), upd_same]
        exact e
      · have e : upd (upd w.F t (.tup [vp, .int 0, .int 0])) x (insF C dx p vc) a = some u := e
        rw [fs' a h1 h2] at e
        have e := o.wf.ex a u e
        rw [hs a h1 h2 (ne_of_none e hp)]
        exact e
  · obtain ⟨b1, b2⟩ := o.wf.bags b hb
    have n1 : b ≠ x := fun z => bx (by rw [← z]; exact hb)
    have n2 : b ≠ t := fun z => bh b hb (by rw [z]; exact ht)
    have n3 : b ≠ p := fun z => bh b hb (by rw [z]; exact hp)
    exact ⟨by show upd (upd w.F t _) x _ b = _; rw [fs' b n1 n2]; exact b1, b2.mono ex (hs b n1 n2 n3)⟩
  · by_cases ha : a = x
    · subst ha
      have h : w.S.put a _ a = some l := h
      rw [OS.put_same] at h
      cases h
      refine ⟨dx, vc, [.ref t], upd_same, rc.mono ex fun _ h => h, ?_, fun z => bh p z hp, ?_, .cons (.tup ?_ (.cons (rp.mono ex fun _ h => h) (.cons (.int 0) (.cons (.int 0) .nil)))) .nil⟩
      · show upd (upd w.F t _) a _ p = none
        rw [fs' p (Ne.symm xp) tp]
        exact fp
      · show upd (upd (upd w.H t _) p _) a _ p = _
        rw [upd_ne (Ne.symm xp), upd_same]
      · show upd (upd w.F t _) a _ t = _
        rw [upd_ne (Ne.symm xt), upd_same]
    · have h : w.S.put x _ a = some l := h
      rw [OS.put_ne ha] at h
      obtain ⟨dx', vc', vs', g1, g2, g3, g4, g5, g6⟩ := o.oa.at_ a l h
      have n1 : l.pl ≠ x := fun z => lx ⟨a, l, h, z⟩
      have n2 : l.pl ≠ t := ne_of_none g5 ht
      have n3 : l.pl ≠ p := ne_of_none g5 hp
      refine ⟨dx', vc', vs', ex _ _ g1, g2.mono ex fun _ h => h, ?_, g4, ?_, g6.mono ex fun _ h => h⟩
      · show upd (upd w.F t _) x _ l.pl = none
        rw [fs' _ n1 n2]
        exact g3
      · show upd (upd (upd w.H t _) p _) x _ l.pl = _
        rw [hs _ n1 n2 n3]
        exact g5
  · have key : ∀ a (l : KO), w.S.put x ⟨c, [.tuple [pd, .int 0, .int 0]], p⟩ a = some l → (a = x ∧ l.pl = p) ∨ (w.S a = some l ∧ l.pl ≠ p) := fun a l h => by
      by_cases ha : a = x
      · subst ha
        rw [OS.put_same] at h
        cases h
        exact .inl ⟨rfl, rfl⟩
      · rw [OS.put_ne ha] at h
        obtain ⟨_, _, _, _, _, _, _, g5, _⟩ := o.oa.at_ a l h
        exact .inr ⟨h, ne_of_none g5 hp⟩
    rcases key a l h with ⟨h1, h2⟩ | ⟨h1, h2⟩ <;> rcases key b m g with ⟨h3, h4⟩ | ⟨h3, h4⟩
    · rw [h1, h3]
    · exact absurd (e.symm.trans h2) h4
    · exact absurd (e.trans h4) h2
    · exact o.oa.inj a b l m h1 h3 e
end
end DL

/-! The data layer with objects: __init__ walked. -/
namespace DL
open PySem PySem.Spec PyProof.Rows L2
def wiK (wc : WFnX) : WFI2 := fun ds post xp => ∃ c p, ds = [c, p] ∧ wc [c, p] (fun _ => post c [.tuple [p, .int 0, .int 0]]) xp
abbrev tInit (cl : Nat → Addr) (Z : Par) (K : PySem.W.Frag) (E : XK) (wc : WFnX) (xp : XV → Prop) : TS := tSeq (tDrop (LEX cl Z E xp (wXcall wc xp (wCons (wVar 1) (wCons (wVar 2) wNil))))) (tSeq (sFld K (tVar 0) (tVar 1) "cards") (sFld K (tVar 0) (tLst (tCons (tTup (tCons (tVar 2) (tCons (tC (.int 0)) (tCons (tC (.int 0)) tNil)))) tNil)) "past"))
theorem init_run {cl : Nat → Addr} {Z : Par} {C : Addr} {wc : WFnX} {N : List Str} (hN : N.length = 3) {vs : List V} {H : Hp} {Q : VK} {E : XK} (fl : Fld Z.K C) (h : LFI2 cl Z C (wiK wc) vs H Q E) : ∃ xp, tInit cl Z Z.K E wc xp { nx := fun _ H' => Q .non H', rt := Q } (L2.start N vs) H := by
  obtain ⟨x, dx, rest, w, ds, post, xp, rfl, hx, hd, ne, rfl, o, r, ⟨c, p, rfl, q⟩, k, kx⟩ := h
  obtain ⟨e1, o1⟩ := o.born hx hd ne
  have H1x : (w.born C x dx).H x = some (.ins C dx []) := upd_same
  have r1 : RepAll Z (w.born C x dx).F (w.born C x dx).B rest [c, p] := r.mono e1.ex e1.bg
  obtain ⟨vc, vp, rfl⟩ : ∃ vc vp, rest = [vc, vp] := by
    cases r with
    | cons _ r => cases r with
      | cons _ r => cases r with
        | nil => exact ⟨_, _, rfl⟩
  have rs := (start_rs (N := N) (P := dm (w.born C x dx).H) (H := (w.born C x dx).H) (RepAll.cons .non r1)).forget 0 (some (.ref x))
  refine ⟨xp w.S, (w.born C x dx).F, (w.born C x dx).B, dm (w.born C x dx).H, _, fun _ => post c [.tuple [p, .int 0, .int 0]], ⟨o1.wf, rs, fun _ h => h⟩, ?_, ?_, ?_⟩
  · rw [hN]
    exact ⟨.fr c, rfl, .fr p, rfl, [c, p], rfl, q⟩
  · intro F2 B2 H2 v0 x0 e2 w2 _ p2
    have e2' : Le2 (dm (w.born C x dx).H) (w.born C x dx) ⟨F2, B2, H2, w.S⟩ := e2.to2 fun _ h => h
    have o2 : Ok Z C ⟨F2, B2, H2, w.S⟩ := Ok.oldE (w := w.born C x dx) o1.oa e2 w2
    have dmx : dm (w.born C x dx).H x := by unfold dm; rw [H1x]; exact fun z => nomatch z
    have fx0 : w.F x = none := Evl.fresh_back o.wf.ex hx
    have f1x : (w.born C x dx).F x = none := by show upd w.F dx _ x = none; rw [upd_ne (Ne.symm ne)]; exact fx0
    have bx : ¬ w.B x := o.wf.bagNew hx
    have sx : w.S x = none := by
      cases e : w.S x with
      | none => rfl
      | some ko =>
        obtain ⟨_, _, _, g, _⟩ := o.oa.at_ x ko e
        rw [fx0] at g
        cases g
    have lx : ¬ w.S.L x := fun z => (o.oa.dm x z) hx
    have h2x : H2 x = some (.ins C dx []) := e2.hp x _ dmx bx H1x
    have f2x : F2 x = none := e2.nf x dmx f1x
    have b2x : ¬ B2 x := fun z => bx (e2.nb x dmx z)
    have rc : Rep Z F2 B2 vc c := by
      cases r1 with
      | cons h _ => exact h.mono e2.ex e2.bg
    have rp : Rep Z F2 B2 vp p := by
      cases r1 with
      | cons _ h => cases h with
        | cons h _ => exact h.mono e2.ex e2.bg
    refine ⟨vc, rfl, .ref x, rfl, x, C, dx, [], rfl, h2x, fl.cls, fl.cards, by decide, ?_⟩
    show sFld Z.K (tVar 0) (tLst (tCons (tTup (tCons (tVar 2) (tCons (tC (.int 0)) (tCons (tC (.int 0)) tNil)))) tNil)) "past" _ _ (upd H2 x (.ins C dx [("cards", vc)]))
    refine ⟨vp, rfl, ⟨by show 3 ≤ sizeLine; decide, fun t ht => ⟨by show 1 ≤ sizeLine; decide, fun pl hp => ?_⟩⟩⟩
    have xt : t ≠ x := fun z => by rw [z, upd_same] at ht; cases ht
    have h2t : H2 t = none := by rw [upd_ne xt] at ht; exact ht
    have pt : pl ≠ t := fun z => by rw [z, upd_same] at hp; cases hp
    have px : pl ≠ x := fun z => by rw [z, upd_ne (Ne.symm xt), upd_same] at hp; cases hp
    have h2p : H2 pl = none := by rw [upd_ne pt, upd_ne px] at hp; exact hp
    refine ⟨.ref x, rfl, x, C, dx, [("cards", vc)], rfl, ?_, fl.cls, fl.past, (by show 1 < 1000; decide), ?_⟩
    · show upd (upd (upd H2 x _) t _) pl _ x = _
      rw [upd_ne (Ne.symm px), upd_ne (Ne.symm xt), upd_same]
    obtain ⟨e3, o3⟩ := o2.made (H' := upd (upd (upd (upd H2 x (.ins C dx [("cards", vc)])) t (.tup [vp, .int 0, .int 0])) pl (.lst [.ref t])) x (insF C dx pl vc)) (fs := []) h2x f2x b2x lx sx rc rp h2t h2p pt (by
      funext a
      by_cases ha : a = x
      · subst ha
        rw [upd_same, upd_same]
      · rw [upd_ne ha, upd_ne ha]
        by_cases hb : a = pl
        · subst hb
          rw [upd_same, upd_same]
        · rw [upd_ne hb, upd_ne hb]
          by_cases hc : a = t
          · subst hc
            rw [upd_same, upd_same]
          · rw [upd_ne hc, upd_ne hc, upd_ne ha])
    have e02 := e1.then e2'
    have ee : Le2 (dm w.H) w _ := e02.trans (e3.mono fun a ha => ⟨e02.dom a ha, fun z => ha (by rw [z]; exact hx)⟩)
    refine k _ c [.tuple [p, .int 0, .int 0]] pl ee o3 rfl sx ?_ p2
    have ht2 : dx ≠ t := fun z => by
      have : (w.born C x dx).H dx ≠ none := by
        show upd (upd w.H dx _) x _ dx ≠ none
        rw [upd_ne ne, upd_same]
        exact fun z => nomatch z
      exact e2.dom dx this (by rw [z]; exact h2t)
    show upd (upd F2 t _) x _ dx = _
    rw [upd_ne ne, upd_ne ht2]
    exact e2.ex _ _ upd_same
  · intro F' B' H' cc d xv e2 w2 rx px
    have e2' : Le2 (dm (w.born C x dx).H) (w.born C x dx) ⟨F', B', H', w.S⟩ := e2.to2 fun _ h => h
    exact kx ⟨F', B', H', w.S⟩ cc d xv (e1.then e2') (Ok.oldE (w := w.born C x dx) o1.oa e2 w2) rx px
theorem ini2_of {cl : Nat → Addr} {Pg : Program} {w : World} {Z : Par} {C : Addr} {mg : Str → Option Value} {base : Heap} {x qual n0 : Str} {st : Stmt} {f : Addr} {fd : FuncData} {ps N : List Str} {k : Nat} {wc : WFnX} (F : Fun Z.K n0 qual st f fd) (mk : Mk Z.K C f) (fl : Fld Z.K C) (hm : mg x = some (.ref C)) (bi : Binds Z.K fd ps []) (S : FnScope N ps (defScope st)) (hN : N.length = 3) (hps : ps.length = 3)
    (hb : ∀ (f : Addr) (cdv : Value) (A : Around) (outer : List Env) (s : Shared) (H : Hp) (E : XK) (xp : XV → Prop), Room k (A.deeper (envOfC qual (defScope st) s.heap.objs.size f cdv)) → PSs (cxOf (L2N.CX Pg w) Pg w Z.K mg base N qual (defScope st) f cdv A outer s H E) (defBody st) (tInit cl Z Z.K E wc xp)) : Ini2 cl Z C Pg w mg base (k + 1) x ps (wiK wc) := by
  refine ⟨f, fd, mk, fun_okN F S (fun vs H Q E h => ?_) (fun cdv A outer s H vs Q E hr h => ?_), hm, bi⟩
  · obtain ⟨x, dx, rest, w, ds, post, xp, rfl, _, _, _, _, _, r, ⟨c, p, rfl, _⟩, _⟩ := h
    rw [List.length_cons, r.length, hps]
    rfl
  · obtain ⟨xp, q⟩ := init_run (N := N) hN fl h
    exact ⟨_, hb f cdv A outer s H E xp hr, q⟩
end DL

/-! The data layer with objects: built-ins, operators, what is never come to. -/
namespace DL
open PySem PySem.Spec PyProof.Rows L2
section
variable {M : Md} {X : Cx} {a b : Expr} {st : Stmt} {wa wb : WE2} {wl : WA2} {pos p : Pos}
def wCall2 (wr : List DL.X → (DL.X → Prop) → Prop) (wl : WA2) : WE2 := fun S ρ post => wl S ρ fun S1 xs => wr xs (post S1)
theorem s_call2 {r : List V → Hp → VK → Prop} {wr : List DL.X → (DL.X → Prop) → Prop} {σ : L2.St} {H : Hp} {Q : VK} (hs : CallS M.Z r wr) (h : LE2 M (wCall2 wr wl) σ H Q) : tCB r (LA2 M wl) σ H Q := by
  obtain ⟨w, P, ρ, post, rfl, a, q, k, kx⟩ := h
  exact ⟨w, P, ρ, _, rfl, a, q, fun w1 vs xs e1 o1 r1 p1 => hs w1.F w1.B w1.H (PU P w1.S) vs xs _ Q o1.wf r1 p1 fun F' B' H' v' x' e3 w3 r3 p3 => k ⟨F', B', H', w1.S⟩ v' x' (e1.then (e3.to2 fun _ h => h)) (Ok.oldE o1.oa e3 w3) r3 p3, kx⟩
theorem re_len (hK : X.K = M.Z.K) (hm : X.mg "len" = none) (ha : PA X [a] (LA2 M wl)) (hg : Gl X "len" := by rfl) (he : starEach [a] X.env = (false, eval a X.env) :: starEach [] X.env := by rfl) : PE X (.Call (.Name "len" p) [a] [] pos) (LE2 M (wCall2 wLen wl)) :=
  peW (pe_callB call_len_seq hg hm (by decide +kernel) ha (by decide) (by decide) he (by rfl)) fun σ H Q h => s_call2 (fun F B H P vs xs post Q w r wr k => by
    obtain ⟨x, ds, rfl, i, q⟩ := wr
    obtain ⟨v, rfl, rx⟩ := r.one
    obtain ⟨p, us, rfl, h, ra⟩ := i.at w rx
    rw [hK]
    refine ⟨p, us, rfl, h, ?_⟩
    rw [ra.length]
    exact KX.here k w (x := .fr _) (.int _) q) h
theorem re_op {op : Operator} {r : R2} {wr : DL.X → DL.X → (DL.X → Prop) → Prop} (ho : OpR X (binaryOp op) r) (hs : OpS M.Z r wr) (ha : PE X a (LE2 M wa)) (hb : PE X b (LE2 M wb)) : PE X (.BinOp a op b pos) (LE2 M (wOp2 wr wa wb)) := peW (pe_op ho ha hb) fun _ _ _ h => s_op2 hs h
theorem re_sub (ha : PE X a (LE2 M wa)) (hb : PE X b (LE2 M wb)) : PE X (.BinOp a .Sub b pos) (LE2 M (wOp2 wSub wa wb)) := re_op op_sub (o_I0 fun _ _ i j => .int _) ha hb
theorem re_add (ha : PE X a (LE2 M wa)) (hb : PE X b (LE2 M wb)) : PE X (.BinOp a .Add b pos) (LE2 M (wOp2 wAdd wa wb)) := re_op op_add (o_I0 fun _ _ i j => .int _) ha hb
end
/-! ### the end of a law -/
theorem qeX_of {cl : Nat → Addr} {Z : Par} {X : Cx} {E : XK} {xp : XV → Prop} {e : Expr} {wf : WFn} {wl : WA} (h : PE X e (LE Z (wFcall wf wl))) : PE X e (LEX cl Z E xp (wXcall (fun ds post _ => wf ds post) xp wl)) := peW h fun σ H Q h => by
  obtain ⟨F, B, P, ρ, post, a, w, k, _⟩ := h
  exact ⟨F, B, P, ρ, post, a, w, k⟩
/-- kept purses of the class at C as values -/
def ZK (K : PySem.W.Frag) (C : Addr) : Par := ⟨K, fun F a n => n = 1000 + a ∧ ∃ dx, F dx = some (.own a), fun e h => ⟨h.1, h.2.choose, e _ _ h.2.choose_spec⟩, fun _ _ => False⟩
theorem zk_zo {K : PySem.W.Frag} {C : Addr} : ZO (ZK K C) C := ⟨fun F a dx h => ⟨rfl, dx, h⟩, fun F a b h => (Nat.add_left_cancel (h.1 : 1000 + a = 1000 + b)).symm⟩
end DL

/-! An own error with a field: made, raised, asked. -/
namespace DL
open PySem PySem.Spec PyProof.Rows L2
section
variable {X : Cx} {e : Expr} {es : List Expr} {ta : TA} {te : TE} {p p1 p2 pos : Pos}
/-- R.__init__(self, ..), R an own class over ValueError that has none of its own -/
theorem pe_rinit {R : Addr} {mc : Value} {x : Str} {pl : Sem Bool} (hg : Gl X x) (hm : X.mg x = some (.ref R)) (hdb : (x == ("__debug__" : Str)) = false) (sR : PySem.W.specialIn X.K (.ref R) "__getattribute__" = some (some (.builtin "type.__getattribute__"))) (rd : PySem.W.readsIn X.K R mc = true)
    (fR : PySem.W.findCls X.K (.ref R) mc "__init__" = some (.val (.builtin "ValueError.__init__"))) (ha : PA X (e :: es) ta)
    (hc : eval (.Call (.Attribute (.Name x p1) "__init__" p2) (e :: es) [] pos) X.env = (do
      let ov ← eval (.Name x p1) X.env
      standAt p2.atName
      let (f, first) ← holding [ov] (getMethod ov "__init__" pl)
      callWith pos f first (backTo pos (starEach (e :: es) X.env)) (backToKw pos (keywordEach [] X.env))) := by rfl)
    (hst : starEach (e :: es) X.env = (false, eval e X.env) :: starEach es X.env := by rfl) (hpl : (backTo pos (starEach es X.env)).any (·.1) = false := by rfl) : PE X (.Call (.Attribute (.Name x p1) "__init__" p2) (e :: es) [] pos) (tVeI X.K ta) :=
  ⟨fun pins s0 σ H0 Q0 I0 h0 => PySem.W.methodCall_KW (ld_glob I0 hg hm (PySem.W.method_cls I0.kIn sR (PySem.W.cls_value I0.kIn rd fR rfl (PyProof.Rows.callWith_method1 (thn (ha.run pos pins _ σ H0 _ (I0.tok _) h0) fun us s1 ⟨vs, H1, I1, r1, a, D, ws, ev, hl, T, ea, q⟩ => by
    subst ev
    cases r1 with
    | @cons _ u0 _ ur ra rr =>
      cases (show u0 = Value.ref a from ra)
      exact oinit_ok T I1 ea (by rw [← Paired.length rr, sizeLine_eq]; omega) fun s2 J => ⟨.non, H1, J, rfl, q⟩) hst hpl))) hdb) hc⟩
/-- what __init__(self, kind) promises -/
def spTF (C : Addr) : Sp := fun vs H Q _ => ∃ (a : Addr) (u : V), vs = [.ref a, u] ∧ H a = some (exo a C none) ∧ ∀ d, H d = none → d ≠ a → Q .non (upd (upd H d (exd d [(("kind" : Str), u)])) a (exo a C (some d)))
/-- C(e): the error is made -/
theorem pmkN {x : Str} {C fI : Addr} {k : Nat} {fd : FuncData} {ps : List Str} (T : OexC X.K C) (iC : PySem.W.findIn X.K (.ref C) "__init__" = some (some (.ref fI))) (tI : PySem.W.typeIn X.K (.ref fI) = some (.type "function"))
    (G : FnOk X.prog X.w X.K X.mg X.base CX0 k fI fd ps (spTF C)) (hr : Room (k + 1) X.A) (bi : Binds X.K fd ps []) (hg : Gl X x) (hm : X.mg x = some (.ref C)) (he : PE X e te) (hdb : (x == ("__debug__" : Str)) = false := by decide)
    (hst : starEach [e] X.env = (false, eval e X.env) :: starEach [] X.env := by rfl) (hpl : (backTo pos (starEach [] X.env)).any (·.1) = false := by rfl) :
    L2N.PMk X (.Call (.Name x p) [e] [] pos) (fun σ H Q => te σ H fun u H1 => ∀ a d, H1 a = none → H1 d = none → d ≠ a → Q (.ref C) (some d) (upd H1 d (.xd [(("kind" : Str), u)]))) := by
  intro pins s0 σ H0 Q0 I0 h0
  obtain ⟨nm, qn, Nn, bs, bm, sn, sb, ab, cl, dc, k0, k1, k2, k3, k5, hC, hbm⟩ := T.cls
  let R : List V → Hp → Prop := fun vs H1 => match vs with
    | [u] => ∀ a d, H1 a = none → H1 d = none → d ≠ a → Q0 (.ref C) (some d) (upd H1 d (.xd [(("kind" : Str), u)]))
    | _ => False
  refine wpAny_Call_Name_kw (ld_glob I0 hg hm (PySem.W.callWith_K (h₀ := X.base) I0.ok.mod.kin T.kC (thn ((pa_cons he pa_nil hst).run pos pins s0 σ H0 R I0 h0) fun us s1 ⟨vs, H1, I1, r1, q1⟩ => ⟨I1.kIn, ?_⟩) hst hpl) hdb)
  obtain ⟨u, rfl⟩ : ∃ u, vs = [u] := by
    match vs, q1 with
    | [u], _ => exact ⟨u, rfl⟩
  obtain ⟨z, rfl, rz⟩ := vals1 r1
  show wpAny _ _ (call (.ref C) [z]) _ _ _
  obtain ⟨h1, gs, dr, tk, os⟩ := s1
  -- the new error: its arguments' tuple, then itself
  have fresh : H1 (h1.objs.size + 1) = none := I1.hok.fresh (Nat.le_add_right _ 1)
  have grow : ∀ b o, h1.get? b = some o → ((h1.push (PySem.W.kdv_tup [z])).push (PySem.HandSPX.excO C h1.objs.size)).get? b = some o := fun b o e => Heap.get?_push_of_some _ (Heap.get?_push_of_some _ e)
  have there : ((h1.push (PySem.W.kdv_tup [z])).push (PySem.HandSPX.excO C h1.objs.size)).get? (h1.objs.size + 1) = some (PySem.HandSPX.excO C h1.objs.size) := by heap_get
  have I2 := I1.laid (t' := tk) (a := h1.objs.size + 1) (o := exo (h1.objs.size + 1) C none) (h' := (h1.push (PySem.W.kdv_tup [z])).push (PySem.HandSPX.excO C h1.objs.size)) grow (Nat.le_add_right _ 1) (exo_ok there)
  have two : Vals [V.ref (h1.objs.size + 1), u] [Value.ref (h1.objs.size + 1), z] := .cons rfl (.cons rz .nil)
  have keep : spTF C [V.ref (h1.objs.size + 1), u] (upd H1 (h1.objs.size + 1) (exo (h1.objs.size + 1) C none)) (fun v H2 => v = .non ∧ ∃ d, H2 = upd (upd (upd H1 (h1.objs.size + 1) (exo (h1.objs.size + 1) C none)) d (exd d [(("kind" : Str), u)])) (h1.objs.size + 1) (exo (h1.objs.size + 1) C (some d)) ∧ d ≠ h1.objs.size + 1 ∧ H1 d = none) (fun _ _ _ => False) :=
    ⟨_, u, rfl, upd_same, fun d hd ne => ⟨rfl, d, rfl, ne, by rw [upd_ne ne] at hd; exact hd⟩⟩
  have many : ([Value.ref (h1.objs.size + 1), z] : List Value).length = ps.length := (two.length.symm).trans (G.len _ _ _ _ keep)
  refine wpAny_call (PySem.HandSPX.call_own F.excBase_ValueError (fun Y => PySem.HandSPX.refsVE_contains Y bm hbm) (I1.kIn _ _ hC) (PySem.W.looks_findIn I1.kIn iC) (fun self => PySem.W.bind_fn I1.kIn self tI) (by show 1 ≤ sizeLine; rw [sizeLine_eq]; decide) (codeAny_mono (G.run _ X.stack _ _ ⟨[Value.ref (h1.objs.size + 1), z], []⟩ [Value.ref (h1.objs.size + 1), z] _ _ (fun _ _ _ => False) (hr.make C [z] []) (I2.env0.make C [z] []) (by have b := bi _ [Value.ref (h1.objs.size + 1), z] I2.kIn (by rw [List.append_nil]; exact many); simpa using b) two keep) fun rr s2 hq => ?_))
  cases rr with
  | error er => exact absurd hq (by
      intro hq
      exact hq.elim)
  | ok fl =>
    cases fl with
    | ret u2 =>
      obtain ⟨v, H2, os2, bare2, un2, hok2, rv, ev, d, rfl, ne, hd⟩ := hq
      subst ev
      obtain ⟨h2, g2, d2, t2, os'⟩ := s2
      have ea : upd (upd (upd H1 (h1.objs.size + 1) (exo (h1.objs.size + 1) C none)) d (exd d [(("kind" : Str), u)])) (h1.objs.size + 1) (exo (h1.objs.size + 1) C (some d)) (h1.objs.size + 1) = some (exo (h1.objs.size + 1) C (some d)) := upd_same
      have ed : upd (upd (upd H1 (h1.objs.size + 1) (exo (h1.objs.size + 1) C none)) d (exd d [(("kind" : Str), u)])) (h1.objs.size + 1) (exo (h1.objs.size + 1) C (some d)) d = some (exd d [(("kind" : Str), u)]) := by rw [upd_ne ne, upd_same]
      obtain ⟨t0, Gp, J, kG, ge, hoe, na⟩ := mk_end0 (d2 := d2) (t2 := t2) I1 (Nat.le_add_right _ 1) grow un2 hok2 os2 bare2 ea ed hd
      have eH : upd (del (upd (upd (upd H1 (h1.objs.size + 1) (exo (h1.objs.size + 1) C none)) d (exd d [(("kind" : Str), u)])) (h1.objs.size + 1) (exo (h1.objs.size + 1) C (some d))) (h1.objs.size + 1)) d (.xd [(("kind" : Str), u)]) = upd H1 d (.xd [(("kind" : Str), u)]) := by
        funext b
        by_cases hb : b = d
        · rw [hb, upd_same, upd_same]
        · rw [upd_ne hb, upd_ne hb]
          by_cases hc : b = h1.objs.size + 1
          · rw [hc, del_same, fresh]
          · rw [del_ne hc, upd_ne hc, upd_ne hb, upd_ne hc]
      rw [eH] at J na
      exact ⟨rv, _, _, _, ⟨Gp, g2, d2, t2, os'⟩, _, .ref C, some d, rfl, J, kG, ge, hoe, ⟨rfl, rfl, fun vs e => by cases e; rfl⟩, rfl, rfl, na, rfl, bare2, raises_own T.exC T.tyC, q1 _ d fresh hd ne⟩
    | next => exact False.elim hq
    | brk => exact False.elim hq
    | cont => exact False.elim hq
end
/-! ### its __init__ walked -/
abbrev tTF (K : PySem.W.Frag) : TS := tSeq (tDrop (tVeI K (tCons (tVar 0) (tCons (tC (.str (Str.ofString "too few"))) tNil)))) (tOst K "kind" (tVar 0) (tVar 1))
theorem tf_run {K : PySem.W.Frag} {C : Addr} {N : List Str} (hN : N.length = 2) (T : OexC K C) (nk : PySem.W.findIn K (.ref C) "kind" = some none) {vs : List V} {H : Hp} {Q : VK} {E : XK} (h : spTF C vs H Q E) : tTF K { nx := fun _ H' => Q .non H', rt := Q } (L2.start N vs) H := by
  obtain ⟨a, u, rfl, ea, q⟩ := h
  have hst : L2.start N [.ref a, u] = [some (.ref a), some u] := by
    unfold L2.start
    rw [hN]
    rfl
  rw [hst]
  refine ⟨.ref a, rfl, a, C, [.str (Str.ofString "too few")], rfl, (by show 1 ≤ 1000; decide), T, ea, u, rfl, .ref a, rfl, a, C, rfl, T, nk, .inl ⟨ea, fun d hd ne => q d hd ne⟩⟩
theorem tf_of {P : Program} {w : World} {K : PySem.W.Frag} {C : Addr} {mg : Str → Option Value} {base : Heap} {qual n0 : Str} {st : Stmt} {f : Addr} {fd : FuncData} {ps N : List Str} {k : Nat} (F : Fun K n0 qual st f fd) (T : OexC K C) (nk : PySem.W.findIn K (.ref C) "kind" = some none) (S : FnScope N ps (defScope st)) (hN : N.length = 2) (hps : ps.length = 2)
    (hb : ∀ (f : Addr) (cdv : Value) (A : Around) (outer : List Env) (s : Shared) (H : Hp) (E : XK), Room k (A.deeper (envOfC qual (defScope st) s.heap.objs.size f cdv)) → PSs (cxOf CX0 P w K mg base N qual (defScope st) f cdv A outer s H E).nox (defBody st) (tTF K)) : FnOk P w K mg base CX0 (k + 1) f fd ps (spTF C) := by
  refine F.ok S (fun vs H Q E h => ?_) (fun cdv A outer s H vs Q E hr h => ⟨_, hb f cdv A outer s H E hr, tf_run hN T nk h⟩)
  obtain ⟨a, u, rfl, _⟩ := h
  rw [hps]
  rfl
/-- all that the raising of it asks -/
def TooF (cl : Nat → Addr) (P : Program) (w : World) (K : PySem.W.Frag) (mg : Str → Option Value) (base : Heap) (k : Nat) (x : Str) : Prop := ∃ fI fd ps, OexC K (cl 11) ∧ PySem.W.findIn K (.ref (cl 11)) "__init__" = some (some (.ref fI)) ∧ PySem.W.typeIn K (.ref fI) = some (.type "function") ∧ FnOk P w K mg base CX0 k fI fd ps (spTF (cl 11)) ∧ Binds K fd ps [] ∧ mg x = some (.ref (cl 11))
/-- raise C(e) -/
def wsRaiseK (xp : XV → Prop) (we : WE) : WS := fun _ ρ => we ρ fun x => ∃ d, x = .fr d ∧ xp ⟨11, some d⟩
section
variable {cl : Nat → Addr} {Z : Par} {X : Cx} {E : XK} {xp : XV → Prop} {e : Expr} {we : WE} {p pos pos' : Pos} {j k : Nat}
theorem qsX_raiseK {x : Str} (hc : X.calm = true) (tk : L2N.Takes X fun c d _ H => E c d H) (t : TooF cl X.prog X.w X.K X.mg X.base k x) (hr : Room j X.A) (hjk : k + 1 ≤ j) (he : PE X e (LE Z we)) (hg : Gl X x := by rfl) (hdb : (x == ("__debug__" : Str)) = false := by decide)
    (hst : starEach [e] X.env = (false, eval e X.env) :: starEach [] X.env := by rfl) (hpl : (backTo pos (starEach [] X.env)).any (·.1) = false := by rfl) : PS X (.Raise (some (.Call (.Name x p) [e] [] pos)) none pos') (LSX cl Z E xp (wsRaiseK xp we)) := by
  obtain ⟨fI, fd, ps, T, iC, tI, G, bi, hm⟩ := t
  refine psW (L2N.ps_raise hc tk (pmkN T iC tI G (hr.mono hjk) bi hg hm he hdb hst hpl)) fun Dd σ H h => ?_
  obtain ⟨F, B, P, ρ, W, a, w, kn, kr, kb, kc, kx⟩ := h
  refine ⟨F, B, P, ρ, _, a, w, fun F1 B1 H1 u x e1 w1 r1 p1 => ?_⟩
  obtain ⟨d, rfl, q⟩ := p1
  intro y dd hy hd ne
  obtain ⟨w2, e2⟩ := lay (o := .xd [(("kind" : Str), u)]) w1 hd
  have ee := e1.then e2
  refine kx F1 B1 _ _ _ ⟨11, some d⟩ (a.rebase ee) w2 ⟨rfl, dd, u, rfl, upd_same, XR.mono (x := .fr d) r1 e2⟩ q
end
/-! ### isinstance of an error that has a field; what its suite tells -/
section
variable {X : Cx} {a D dd : Addr} {oe : Obj} {pn : List (Addr × Obj)} {i : Nat} {e : Str}
theorem call_isF (C : ExcC X.K D) (hz : Zc (.ref D) (some dd) oe) (hf : ∃ vs, oe.data = .fields vs) : CallR (X.suite a ((a, oe) :: pn)) (.builtin "isinstance") (fun xs H Q => (∃ fs, H dd = some (.xd fs)) ∧ rIsE X.K D a xs H Q) := by
  intro pins s σ H xs us Q I r h
  obtain ⟨⟨fs, hd⟩, c, cv, b, rfl, hcv, kit, q⟩ := h
  obtain ⟨u1, u2, rfl, r1, r2⟩ := vals2 r
  cases (show u1 = Value.ref a from r1)
  cases hcv u2 r2
  obtain ⟨here, _⟩ := I.pin (a, oe) (List.mem_append_left _ List.mem_cons_self)
  obtain ⟨vs, hv⟩ := hf
  obtain ⟨mA, hns, _⟩ := (show ObjOk X.prog X.w H s.heap dd (.xd fs) from I.hok dd _ hd)
  obtain ⟨od, ho, _⟩ := lookIn_ns hns
  have J : PySem.W.InstAt s.heap a oe D (some od) := ⟨here, hz.1, by unfold PySem.W.notCls; rw [hv] <;> rfl, by rw [hz.2]; exact ho⟩
  have isC : (PySem.W.clsIn X.K D).isSome = true := by
    obtain ⟨cd, hc, _⟩ := PySem.W.any_some C.hd
    rw [hc]
    rfl
  exact PySem.W.kia_one (PySem.W.kitx_exc isC C.hg C.hk C.hs C.ha C.hn C.ht C.hm) I.kIn J kit (fun z => nomatch z) fun tk => ⟨.bl b, H, I.kept (t' := tk) fun _ _ z => z, rfl, q⟩
theorem pe_isF {c : Expr} {cv : V} {b : Bool} {u : Value} {p2 p3 p5 : Pos} (hN : X.N[i]? = some e) (hv : Vis X.env.scope e) (hmi : X.mg "isinstance" = none) (hg : Gl X "isinstance") (C : ExcC X.K D) (hz : Zc (.ref D) (some dd) oe) (hf : ∃ vs, oe.data = .fields vs)
    (hc : PE (X.suite a ((a, oe) :: pn)) c (tC cv)) (hcv : ∀ z, RelV cv z → z = u) (kit : PySem.W.kitOne X.K (.ref D) u = some b) (hd : (e == ("__debug__" : Str)) = false) (hcd : (e == ("__classdict__" : Str)) = false)
    (h1 : starEach [.Name e p3, c] X.env = (false, eval (.Name e p3) X.env) :: starEach [c] X.env) (h2 : starEach [c] X.env = (false, eval c X.env) :: starEach [] X.env) (h3 : (backTo p5 (starEach [c] X.env)).any (·.1) = false) :
    PE (X.suite a ((a, oe) :: pn)) (.Call (.Name "isinstance" p2) [.Name e p3, c] [] p5) (fun σ H Q => σ[i]? = some (some (.ref a)) ∧ (∃ fs, H dd = some (.xd fs)) ∧ Q (.bl b) H) :=
  peW (pe_callB (X := X.suite a ((a, oe) :: pn)) (call_isF C hz hf) hg hmi (by decide +kernel) (pa_cons (pe_var (X := X.suite a ((a, oe) :: pn)) (i := i) hN hv hd hcd) (pa_cons hc pa_nil h2) h1) (by decide) (by decide) h1 h3) fun σ H Q h =>
    ⟨.ref a, h.1, h.2.1, cv, u, b, rfl, hcv, kit, h.2.2⟩
end
/-- what the suite of TooFew makes: slot 4 is the answer's -/
def tFewK (a dd : Addr) : TS := fun D σ H => σ.length = 9 ∧ σ[5]? = some (some (.ref a)) ∧ ∃ u, H dd = some (.xd [(("kind" : Str), u)]) ∧ ∀ p H' (σ' : L2.St), RF.Ext H H' → H p = none → H' p = some (.lst [.str "TooFew", u, .bl true]) → σ'.length = 9 → σ'[4]? = some (some (.ref p)) → D.nx σ' H'
def tsFew (cl : Nat → Addr) : RH.TSu := fun a cls d D σ H => ∃ dd, (cls = Value.ref (cl 11) ∧ d = some dd) ∧ tFewK a dd D σ H
theorem tsFew_ok {cl : Nat → Addr} (a dd : Addr) (u : V) (D : Ends) (σ : L2.St) (H : Hp) (h1 : σ.length = 9) (h2 : σ[5]? = some (some (.ref a))) (h3 : H dd = some (.xd [(("kind" : Str), u)])) (k : ∀ p H' (σ' : L2.St), RF.Ext H H' → H p = none → H' p = some (.lst [.str "TooFew", u, .bl true]) → σ'.length = 9 → σ'[4]? = some (some (.ref p)) → D.nx σ' H') : tsFew cl a (.ref (cl 11)) (some dd) D σ H :=
  ⟨dd, ⟨rfl, rfl⟩, h1, h2, u, h3, k⟩
section
variable {X : Cx} {a D dd : Addr} {oe : Obj} {pn : List (Addr × Obj)} {x : Str}
/-- kin = ["TooFew", e.kind, isinstance(e, ValueError)] -/
theorem ps_few {j : Nat} {e3 : Expr} {p0 p1 p2 p3 p4 pos : Pos} (hN : X.N.Nodup) (hj : X.N[4]? = some x) (hx : Loc X.env.scope x) (hxl : X.env.scope.names.lookup x = some .local) (h5 : X.N[5]? = some ("e" : Str)) (hv5 : Vis X.env.scope ("e" : Str)) (T : XfC X.K D) (hno : PySem.W.findIn X.K (.ref D) "kind" = some none) (hz : Zc (.ref D) (some dd) oe) (hf : ∃ vs, oe.data = .fields vs)
    (he : PE (X.suite a ((a, oe) :: pn)) e3 (fun σ H Q => σ[5]? = some (some (.ref a)) ∧ (∃ fs, H dd = some (.xd fs)) ∧ Q (.bl true) H))
    (s1 : starEach [.Constant (.str "TooFew") j p1, .Attribute (.Name "e" p2) "kind" p3, e3] X.env = (false, eval (.Constant (.str "TooFew") j p1) X.env) :: starEach [.Attribute (.Name "e" p2) "kind" p3, e3] X.env := by rfl) (s2 : starEach [.Attribute (.Name "e" p2) "kind" p3, e3] X.env = (false, eval (.Attribute (.Name "e" p2) "kind" p3) X.env) :: starEach [e3] X.env := by rfl) (s3 : starEach [e3] X.env = (false, eval e3 X.env) :: starEach [] X.env := by rfl)
    (hb : attributeBase (.Name "e" p2) "kind" X.env (eval (.Name "e" p2) X.env) = eval (.Name "e" p2) X.env := by rfl) (hs : swapsWith (.List [.Constant (.str "TooFew") j p1, .Attribute (.Name "e" p2) "kind" p3, e3] p4) (some (.Name x p0)) pos.line X.env = pure false := by rfl) :
    PS (X.suite a ((a, oe) :: pn)) (.Assign [.Name x p0] (.List [.Constant (.str "TooFew") j p1, .Attribute (.Name "e" p2) "kind" p3, e3] p4) pos) (tFewK a dd) :=
  psW (ps_set (X := X.suite a ((a, oe) :: pn)) (i := 4) hN hj hx (pe_lst (pa_cons pe_str (pa_cons (pe_xf T hno hz hf (pe_var (X := X.suite a ((a, oe) :: pn)) (i := 5) h5 hv5 (by decide) (by decide)) hb) (pa_cons he pa_nil s3) s2) s1)) hs (.inr hxl)) fun Dd σ H h => by
    obtain ⟨hl, he, u, hd, k⟩ := h
    refine ⟨.ref a, he, rfl, rfl, dd, _, u, rfl, hd, rfl, he, ⟨_, hd⟩, (by show 3 ≤ sizeLine; decide), fun p hp => ?_⟩
    refine k p _ _ (RF.Ext.new hp) hp upd_same (by rw [List.length_set]; exact hl) ?_
    rw [List.getElem?_set_self (by rw [hl]; decide)]
end
end DL

/-! The data layer with objects: refusals raised, the list of what was done, own len, own ==, isinstance. -/
namespace DL
open PySem PySem.Spec PyProof.Rows L2
section
variable {M : Md} {X : Cx} {e o a b c : Expr} {we wa wb : WE2} {wt : WT2} {wl : WA2} {pos p p2 p3 pos' : Pos} {j k : Nat} {ps : List Str} {x : Str}
/-! ### raise -/
def wsRaise2 (xp : OS → XV → Prop) (i : Nat) : WS2 := fun _ S _ => xp S ⟨i, none⟩
def wsRaiseK2 (xp : OS → XV → Prop) (we : WE) : WS2 := fun _ S ρ => we ρ fun x => ∃ d, x = .fr d ∧ xp S ⟨11, some d⟩
theorem rs_raise (i : Nat) (hc : X.calm = true) (tk : L2N.Takes X fun c d _ H => M.E c d H) (e : ErrC X.K X.mg x (M.cl i)) (hg : Gl X x := by rfl) (hdb : (x == ("__debug__" : Str)) = false := by decide) :
    PS X (.Raise (some (.Call (.Name x p) [] [] pos)) none pos') (LS2 M (wsRaise2 M.xp i)) := rs_liftX fun xp => qsX_raise i hc tk e hg hdb
theorem rs_raiseK {we : WE} (hc : X.calm = true) (tk : L2N.Takes X fun c d _ H => M.E c d H) (t : TooF M.cl X.prog X.w X.K X.mg X.base k x) (hr : Room j X.A) (hjk : k + 1 ≤ j) (he : PE X e (LE M.Z we)) (hg : Gl X x := by rfl) (hdb : (x == ("__debug__" : Str)) = false := by decide)
    (hst : starEach [e] X.env = (false, eval e X.env) :: starEach [] X.env := by rfl) (hpl : (backTo pos (starEach [] X.env)).any (·.1) = false := by rfl) : PS X (.Raise (some (.Call (.Name x p) [e] [] pos)) none pos') (LS2 M (wsRaiseK2 M.xp we)) := rs_liftX fun xp => qsX_raiseK hc tk t hr hjk he hg hdb hst hpl
/-! ### the list of what was done -/
theorem RepAll.dropLast {Z : Par} {F : Hp} {B : Addr → Prop} : ∀ {vs : List V} {ds : List D}, RepAll Z F B vs ds → RepAll Z F B vs.dropLast ds.dropLast
  | _, _, .nil => .nil
  | _, _, .cons h .nil => .nil
  | _, _, .cons h (.cons h2 r) => .cons h (RepAll.dropLast (.cons h2 r))
def wLenP (i : Nat) : WE2 := fun S ρ post => ∃ b k, ρ[i]? = some (some (.fr (hD b))) ∧ S b = some k ∧ post S (.fr (.int (k.past.length : Int)))
theorem re_lenP (zo : ZO M.Z M.C) (i : Nat) (fl : Fld X.K M.C) (hm : X.mg "len" = none) (hv : PE X (.Name x p) (tVar i)) (hg : Gl X "len" := by rfl) (hb : attributeBase (.Name x p) "past" X.env (eval (.Name x p) X.env) = eval (.Name x p) X.env := by rfl)
    (he : starEach [.Attribute (.Name x p) "past" p2] X.env = (false, eval (.Attribute (.Name x p) "past" p2) X.env) :: starEach [] X.env := by rfl) : PE X (.Call (.Name "len" p3) [.Attribute (.Name x p) "past" p2] [] pos) (LE2 M (wLenP i)) :=
  peW (pe_callB call_len_seq hg hm (by decide +kernel) (pa_cons (pe_fld hv hb) pa_nil he) (by decide) (by decide) he (by rfl)) fun σ H Q h => by
    obtain ⟨w, P, ρ, post, rfl, a, ⟨b, ko, hi, hS, q⟩, k, kx⟩ := h
    obtain ⟨v, hv, r⟩ := a.at_.rs.val i _ hi
    obtain ⟨rfl, dx, vc, hb, hc⟩ := obj_at zo a.ok (show Rep M.Z w.F w.B v (hD b) from r) hS
    obtain ⟨_, _, vs, _, _, _, _, h5, h6⟩ := a.oa.at_ b ko hS
    refine ⟨_, hv, b, M.C, dx, _, .ref ko.pl, rfl, hb, fl.cls, fl.past, rfl, ko.pl, vs, rfl, .inl (SqL.of h5), ?_⟩
    rw [h6.length]
    exact k w (.int _) (.fr (.int _)) Le2.refl a.ok (.int _) q
def wsPop (i : Nat) : WS2 := fun W S ρ => ∃ b k, ρ[i]? = some (some (.fr (hD b))) ∧ S b = some k ∧ 0 < k.past.length ∧ W.nx (S.put b { k with past := k.past.dropLast }) ρ
theorem rs_pop (zo : ZO M.Z M.C) (i : Nat) (fl : Fld X.K M.C) (hbm : PE X (.Call (.Attribute (.Attribute (.Name x p) "past" p2) "pop" p3) [] [] pos) (tBM0 X.K "list" rPop (tFld X.K (tVar i) "past")))
    (hs : swapsWith (.Call (.Attribute (.Attribute (.Name x p) "past" p2) "pop" p3) [] [] pos) none pos'.line X.env = pure false := by rfl) : PS X (.Expr (.Call (.Attribute (.Attribute (.Name x p) "past" p2) "pop" p3) [] [] pos) pos') (LS2 M (wsPop i)) := psW (ps_expr hbm hs) fun Dd σ H h => by
  obtain ⟨w, P, ρ, W, rfl, a, ⟨b, ko, hi, hS, hl, q⟩, kn, kr, kb, kc, kx⟩ := h
  obtain ⟨v, hv, r⟩ := a.at_.rs.val i _ hi
  obtain ⟨rfl, dx, vc, hb, hc⟩ := obj_at zo a.ok (show Rep M.Z w.F w.B v (hD b) from r) hS
  obtain ⟨_, _, vs, _, _, _, _, h5, h6⟩ := a.oa.at_ b ko hS
  have hvl : vs.length - 1 < vs.length := by
    have := h6.length
    omega
  obtain ⟨e1, o1⟩ := Ok.past (P := dm w.H) a.ok hS (us := vs.dropLast) (es := ko.past.dropLast) h6.dropLast
  exact ⟨_, hv, b, M.C, dx, _, .ref ko.pl, rfl, hb, fl.cls, fl.past, rfl, .inl ⟨rfl, vs, SqL.of h5⟩, ko.pl, vs, vs[vs.length - 1], rfl, rfl, h5, List.getElem?_eq_getElem hvl, kn (w.past b ko vs.dropLast ko.past.dropLast) σ ρ (a.rebase e1) (a.step e1 o1) q⟩
/-! ### and, or of truths as values; a if c else b -/
def wAndV2 (a b : WE2) : WE2 := fun S ρ post => a S ρ fun S1 x => ∃ c, x = .fr (.bool c) ∧ if c = true then b S1 ρ post else post S1 (.fr (.bool false))
def wIf2 (t : WT2) (a b : WE2) : WE2 := fun S ρ post => t S ρ fun S1 c => if c = true then a S1 ρ post else b S1 ρ post
theorem re_one {op} (h : PE X a (LE2 M wa)) : PE X (.BoolOp op [a] pos) (LE2 M wa) := pe_one h
theorem re_and {rest : List Expr} (ha : PE X a (LE2 M wa)) (hb : PE X (.BoolOp .And (b :: rest) pos) (LE2 M wb)) : PE X (.BoolOp .And (a :: b :: rest) pos) (LE2 M (wAndV2 wa wb)) := peW (pe_and ha hb) fun σ H Q h => by
  obtain ⟨w, P, ρ, post, rfl, a, q, k, kx⟩ := h
  refine ⟨w, P, ρ, _, rfl, a, q, fun w1 v x e1 o1 r1 p1 => ?_, kx⟩
  obtain ⟨b, rfl, p1⟩ := p1
  refine ⟨b, Rep.bl_inv r1, ?_⟩
  cases b with
  | true => exact ⟨w1, P, ρ, _, rfl, a.step e1 o1, p1, fun w2 v x e2 o2 r2 p2 => k w2 v x (e1.then e2) o2 r2 p2, kx.back e1⟩
  | false => exact k w1 (.bl false) (.fr (.bool false)) e1 o1 (.bl false) p1
theorem re_ifExp (hc : PT X c (LT2 M wt)) (ha : PE X a (LE2 M wa)) (hb : PE X b (LE2 M wb)) : PE X (.IfExp c a b pos) (LE2 M (wIf2 wt wa wb)) := peW (pe_ifExp hc ha hb) fun σ H Q h => by
  obtain ⟨w, P, ρ, post, rfl, a, q, k, kx⟩ := h
  refine ⟨w, P, ρ, _, rfl, a, q, fun w1 b e1 o1 p1 => ?_, kx⟩
  cases b with
  | true => exact ⟨w1, P, ρ, _, rfl, a.step e1 o1, p1, fun w2 v x e2 o2 r2 p2 => k w2 v x (e1.then e2) o2 r2 p2, kx.back e1⟩
  | false => exact ⟨w1, P, ρ, _, rfl, a.step e1 o1, p1, fun w2 v x e2 o2 r2 p2 => k w2 v x (e1.then e2) o2 r2 p2, kx.back e1⟩
/-! ### three names at once -/
def wsPar32 (i j l : Nat) (wl : WA2) : WS2 := fun W S ρ => wl S ρ fun S1 xs => ∃ c d e, xs = [.fr c, .fr d, .fr e] ∧ W.nx S1 (((ρ.set i (some (.fr c))).set j (some (.fr d))).set l (some (.fr e)))
theorem rs_par3 (i j l : Nat) {x y z : Str} {px py pz pt : Pos} {kt k2 pt2} (hc : X.calm = true) (hN : X.N.Nodup) (hi : X.N[i]? = some x) (hj : X.N[j]? = some y) (hl : X.N[l]? = some z) (hij : i ≠ j) (hil : i ≠ l) (hjl : j ≠ l)
    (hx : X.env.scope.names.lookup x = some .local) (hy : X.env.scope.names.lookup y = some .local) (hz : X.env.scope.names.lookup z = some .local) (ha : PA X [a, b, c] (LA2 M wl))
    (hw : swappedStores [.Tuple [.Name x px, .Name y py, .Name z pz] kt pt] (.Tuple [a, b, c] k2 pt2) X.env = pure (some [x, y, z]))
    (hs : swapsWithSole [.Tuple [.Name x px, .Name y py, .Name z pz] kt pt] (.Tuple [a, b, c] k2 pt2) pos.line X.env = pure false := by rfl) :
    PS X (.Assign [.Tuple [.Name x px, .Name y py, .Name z pz] kt pt] (.Tuple [a, b, c] k2 pt2) pos) (LS2 M (wsPar32 i j l wl)) := psW (ps_par3 hc hN hi hj hl hij hil hjl hx hy hz ha hw hs) fun Dd σ H h => by
  obtain ⟨w, P, ρ, W, rfl, a, q, kn, kr, kb, kc, kx⟩ := h
  refine ⟨w, P, ρ, _, rfl, a, q, fun w1 vs xs e1 o1 r1 p1 => ?_, KR2.dm kx a⟩
  obtain ⟨c, d, e, rfl, q⟩ := p1
  obtain ⟨v, u, t, rfl, rx, ry, rz⟩ := XRs.three r1
  exact ⟨v, u, t, rfl, kn w1 _ _ (a.rebase e1) ((((a.step e1 o1).setFr i rx).setFr j ry).setFr l rz) q⟩
end
section
variable {M : Md} {X : Cx} {a b : Expr} {wa wb : WE2} {pos : Pos}
theorem re_eq (hK : X.K = M.Z.K) (hu : X.A.units + 64 < cLine) (ha : PE X a (LE2 M wa)) (hb : PE X b (LE2 M wb)) : PE X (.Compare a [.Eq] [b] pos) (LE2 M (wOp2 (wEq false) wa wb)) := re_cmp (op_eqD hu) (fun F B H P v u x y post Q w rx ry wr k => by
  obtain ⟨s1, s2, p⟩ := wr
  rw [hK]
  exact ⟨_, _, XR.dp w rx (SeqAt.canLay_of_shaped s1), XR.dp w ry (SeqAt.canLay_of_shaped s2), s1, s2, KX.here k w (x := .fr _) (.bl _) p⟩) ha hb (nomark _)
end
/-! ### own len, own ==, isinstance: on values -/
section
variable {X : Cx} {CX : CXT} {sp : Sp} {E : XK} {C f : Addr} {n : Nat}
def rLenK (C : Addr) (sp : Sp) (E : XK) : List V → Hp → VK → Prop := fun xs H Q => ∃ a dx fs, xs = [V.ref a] ∧ H a = some (.ins C dx fs) ∧ sp [.ref a] H (fun z H' => ∃ m : Nat, z = .int m ∧ m ≤ 100000 ∧ Q z H') E
theorem call_lenK {m : Str} (hm : m = ("__len__" : Str)) (M : Meth X.K C m f) (F : FnR X.prog X.w X.K X.mg X.base CX n f sp) (hr : Room (n + 1) X.A) (hx : Passes CX X E) : CallR X (.builtin "len") (rLenK C sp E) := by
  intro pins s σ H xs us Q I r h
  obtain ⟨a, dx, fs, rfl, ea, q⟩ := h
  obtain ⟨u, rfl, ru⟩ := r.one
  cases (show u = Value.ref a from ru)
  obtain ⟨mA, O, _⟩ := ins_get I.hok ea
  obtain ⟨od, J, _⟩ := O.look
  obtain ⟨ns, hF⟩ := I.fr
  subst hm
  refine PySem.W.len_K hF I.ok.mod.kin J M.at_ M.fn (wpAny_mono (wpAny_call (SlX.run_at (us := [.ref a]) (ws := [.ref a]) F hr.in1 I.env0.in1 hx I (.cons rfl .nil) q)) (fun v s' z => ?_) fun _ _ x => x)
  obtain ⟨z', H', I', rz, i, rfl, hi, qz⟩ := z
  obtain ⟨t, rfl⟩ := (show ∃ t, v = Value.int i t from rz)
  exact ⟨⟨by omega, by omega⟩, .int i, H', I'.tok _, ⟨_, rfl⟩, qz⟩
def rEqK (K : PySem.W.Frag) (C : Addr) (sp : Sp) (E : XK) : R2 := fun x y H Q => ∃ a dx fs t, x = .ref a ∧ H a = some (.ins C dx fs) ∧ TyX K H y t ∧ PySem.W.notFirst K C t = true ∧ sp [x, y] H Q E
theorem op_eqK {m : Str} (hm : m = ("__eq__" : Str)) (M : Meth X.K C m f) (F : FnR X.prog X.w X.K X.mg X.base CX n f sp) (hr : Room n X.A) (hx : Passes CX X E) : OpR X (compareOp .Eq) (rEqK X.K C sp E) := by
  intro pins s σ H x y v u Q I rx ry h
  obtain ⟨a, dx, fs, t, rfl, ea, ty, nf, q⟩ := h
  cases (show v = Value.ref a from rx)
  obtain ⟨mA, O, _⟩ := ins_get I.hok ea
  obtain ⟨od, J, _⟩ := O.look
  obtain ⟨ns, hF⟩ := I.fr
  obtain ⟨Pt, kx, pt, _⟩ := kit_of I ry ty
  subst hm
  show wpAny _ _ (richCompare .Eq _ _) _ _ _
  refine PySem.W.cmp_K (op := .Eq) hr.units0 hF I.ok.mod.kin J (kx.ty _ _ I.kIn pt) nf M.at_ M.fn (wpAny_mono (wpAny_call (run_fnR (us := [.ref a, u]) (vs := [.ref a, y]) F hr hx I (.cons rfl (.cons ry .nil)) q)) (fun w s' z => ?_) fun _ _ x => x)
  obtain ⟨z', H', I', rz, qz⟩ := z
  exact SlX.cmpback rz ⟨z', H', I', rz, qz⟩
end
/-! ### on objects -/
/-- what isinstance and == ask of the class of kept purses -/
structure KCls (K : PySem.W.Frag) (mg : Str → Option Value) (C : Addr) : Prop where
  cls : Cls K C
  si : SlX.SIsi K C
  nf : PySem.W.notFirst K C (.ref C) = true
  nfT : PySem.W.notFirst K C (.type "tuple") = true
  is : PySem.W.kitOne K (.ref C) (.ref C) = some true
  isT : PySem.W.kitOne K (.type "tuple") (.ref C) = some false
  mg : mg "Kept" = some (.ref C)
/-- a kept purse, or a tuple -/
def KorT (S : OS) (d : D) : Prop := (∃ b l, d = hD b ∧ S b = some l) ∨ ∃ ds, d = .tuple ds
def wLenK2 (wf : WFn2) (xp : OS → XV → Prop) (we : WE2) : WE2 := fun S ρ post => we S ρ fun S1 x => ∃ a k, x = .fr (hD a) ∧ S1 a = some k ∧ wf [hD a] S1 (fun S2 d => ∃ n : Nat, d = .int (n : Int) ∧ n ≤ 100000 ∧ post S2 (.fr d)) xp
def wEqK2 (wf : WFn2) (xp : OS → XV → Prop) (wa wb : WE2) : WE2 := fun S ρ post => wa S ρ fun S1 x => wb S1 ρ fun S2 y => ∃ a k d, x = .fr (hD a) ∧ S2 a = some k ∧ y = .fr d ∧ KorT S2 d ∧ wf [hD a, d] S2 (fun S3 d => post S3 (.fr d)) xp
def wIsK (j : Nat) : WE2 := fun S ρ post => ∃ d, ρ[j]? = some (some (.fr d)) ∧ ((∃ b l, d = hD b ∧ S b = some l ∧ post S (.fr (.bool true))) ∨ ∃ ds, d = .tuple ds ∧ post S (.fr (.bool false)))
section
variable {M : Md} {X : Cx} {e o a b c : Expr} {we wa wb : WE2} {wt : WT2} {wl : WA2} {pos p p2 p3 pos' : Pos} {j k : Nat} {ps : List Str} {x : Str} {wf : WFn2} {w : Wd}
theorem tyx_at (zo : ZO M.Z M.C) (kc : KCls X.K X.mg M.C) (o : Ok M.Z M.C w) {v : V} {d : D} (r : Rep M.Z w.F w.B v d) (h : KorT w.S d) : (∃ b l, d = hD b ∧ w.S b = some l ∧ TyX X.K w.H v (.ref M.C)) ∨ ((∃ ds, d = .tuple ds) ∧ TyX X.K w.H v (.type "tuple")) := by
  rcases h with ⟨b, l, rfl, hS⟩ | ⟨ds, rfl⟩
  · obtain ⟨rfl, dx, vc, ea, _⟩ := obj_at zo o r hS
    exact .inl ⟨b, l, rfl, hS, .base (.ins ea kc.cls kc.si.ca kc.si.cn kc.si.ct kc.si.cm)⟩
  · cases r with
    | tup h _ => exact .inr ⟨⟨ds, rfl⟩, .base (.tup (o.wf.ex _ _ h))⟩
theorem re_lenK (c : Met M.cl M.Z M.C X.prog X.w X.mg X.base k "__len__" ps wf) (zo : ZO M.Z M.C) (hK : X.K = M.Z.K) (hx : Passes (L2N.CX X.prog X.w) X M.E) (hr : Room j X.A) (hjk : k + 1 ≤ j) (hm : X.mg "len" = none) (ho : PE X o (LE2 M we)) (hg : Gl X "len" := by rfl)
    (he : starEach [o] X.env = (false, eval o X.env) :: starEach [] X.env := by rfl) : PE X (.Call (.Name "len" p) [o] [] pos) (LE2 M (wLenK2 wf M.xp we)) := by
  obtain ⟨f, fd, G, cc, mt, bi⟩ := c
  rw [← hK] at G cc mt bi
  refine peW (pe_callB (call_lenK rfl mt (G.raw bi .nil) (hr.mono hjk) hx) hg hm (by decide +kernel) (pa_cons ho pa_nil he) (by decide) (by decide) he (by rfl)) fun σ H Q h => ?_
  obtain ⟨w, P, ρ, post, rfl, a, q, k, kx⟩ := h
  refine ⟨w, P, ρ, _, rfl, a, q, fun w1 v x e1 o1 r1 p1 => ?_, kx⟩
  obtain ⟨b, ko, rfl, hS, q⟩ := p1
  obtain ⟨rfl, dx, vc, hb, hc⟩ := obj_at zo o1 r1 hS
  refine ⟨b, dx, _, rfl, hb, w1, [hD b], _, M.xp, rfl, o1, .cons r1 .nil, q, fun w2 v d e2 o2 r2 p2 => ?_, kx.back e1⟩
  obtain ⟨n, rfl, hn, p2⟩ := p2
  obtain rfl := Rep.int_inv r2
  exact ⟨n, rfl, hn, k w2 _ (.fr (.int (n : Int))) (e1.then e2) o2 r2 p2⟩
theorem re_eqK (c : Met M.cl M.Z M.C X.prog X.w X.mg X.base k "__eq__" ps wf) (zo : ZO M.Z M.C) (kc : KCls X.K X.mg M.C) (hK : X.K = M.Z.K) (hx : Passes (L2N.CX X.prog X.w) X M.E) (hr : Room j X.A) (hjk : k ≤ j) (ha : PE X a (LE2 M wa)) (hb : PE X b (LE2 M wb)) : PE X (.Compare a [.Eq] [b] pos) (LE2 M (wEqK2 wf M.xp wa wb)) := by
  obtain ⟨f, fd, G, cc, mt, bi⟩ := c
  rw [← hK] at G cc mt bi
  refine peW (pe_cmpR (op_eqK rfl mt (G.raw bi .nil) (hr.mono hjk) hx) ha hb (nomark _)) fun σ H Q h => ?_
  obtain ⟨w, P, ρ, post, rfl, a, q, k, kx⟩ := h
  refine ⟨w, P, ρ, _, rfl, a, q, fun w1 v x e1 o1 r1 p1 => ?_, kx⟩
  refine ⟨w1, P, ρ, _, rfl, a.step e1 o1, p1, fun w2 u y e2 o2 r2 p2 => ?_, kx.back e1⟩
  obtain ⟨b, ko, d, rfl, hS, rfl, kt, q⟩ := p2
  have r12 : Rep M.Z w2.F w2.B v (hD b) := (show Rep M.Z w1.F w1.B v (hD b) from r1).mono e2.ex e2.bg
  obtain ⟨rfl, dx, vc, hb, hc⟩ := obj_at zo o2 r12 hS
  have fin : LF2 M.cl M.Z M.C wf [.ref b, u] w2.H Q M.E := ⟨w2, [hD b, d], _, M.xp, rfl, o2, .cons r12 (.cons r2 .nil), q, fun w3 v d e3 o3 r3 p3 => k w3 v (.fr d) ((e1.then e2).then e3) o3 r3 p3, kx.back (e1.then e2)⟩
  rcases tyx_at zo kc o2 r2 kt with ⟨_, _, _, _, ty⟩ | ⟨_, ty⟩
  · exact ⟨b, dx, _, _, rfl, hb, ty, kc.nf, by show LF2 M.cl M.Z M.C wf ([V.ref b, u] ++ []) w2.H Q M.E; exact fin⟩
  · exact ⟨b, dx, _, _, rfl, hb, ty, kc.nfT, by show LF2 M.cl M.Z M.C wf ([V.ref b, u] ++ []) w2.H Q M.E; exact fin⟩
theorem rt_eqK (c : Met M.cl M.Z M.C X.prog X.w X.mg X.base k "__eq__" ps wf) (zo : ZO M.Z M.C) (kc : KCls X.K X.mg M.C) (hK : X.K = M.Z.K) (hx : Passes (L2N.CX X.prog X.w) X M.E) (hr : Room j X.A) (hjk : k ≤ j) (ha : PE X a (LE2 M wa)) (hb : PE X b (LE2 M wb)) : PT X (.Compare a [.Eq] [b] pos) (LT2 M (wTest2 (wEqK2 wf M.xp wa wb))) := by
  obtain ⟨f, fd, G, cc, mt, bi⟩ := c
  rw [← hK] at G cc mt bi
  refine ptW (pt_cmpR (op_eqK rfl mt (G.raw bi .nil) (hr.mono hjk) hx) ha hb (nomark _)) fun σ H Q h => ?_
  obtain ⟨w, P, ρ, post, rfl, a, q, k, kx⟩ := h
  refine ⟨w, P, ρ, _, rfl, a, q, fun w1 v x e1 o1 r1 p1 => ?_, kx⟩
  refine ⟨w1, P, ρ, _, rfl, a.step e1 o1, p1, fun w2 u y e2 o2 r2 p2 => ?_, kx.back e1⟩
  obtain ⟨b, ko, d, rfl, hS, rfl, kt, q⟩ := p2
  have r12 : Rep M.Z w2.F w2.B v (hD b) := (show Rep M.Z w1.F w1.B v (hD b) from r1).mono e2.ex e2.bg
  obtain ⟨rfl, dx, vc, hb, hc⟩ := obj_at zo o2 r12 hS
  have fin : LF2 M.cl M.Z M.C wf [.ref b, u] w2.H (fun v H' => ∃ b, v = .bl b ∧ Q b H') M.E := ⟨w2, [hD b, d], _, M.xp, rfl, o2, .cons r12 (.cons r2 .nil), q, fun w3 v d e3 o3 r3 p3 => by
    obtain ⟨c, e, p3⟩ := p3
    cases e
    exact ⟨c, Rep.bl_inv r3, k w3 c ((e1.then e2).then e3) o3 p3⟩, kx.back (e1.then e2)⟩
  rcases tyx_at zo kc o2 r2 kt with ⟨_, _, _, _, ty⟩ | ⟨_, ty⟩
  · exact ⟨b, dx, _, _, rfl, hb, ty, kc.nf, by show LF2 M.cl M.Z M.C wf ([V.ref b, u] ++ []) w2.H (fun v H' => ∃ b, v = .bl b ∧ Q b H') M.E; exact fin⟩
  · exact ⟨b, dx, _, _, rfl, hb, ty, kc.nfT, by show LF2 M.cl M.Z M.C wf ([V.ref b, u] ++ []) w2.H (fun v H' => ∃ b, v = .bl b ∧ Q b H') M.E; exact fin⟩
theorem re_isK (zo : ZO M.Z M.C) (kc : KCls X.K X.mg M.C) (i : Nat) (hm : X.mg "isinstance" = none) (hv : PE X (.Name x p) (tVar i)) (hg : Gl X "isinstance" := by rfl) (hgk : Gl X "Kept" := by rfl)
    (h1 : starEach [.Name x p, .Name "Kept" p2] X.env = (false, eval (.Name x p) X.env) :: starEach [.Name "Kept" p2] X.env := by rfl) (h2 : starEach [.Name "Kept" p2] X.env = (false, eval (.Name "Kept" p2) X.env) :: starEach [] X.env := by rfl) (h3 : (backTo pos (starEach [.Name "Kept" p2] X.env)).any (·.1) = false := by rfl) :
    PE X (.Call (.Name "isinstance" p3) [.Name x p, .Name "Kept" p2] [] pos) (LE2 M (wIsK i)) :=
  peW (pe_callB call_isi hg hm (by decide +kernel) (pa_cons hv (pa_cons (pe_glob (v := .ref M.C) hgk kc.mg rfl (by decide)) pa_nil h2) h1) (by decide) (by decide) h1 h3) fun σ H Q h => by
    obtain ⟨w, P, ρ, post, rfl, a, ⟨d, hi, q⟩, k, kx⟩ := h
    obtain ⟨v, hv, r⟩ := a.at_.rs.val i _ hi
    have r : Rep M.Z w.F w.B v d := r
    rcases q with ⟨b, l, rfl, hS, q⟩ | ⟨ds, rfl, q⟩
    · rcases tyx_at zo kc a.ok r (.inl ⟨b, l, rfl, hS⟩) with ⟨_, _, _, _, ty⟩ | ⟨⟨_, z⟩, _⟩
      · exact ⟨v, hv, v, .ref M.C, _, _, true, rfl, .own _, ty, kc.is, k w (.bl true) (.fr (.bool true)) Le2.refl a.ok (.bl true) q⟩
      · cases z
    · rcases tyx_at zo kc a.ok r (.inr ⟨ds, rfl⟩) with ⟨_, _, z, _⟩ | ⟨_, ty⟩
      · cases z
      · exact ⟨v, hv, v, .ref M.C, _, _, false, rfl, .own _, ty, kc.isT, k w (.bl false) (.fr (.bool false)) Le2.refl a.ok (.bl false) q⟩
end
end DL

/-! The data layer with objects: defs that refuse, lambdas, _law_refused. -/
namespace DL
open PySem PySem.Spec PyProof.Rows L2 RH RF
open LamX (CodeO TabB)
/-! ### defs that refuse -/
def CalX2 (cl : Nat → Addr) (Z : Par) (C : Addr) (P : Program) (w : World) (mg : Str → Option Value) (base : Heap) (k : Nat) (x : Str) (ps : List Str) (wf : WFn2) : Prop := ∃ f fd, FnOk P w Z.K mg base (L2N.CX P w) k f fd ps (LF2 cl Z C wf) ∧ mg x = some (.ref f) ∧ PySem.W.keepIn Z.K (.ref f) = true ∧ Binds Z.K fd ps []
def wXcal2 (wf : WFn2) (xp : OS → XV → Prop) (wl : WA2) : WE2 := fun S ρ post => wl S ρ fun S1 xs => ∃ ds, xs = ds.map DL.X.fr ∧ wf ds S1 (fun S2 d => post S2 (.fr d)) xp
section
variable {M : Md} {X : Cx} {e : Expr} {es : List Expr} {wl : WA2} {pos p : Pos} {j k : Nat} {ps : List Str} {wf : WFn2}
theorem re_calX2 {x : Str} (c : CalX2 M.cl M.Z M.C X.prog X.w X.mg X.base k x ps wf) (hK : X.K = M.Z.K) (hx : Passes (L2N.CX X.prog X.w) X M.E) (hr : Room j X.A) (hjk : k ≤ j) (ha : PA X (e :: es) (LA2 M wl)) (hg : Gl X x := by rfl) (hdb : (x == ("__debug__" : Str)) = false := by decide)
    (he : starEach (e :: es) X.env = (false, eval e X.env) :: starEach es X.env := by rfl) (hpl : (backTo pos (starEach es X.env)).any (·.1) = false := by rfl) : PE X (.Call (.Name x p) (e :: es) [] pos) (LE2 M (wXcal2 wf M.xp wl)) := by
  obtain ⟨f, fd, G, hm, hk, bi⟩ := c
  rw [← hK] at G hk bi
  refine peW (pe_call G (hr.mono hjk) hg hm hk bi .nil hx ha hdb he hpl) fun σ H Q h => ?_
  obtain ⟨w, P, ρ, post, rfl, a, q, k, kx⟩ := h
  refine ⟨w, P, ρ, _, rfl, a, q, fun w1 vs xs e1 o1 r1 p1 => ?_, kx⟩
  obtain ⟨ds, rfl, q⟩ := p1
  refine ⟨w1, ds, _, M.xp, rfl, o1, ?_, q, fun w2 v d e2 o2 r2 p2 => k w2 v (.fr d) (e1.then e2) o2 r2 p2, kx.back e1⟩
  rw [List.append_nil]
  exact XRs.fr r1
end
section
variable {cl : Nat → Addr} {Pg : Program} {w : World} {Z : Par} {C : Addr} {mg : Str → Option Value} {base : Heap} {x : Str} {st : Stmt} {ps N : List Str} {k n : Nat}
theorem Def.calX2 {ws : (OS → XV → Prop) → WS2} {wf : WFn2} (d : Def Z.K mg x st ps) (S : FnScope N ps (defScope st)) (len : ∀ ds S post xp, wf ds S post xp → ds.length = ps.length)
    (hb : ∀ (f : Addr) (cdv : Value) (A : Around) (outer : List Env) (s : Shared) (H : Hp) (E : XK) (xp : OS → XV → Prop), Room k (A.deeper (envOfC x (defScope st) s.heap.objs.size f cdv)) → PSs (cxOf (L2N.CX Pg w) Pg w Z.K mg base N x (defScope st) f cdv A outer s H E) (defBody st) (LS2 ⟨cl, Z, C, E, xp⟩ (ws xp)))
    (hd : ∀ ds S post xp, wf ds S post xp → ws xp { nx := fun S _ => post S .none, rt := post } S (startR N.length ds)) : CalX2 cl Z C Pg w mg base (k + 1) x ps wf := by
  obtain ⟨f, fd, F, hm, bi⟩ := d
  refine ⟨f, fd, fun_okN F S (fun vs H Q E h => ?_) (fun cdv A outer s H vs Q E hr h => ?_), hm, F.kp, bi⟩
  · obtain ⟨w, ds, post, xp, _, _, r, p, _⟩ := h
    rw [r.length]
    exact len ds _ post xp p
  · obtain ⟨w, ds, post, xp, rfl, o, r, p, kk, kx⟩ := h
    exact ⟨_, hb f cdv A outer s w.H E xp hr, w, dm w.H, _, _, rfl, start_at2 o r, hd ds w.S post xp p, fun w' σ' ρ' e1 a1 p1 => kk w' .non .none e1 a1.ok .non p1, fun w' v d e1 o1 r1 p1 => kk w' v d e1 o1 r1 p1, fun _ _ _ _ _ z => z.elim, fun _ _ _ _ _ z => z.elim, kx⟩
/-! ### lambdas -/
structure Callee2 (cl : Nat → Addr) (Z : Par) (C : Addr) (P : Program) (w : World) (mg : Str → Option Value) (base : Heap) (k n : Nat) (wf : WFn2) : Prop where
  fn : ∀ (f : Addr) (F H : Hp) (h : Heap), Z.fx F f n → Ex F H → HOk P w H h → Z.K.In h → PySem.W.FnAt f h
  run : ∀ (f : Addr) (F : Hp) (A : Around) (outer : List Env) (s : Shared) (H : Hp) (us : List Value) (vs : List V) (Q : VK) (E : XK), Z.fx F f n → Ex F H → Room k A → Env0 P w Z.K mg base A outer s H → Vals vs us → LF2 cl Z C wf vs H Q E →
    codeAny (model P w) A (.call (.ref f) ⟨us, []⟩) (CR (L2N.CX P w) outer P w H s Q E) s
theorem Callee2.mono {j : Nat} {wf : WFn2} (c : Callee2 cl Z C Pg w mg base j n wf) (h : j ≤ k) : Callee2 cl Z C Pg w mg base k n wf :=
  ⟨c.fn, fun f F A outer s H us vs Q E z e hr e0 r q => c.run f F A outer s H us vs Q E z e (hr.mono h) e0 r q⟩
theorem Callee2.lam {s : LamSite} {wf : WFn2} {we : (OS → XV → Prop) → WE2} (hZ : ∀ F f, Z.fx F f n → ∃ c', F f = some (LamO s f c') ∧ F c' = some (CodeO c' s.q)) (S : FnScope N ps s.scope) (len : ∀ ds S post xp, wf ds S post xp → ds.length = ps.length)
    (hbind : ∀ (pm : Value) (c' : Addr) (ctv : Value) (us : List Value), us.length = ps.length → bindArgs (lamFn s pm c' ctv) ⟨us, []⟩ = pure (ps.zip us))
    (hb : ∀ (f : Addr) (cdv : Value) (A : Around) (outer : List Env) (st : Shared) (H : Hp) (E : XK) (xp : OS → XV → Prop), Room k (A.deeper (envOfC s.q s.scope st.heap.objs.size f cdv)) → PE (cxOf (L2N.CX Pg w) Pg w Z.K mg base N s.q s.scope f cdv A outer st H E) s.body (LE2 ⟨cl, Z, C, E, xp⟩ (we xp)))
    (hd : ∀ ds S post xp, wf ds S post xp → we xp S (startR N.length ds) fun S' x => ∃ d, x = .fr d ∧ post S' d) : Callee2 cl Z C Pg w mg base (k + 1) n wf := by
  refine ⟨fun f F H h z e hok _ => ?_, fun f F A outer st H us vs Q E z e hr e0 r q => ?_⟩
  · obtain ⟨c', h1, _⟩ := hZ F f z
    obtain ⟨⟨pm, ctv, e2⟩, _⟩ := hok f _ (e _ _ h1)
    exact ⟨_, _, _, _, e2⟩
  · obtain ⟨c', h1, h2⟩ := hZ F f z
    obtain ⟨⟨pm, ctv, of⟩, _⟩ := e0.hok f _ (e _ _ h1)
    obtain ⟨⟨oc, vc, t, hoc, hdc, hvc⟩, _⟩ := e0.hok c' _ (e _ _ h2)
    obtain ⟨w0, ds, post, xp, rfl, o0, rr, p, kk, kx⟩ := id q
    have hl : vs.length = ps.length := by
      rw [rr.length]
      exact len ds w0.S post xp p
    have hlu : us.length = ps.length := by rw [← r.length]; exact hl
    have lim : st.heap.NoLimit := e0.mod.nolimit.keeps fun b o e => (e0.bs b o e).1
    have hkind : ∀ y ∈ ps.zip us, s.scope.names.lookup y.1 = some .local ∨ (s.scope.names.lookup y.1 = some .cell ∧ ((cellsFrom (st.heap.objs.size + 1) s.scope.names []).lookup y.1).isSome = true) := fun ⟨n, v⟩ hy => by
      rcases S.par n (List.of_mem_zip hy).1 with q | q
      · exact .inl q
      · exact .inr ⟨q, PySem.W.cellsFrom_some _ _ _ (.inl q)⟩
    refine PySem.W.kla_callFunE hr.depth of rfl S.co S.gen rfl ⟨c', oc, vc, t, rfl, hoc, hdc, hvc⟩ ?_
    rw [hbind pm c' ctv us hlu]
    refine wpAny_pure (wpAny_newFunctionEnv_cells S.kind hkind fun env he s1 x => ?_)
    subst he
    refine ⟨lim.keeps x.toInCall.keep, ?_⟩
    have I : Inv (cxOf (L2N.CX Pg w) Pg w Z.K mg base N s.q s.scope f (.ref c') A outer st w0.H E) [] (L2.start N vs) w0.H s1 := inv_start S hr.hd e0 hl r x
    refine PySem.W.kla_codeExpr (wpAny_mono ((hb f (.ref c') A outer st w0.H E xp (hr.deeper _)).run [] s1 (L2.start N vs) w0.H Q I ⟨w0, dm w0.H, startR N.length ds, _, rfl, start_at2 o0 rr, hd ds w0.S post xp p, fun w' v x e o r q => ?_, kx⟩) (fun v s' hq => ?_) fun e s' hq => hq)
    · obtain ⟨d, rfl, q⟩ := q
      exact kk w' v d e o r q
    · obtain ⟨w', H', J, rv, q⟩ := hq
      exact ⟨w', H', J.os, J.bare, J.base, J.hok, rv, q⟩
end
/-! ### a call of what the name holds -/
def tCallV2 (cl : Nat → Addr) (Z : Par) (C : Addr) (Sx : Nat → WFn2) (i : Nat) (E : L2.St → XK) (t : TA) : TE := fun σ H Q => ∃ f F n, n < 1000 ∧ σ[i]? = some (some (.ref f)) ∧ Z.fx F f n ∧ Ex F H ∧ t σ H fun vs H1 => Ex F H1 ∧ LF2 cl Z C (Sx n) vs H1 Q (E σ)
section
variable {cl : Nat → Addr} {Z : Par} {C : Addr} {Sx : Nat → WFn2} {X : Cx} {k i : Nat} {x : Str} {p pos : Pos} {e : Expr} {es : List Expr} {t : TA} {W : WX}
theorem pe_callV2 (hK : X.K = Z.K) (Cc : ∀ n, n < 1000 → Callee2 cl Z C X.prog X.w X.mg X.base k n (Sx n)) (tk : L2N.Takes X W) (hr : Room k X.A) (hN : X.N[i]? = some x) (hv : Vis X.env.scope x) (ha : PA X (e :: es) t) (hdb : (x == ("__debug__" : Str)) = false := by decide) (hcd : (x == ("__classdict__" : Str)) = false := by decide)
    (he : starEach (e :: es) X.env = (false, eval e X.env) :: starEach es X.env := by rfl) (hpl : (backTo pos (starEach es X.env)).any (·.1) = false := by rfl) : PE X (.Call (.Name x p) (e :: es) [] pos) (tCallV2 cl Z C Sx i (L2.WE W) t) := by
  refine ⟨fun pins s σ H Q I h => ?_⟩
  obtain ⟨f, F, n, hn, hs, hz, hF, ht⟩ := h
  refine wpAny_Call_Name_kw (thn ((pe_var (pos := p) hN hv hdb hcd).run pins s σ H (fun v H1 => v = .ref f ∧ H1 = H) I ⟨.ref f, hs, rfl, rfl⟩) fun u s1 h1 => ?_)
  obtain ⟨v, H1, I1, r1, rfl, eH⟩ := h1
  cases r1
  rw [eH] at I1
  refine PySem.W.callWith_F ((Cc n hn).fn f F H s1.heap hz hF I1.hok (hK ▸ I1.kIn)) (thn (ha.run pos pins s1 σ H _ I1 ht) fun us s2 h2 => ?_) he hpl
  obtain ⟨vs, H2, I2, r2, hF2, q⟩ := h2
  refine ⟨(Cc n hn).fn f F H2 s2.heap hz hF2 I2.hok (hK ▸ I2.kIn), ?_⟩
  have e0 := I2.env0
  rw [hK] at e0
  refine wpAny_call (codeAny_mono ((Cc n hn).run f F X.A X.stack s2 H2 us vs Q (L2.WE W σ) hz hF2 hr e0 r2 q) fun r s' hq => ?_)
  cases r with
  | error e => exact (L2N.passAt tk σ) pins H2 s2 e s' I2 hq
  | ok fl =>
    cases fl with
    | ret u => exact I2.after hq
    | next => exact False.elim hq
    | brk => exact False.elim hq
    | cont => exact False.elim hq
end
/-! ### _law_refused -/
def wc_refused (Sx : Nat → WFn2) (live : Nat → Prop) : WFc2 := fun ds S post => ∃ n a b c, n < 1000 ∧ ds = [fxD n, a, b, c] ∧ Sx n [a, b, c] S (fun S' _ => post S' (.list [])) (fun S' x => XOk live x ∧ post S' (.list (kinD x)))
theorem len2_refused (Sx : Nat → WFn2) (live : Nat → Prop) : ∀ ds S post, wc_refused Sx live ds S post → ds.length = 4 := by
  rintro ds S post ⟨n, a, b, c, _, rfl, _⟩
  rfl
def tRef2 (cl : Nat → Addr) (Z : Par) (C : Addr) (Sx : Nat → WFn2) (live : Nat → Prop) (rR : Addr) : TS :=
  tSeq (tAsg (tLst tNil) (gName 4)) (tSeq (fun D σ H => tDrop (tCallV2 cl Z C Sx 0 (L2.WE (wMatch Z.K 5 (fun _ _ _ _ => False) D [(.ref (cl 11), tsFew cl), (.ref rR, ts2 cl live)])) (tCons (tVar 1) (tCons (tVar 2) (tCons (tVar 3) tNil)))) D σ H) (tRet (tVar 4)))
section
variable {cl : Nat → Addr} {Z : Par} {C : Addr} {Sx : Nat → WFn2} {live : Nat → Prop} {rR : Addr}
theorem refused_reads2 {N : List Str} (hN : N.length = 9) (exT : ∀ i, live i → PySem.W.exmOne Z.K (.ref (cl i)) (.ref (cl 11)) = some (decide (i = 11))) (exR : ∀ i, live i → PySem.W.exmOne Z.K (.ref (cl i)) (.ref rR) = some true) (hlt : ∀ i, live i → i ≤ 11)
    {vs : List V} {H : Hp} {Q : VK} {E : XK} (h : LF2c Z C (wc_refused Sx live) vs H Q E) : tRef2 cl Z C Sx live rR { nx := fun _ H' => Q .non H', rt := Q } (L2.start N vs) H := by
  obtain ⟨w, ds, post, rfl, o, r, ⟨n, a, b, c, hn, rfl, hS⟩, k⟩ := h
  cases r with
  | cons r0 r => cases r with
  | cons r1 r => cases r with
  | cons r2 r => cases r with
  | cons r3 r =>
  cases r
  rename_i v0 v1 v2 v3
  obtain ⟨f, rfl, hf⟩ := Rep.fx_inv r0
  have hst : L2.start N [.ref f, v1, v2, v3] = [some (.ref f), some v1, some v2, some v3, none, none, none, none, none] := by
    unfold L2.start
    rw [hN]
    rfl
  rw [hst]
  refine ⟨by show 0 ≤ sizeLine; decide, fun l hl => ?_⟩
  obtain ⟨w1, e1⟩ := lay (o := .lst []) o.wf hl
  have o1 : Ok Z C ⟨w.F, w.B, upd w.H l (.lst []), w.S⟩ := Ok.oldE o.oa e1 w1
  have le1 : Le2 (dm w.H) w ⟨w.F, w.B, upd w.H l (.lst []), w.S⟩ := e1.to2 fun _ h => h
  have nB : ¬ w.B l := o.wf.bagNew hl
  have nF : w.F l = none := Evl.fresh_back o.wf.ex hl
  have nS : ¬ w.S.L l := fun z => o.oa.dm l z hl
  have dl : dm (upd w.H l (.lst [])) l := by
    unfold dm
    rw [upd_same]
    exact fun q => nomatch q
  refine ⟨f, w.F, n, hn, rfl, hf, w1.ex, _, rfl, _, rfl, _, rfl, w1.ex, ⟨w.F, w.B, upd w.H l (.lst []), w.S⟩, [a, b, c], _, _, rfl, o1, .cons r1 (.cons r2 (.cons r3 .nil)), hS, fun w' v d e o' _ p => ?_, fun w' cc d x e o' rx p => ?_⟩
  · -- it ran through
    have hl' : w'.H l = some (.lst []) := e.hp l _ dl nB nS upd_same
    have ow : OwnAt Z w'.F w'.B w'.H l [] := ⟨e.nf l dl nF, fun z => nB (e.nb l dl z), [], hl', .nil⟩
    obtain ⟨e2, w2⟩ := frz_le (P := fun x => dm w.H x ∨ w'.S.L x) o'.wf ow (fun z => z.elim (fun z => z hl) fun z => nS (e.no l dl z)) hl'
    have le2 : Le2 (dm w.H) w' _ := e2.to2 fun _ h => .inl h
    exact ⟨_, rfl, k ⟨upd w'.F l (.lst []), w'.B, w'.H, w'.S⟩ _ _ ((le1.then e).trans le2) ⟨w2, o'.oa.old e2 fun _ h => .inr h⟩ (.lst upd_same .nil) p⟩
  · -- it was refused
    obtain ⟨⟨lv, hf⟩, hp⟩ := p
    obtain ⟨rc, rf⟩ := rx
    have le := hlt _ lv
    have out : ∀ (p : Addr) (us : List V) (H2 : Hp), RF.Ext w'.H H2 → w'.H p = none → H2 p = some (.lst us) → RepAll Z w'.F w'.B us (kinD x) → Q (.ref p) H2 := fun p us H2 eH nH hH rH => by
      obtain ⟨F2, e2, w2, r2⟩ := world_ext o'.wf eH nH hH rH
      have le2 : Le2 (dm w'.H) w' ⟨F2, w'.B, H2, w'.S⟩ := e2.to2 fun _ h => h
      exact k ⟨F2, w'.B, H2, w'.S⟩ _ _ ((le1.then e).then le2) (Ok.oldE o'.oa e2 w2) r2 hp
    by_cases h11 : x.c = 11
    · obtain ⟨xc, xf⟩ := x
      simp only at h11 hf rf rc lv hp
      subst h11
      cases xf with
      | none => cases hf
      | some v =>
        obtain ⟨dd, u, rfl, hd, ru⟩ := rf
        subst rc
        refine ⟨true, by rw [exT 11 lv]; rfl, fun _ a na => tsFew_ok a dd u _ _ w'.H rfl rfl hd fun p H2 σ' eH nH hH hl4 h4 => ?_, fun z => nomatch z⟩
        show tRet (tVar 4) _ (σ'.set 5 none) H2
        refine ⟨.ref p, ?_, out p _ H2 eH nH hH (.cons (.str _) (.cons ru (.cons (.bl true) .nil)))⟩
        rw [List.getElem?_set_ne (by decide)]
        exact h4
    · obtain ⟨xc, xf⟩ := x
      simp only at h11 hf rf rc lv hp le
      cases xf with
      | some v => rw [decide_eq_false h11] at hf; cases hf
      | none =>
        subst rc
        obtain rfl : d = none := rf
        refine ⟨false, by rw [exT xc lv, decide_eq_false h11], (fun z => nomatch z), fun _ => ⟨true, exR xc lv, fun _ a na => ⟨xc, ⟨lv, by omega, rfl, rfl⟩, rfl, rfl, fun p H2 σ' eH nH hH hl4 h4 => ?_⟩, fun z => nomatch z⟩⟩
        show tRet (tVar 4) _ (σ'.set 5 none) H2
        refine ⟨.ref p, ?_, out p _ H2 eH nH hH (.cons (.str _) (.cons (.bl true) .nil))⟩
        rw [List.getElem?_set_ne (by decide)]
        exact h4
end
/-! ### the law itself, which holds lambdas -/
theorem fn_data2C {cl : Nat → Addr} {P : Program} {w : World} {Z : Par} {C : Addr} {mg : Str → Option Value} {base : Heap} {x : Str} {st : Stmt} {f c : Addr} {ps N : List Str} {k : Nat} {ws : WS2} {wf : WFc2} {oc kV doc pm ct : Value} {od an : Option Addr} {osl : Array (Option Value)}
    (lk : Z.K.lookup f = some ⟨oc, od, .func (PySem.W.fnOf x x (defArgs st) (defBody st) (defScope st) .none kV doc pm an (.ref c) ct), osl⟩) (hcd : PySem.W.codeIn Z.K (.ref c) x = true) (S : FnScope N ps (defScope st)) (len : ∀ ds S post, wf ds S post → ds.length = ps.length)
    (hb : ∀ (f : Addr) (A : Around) (outer : List Env) (s : Shared) (H : Hp) (E : XK), Room k (A.deeper (envOfC x (defScope st) s.heap.objs.size f (.ref c))) → PSs (cxOf CX0 P w Z.K mg base N x (defScope st) f (.ref c) A outer s H E).nox (defBody st) (LS2 (Md0 cl Z C) ws))
    (hd : ∀ ds S post, wf ds S post → ws { nx := fun S _ => post S .none, rt := post } S (startR N.length ds)) : FnOk P w Z.K mg base CX0 (k + 1) f (PySem.W.fnOf x x (defArgs st) (defBody st) (defScope st) .none kV doc pm an (.ref c) ct) ps (LF2c Z C wf) := by
  refine fn_of lk hcd S (fun vs H Q E h => ?_) (fun A outer s H vs Q E hr h => ⟨_, (hb f A outer s H E hr).nox, ?_⟩)
  · obtain ⟨w, ds, post, _, _, r, p, _⟩ := h
    rw [r.length]
    exact len ds _ post p
  · obtain ⟨w, ds, post, rfl, o, r, p, kk⟩ := h
    exact ⟨w, dm w.H, _, _, rfl, start_at2 o r, hd ds w.S post p, fun w' σ' ρ' e1 a1 p1 => kk w' .non .none e1 a1.ok .non p1, fun w' v d e1 o1 r1 p1 => kk w' v d e1 o1 r1 p1, fun _ _ _ _ _ z => z.elim, fun _ _ _ _ _ z => z.elim, fun _ _ _ _ _ _ _ z => z.elim⟩
/-! ### kept purses and lambdas as values -/
def ZKL (K : PySem.W.Frag) (sites : Nat → Option LamSite) (tabs : List (Addr × Str)) : Par :=
  ⟨K, fun F f n => (n = 1000 + f ∧ ∃ dx, F dx = some (.own f)) ∨ ∃ s c', sites n = some s ∧ F f = some (LamO s f c') ∧ F c' = some (CodeO c' s.q),
    fun e h => h.elim (fun h => .inl ⟨h.1, h.2.choose, e _ _ h.2.choose_spec⟩) fun ⟨s, c', h1, h2, h3⟩ => .inr ⟨s, c', h1, e _ _ h2, e _ _ h3⟩, fun b q => (b, q) ∈ tabs⟩
theorem zkl_zo {K : PySem.W.Frag} {C : Addr} {sites : Nat → Option LamSite} {tabs : List (Addr × Str)} (hs : ∀ n, 1000 ≤ n → sites n = none) : ZO (ZKL K sites tabs) C := ⟨fun F a dx h => .inl ⟨rfl, dx, h⟩, fun F a b h => by
  rcases h with h | ⟨s, c', h, _⟩
  · exact (Nat.add_left_cancel (h.1 : 1000 + a = 1000 + b)).symm
  · rw [hs (1000 + a) (Nat.le_add_right _ _)] at h
    cases h⟩
theorem kit_tup {K : PySem.W.Frag} {C : Addr} (h : PySem.W.hasDictIn K C = true) (t : PySem.W.typeIn K (.ref C) = some (.type "type")) (s : PySem.W.subIn K (.type "tuple") (.ref C) = some false) : PySem.W.kitOne K (.type "tuple") (.ref C) = some false := by
  obtain ⟨cd, hc, _⟩ := PySem.W.any_some h
  unfold PySem.W.kitOne
  rw [if_neg (by intro z; cases z)]
  unfold PySem.W.kitCls
  have e2 : ((PySem.W.clsIn K C).isSome && PySem.W.typeIn K (.ref C) == some (.type "type")) = true := by rw [hc, t] <;> rfl
  show (if _ = true then _ else none) = some false
  rw [if_pos e2]
  exact s
end DL

/-! What the program's defs do, on data: the checks. -/
namespace DL
open PySem PySem.Spec PyProof.Rows L2
theorem plain_of {d : D} (h : d.canLay0 = true) : plainD d = true := by
  cases d <;> first | rfl | (simp [PyData.canLay0] at h)
theorem lay_mem : ∀ {ds : List D} {d : D}, PyData.canLayAll0 ds = true → d ∈ ds → d.canLay0 = true
  | [], d, _, h => by cases h
  | e :: ds, d, c, h => by
    have c' : e.canLay0 = true ∧ PyData.canLayAll0 ds = true := by simpa [PyData.canLayAll0] using c
    rcases List.mem_cons.mp h with rfl | h
    · exact c'.1
    · exact lay_mem c'.2 h
theorem lay_tup {ds : List D} (h : (PyData.tuple ds).canLay0 = true) : ∀ d ∈ ds, d.canLay0 = true := fun d m => lay_mem (by simpa [PyData.canLay0] using h) m
theorem lay_all_of : ∀ {ds : List D}, (∀ d ∈ ds, d.canLay0 = true) → PyData.canLayAll0 ds = true
  | [], _ => by simp [PyData.canLayAll0]
  | e :: ds, h => by
    simp only [PyData.canLayAll0, h e List.mem_cons_self, lay_all_of fun d m => h d (List.mem_cons_of_mem _ m), Bool.and_self]
theorem lay_ints (ns : List Int) : PyData.canLayAll0 (ns.map PyData.int) = true := lay_all_of fun d m => by
  obtain ⟨i, _, rfl⟩ := List.mem_map.mp m
  simp [PyData.canLay0]
theorem w_all {ds : List D} {f : D → Bool} {post : X → Prop} (h : post (.fr (.bool (ds.all f)))) : wAll [.fr (.list (ds.map fun d => .bool (f d)))] post := by
  refine ⟨_, ds.map f, rfl, ?_, ?_⟩
  · rw [itl_lst, List.map_map]
    rfl
  · rw [List.all_map]
    exact h
theorem w_sum {ds : List D} {f : D → Int} {post : X → Prop} (h : post (.fr (.int (ds.map f).sum))) : wSum [.fr (.list (ds.map fun d => .int (f d)))] post := by
  refine ⟨_, ds.map f, rfl, ?_, h⟩
  rw [itl_lst, List.map_map]
  rfl
/-! ### is_within -/
def isW (lo hi : Int) : D → Bool
  | .int i => decide (lo ≤ i) && decide (i ≤ hi)
  | _ => false
def wf_is_within : WFn := fun ds post => ∃ d lo hi, ds = [d, .int lo, .int hi] ∧ plainD d = true ∧ post (.bool (isW lo hi d))
def ws_is_within : WS := (wsRet (wAndV (wIsi "int" (wVar 0)) (wAndV (wNotV (wIsi "bool" (wVar 0))) (wChain (fun i j => decide (i ≤ j)) (fun i j => decide (i ≤ j)) (wVar 1) (wVar 0) (wVar 2)))))
theorem len_is_within : ∀ ds post, wf_is_within ds post → ds.length = 3 := by
  rintro ds post ⟨d, lo, hi, rfl, _⟩
  rfl
theorem hd_is_within : ∀ ds post, wf_is_within ds post → ws_is_within { nx := fun _ => post .none, rt := post } (startR 3 ds) := by
  rintro ds post ⟨d, lo, hi, rfl, hp, q⟩
  cases d <;> simp [ws_is_within, wsRet, wsRetN, wsSeq, wsNext, wsSet, wsAsg, wsPar, wsIf, wsExpr, wVar, wC, wOp, wUn, wCall, wNil, wCons, wI, wI0, wAdd, wSub, wMul, wDiv, wMod, wNeg, wLt, wLe, wGt, wGe, wIsN, isN_fr, isN_ow, isN_none, isN_int, isN_tup, isN_lst, wTest, wAnd, wOr, wNot, wAndV, wOrV, wNotV, wIf, wChain, wTup, wLst, wFrz, wLen, wMax, wMin, wIx, wIsi, plainD, isTy, wFcall, mapfr_nil, mapfr_cons, dat_fr, dat_ow, X.fr_inj, its_tup, its_lst, its_ow, itl_lst, itl_ow, atI_0, atI_1, atI_2, startR, wName, wNames, setAll, wipeR, and_assoc, wBag, wBag0, wBag1, wsBump, wsApp, wsSetN, wsFrz, wsParN, wsSetI, wsPar3, wRevT] at hp ⊢ <;> simp [isW] at q
  all_goals first | exact q | (split <;> simp_all)
/-! ### cards -/
def areCards : D → Bool
  | .tuple ds => decide (1 ≤ ds.length) && decide (ds.length ≤ 3) && ds.all (isW 2 20)
  | _ => false
def wf_are_cards : WFn := fun ds post => ∃ d, ds = [d] ∧ d.canLay0 = true ∧ post (.bool (areCards d))
def ws_are_cards : WS := (wsSeq (wsIf (wOr (wNot (wTest (wIsi "tuple" (wVar 0)))) (wNot (wTest (wChain (fun i j => decide (i ≤ j)) (fun i j => decide (i ≤ j)) (wC (.int 1)) (wCall wLen (wCons (wVar 0) wNil)) (wC (.int 3)))))) (wsRet (wC (.bool false))) wsNext)
  (wsRet (wCall wAll (wCons (wFrz (wLc (wiTup (wVar 0)) (wName 1) wYes (wFcall wf_is_within (wCons (wVar 1) (wCons (wC (.int 2)) (wCons (wC (.int 20)) wNil)))) [1])) wNil))))
theorem len_are_cards : ∀ ds post, wf_are_cards ds post → ds.length = 1 := by
  rintro ds post ⟨d, rfl, _⟩
  rfl
theorem hd_are_cards : ∀ ds post, wf_are_cards ds post → ws_are_cards { nx := fun _ => post .none, rt := post } (startR 2 ds) := by
  rintro ds post ⟨d, rfl, hp, q⟩
  have hq := plain_of hp
  cases d <;> simp [ws_are_cards, wsRet, wsRetN, wsSeq, wsNext, wsSet, wsAsg, wsPar, wsIf, wsExpr, wVar, wC, wOp, wUn, wCall, wNil, wCons, wI, wI0, wAdd, wSub, wMul, wDiv, wMod, wNeg, wLt, wLe, wGt, wGe, wIsN, isN_fr, isN_ow, isN_none, isN_int, isN_tup, isN_lst, wTest, wAnd, wOr, wNot, wAndV, wOrV, wNotV, wIf, wChain, wTup, wLst, wFrz, wLen, wMax, wMin, wIx, wIsi, plainD, isTy, wFcall, mapfr_nil, mapfr_cons, dat_fr, dat_ow, X.fr_inj, its_tup, its_lst, its_ow, itl_lst, itl_ow, atI_0, atI_1, atI_2, startR, wName, wNames, setAll, wipeR, and_assoc, wBag, wBag0, wBag1, wsBump, wsApp, wsSetN, wsFrz, wsParN, wsSetI, wsPar3, wRevT] at hq ⊢ <;> simp [areCards] at q
  case tuple xs =>
    split
    · split
      · refine w_lcM xs (fun d => .bool (isW 2 20 d)) (fun q h => by simp [wiTup, wsRet, wsRetN, wsSeq, wsNext, wsSet, wsAsg, wsPar, wsIf, wsExpr, wVar, wC, wOp, wUn, wCall, wNil, wCons, wI, wI0, wAdd, wSub, wMul, wDiv, wMod, wNeg, wLt, wLe, wGt, wGe, wIsN, isN_fr, isN_ow, isN_none, isN_int, isN_tup, isN_lst, wTest, wAnd, wOr, wNot, wAndV, wOrV, wNotV, wIf, wChain, wTup, wLst, wFrz, wLen, wMax, wMin, wIx, wIsi, plainD, isTy, wFcall, mapfr_nil, mapfr_cons, dat_fr, dat_ow, X.fr_inj, its_tup, its_lst, its_ow, itl_lst, itl_ow, atI_0, atI_1, atI_2, startR, wName, wNames, setAll, wipeR, and_assoc, wBag, wBag0, wBag1, wsBump, wsApp, wsSetN, wsFrz, wsParN, wsSetI, wsPar3, wRevT]; exact h) (by omega) (fun d q m h => ?_) (w_all ?_)
        · simp [wsRet, wsRetN, wsSeq, wsNext, wsSet, wsAsg, wsPar, wsIf, wsExpr, wVar, wC, wOp, wUn, wCall, wNil, wCons, wI, wI0, wAdd, wSub, wMul, wDiv, wMod, wNeg, wLt, wLe, wGt, wGe, wIsN, isN_fr, isN_ow, isN_none, isN_int, isN_tup, isN_lst, wTest, wAnd, wOr, wNot, wAndV, wOrV, wNotV, wIf, wChain, wTup, wLst, wFrz, wLen, wMax, wMin, wIx, wIsi, plainD, isTy, wFcall, mapfr_nil, mapfr_cons, dat_fr, dat_ow, X.fr_inj, its_tup, its_lst, its_ow, itl_lst, itl_ow, atI_0, atI_1, atI_2, startR, wName, wNames, setAll, wipeR, and_assoc, wBag, wBag0, wBag1, wsBump, wsApp, wsSetN, wsFrz, wsParN, wsSetI, wsPar3, wRevT]
          exact ⟨_, _, _, rfl, plain_of (lay_tup hp d m), h⟩
        · rw [dat_fr]
          have e1 : decide (1 ≤ xs.length) = true := by simp; omega
          have e2 : decide (xs.length ≤ 3) = true := by simp; omega
          rw [e1, e2] at q
          exact q
      · have e2 : decide (xs.length ≤ 3) = false := decide_eq_false (by omega)
        rw [e2, Bool.and_false, Bool.false_and] at q
        exact q
    · have e2 : decide (1 ≤ xs.length) = false := decide_eq_false (by omega)
      rw [e2] at q
      exact q
  all_goals exact q
def CardsOk (cs : List Int) : Prop := 1 ≤ cs.length ∧ cs.length ≤ 3 ∧ ∀ c ∈ cs, 2 ≤ c ∧ c ≤ 20
def StampsOk (cs ss : List Int) : Prop := ss.length = cs.length ∧ ∀ s ∈ ss, 0 ≤ s ∧ s ≤ 10 ^ 18
def NumOk (r : Int) : Prop := 0 ≤ r ∧ r ≤ 10 ^ 18
theorem isW_ints {lo hi : Int} {ns : List Int} (h : ∀ n ∈ ns, lo ≤ n ∧ n ≤ hi) : (ns.map PyData.int).all (isW lo hi) = true := by
  rw [List.all_eq_true]
  intro d m
  obtain ⟨i, hi', rfl⟩ := List.mem_map.mp m
  have := h i hi'
  simp [isW, this.1, this.2]
theorem areCards_ok {cs : List Int} (h : CardsOk cs) : areCards (tI cs) = true := by
  simp [areCards, h.1, h.2.1]
  intro c hc
  have := h.2.2 c hc
  simp [isW, this.1, this.2]
def wf_need_cards : WFn := fun ds post => ∃ cs, ds = [tI cs] ∧ CardsOk cs ∧ post .none
def ws_need_cards : WS := (wsIf (wNot (wTest (wFcall wf_are_cards (wCons (wVar 0) wNil)))) wsNever wsNext)
theorem len_need_cards : ∀ ds post, wf_need_cards ds post → ds.length = 1 := by
  rintro ds post ⟨d, rfl, _⟩
  rfl
theorem hd_need_cards : ∀ ds post, wf_need_cards ds post → ws_need_cards { nx := fun _ => post .none, rt := post } (startR 1 ds) := by
  rintro ds post ⟨cs, rfl, h, q⟩
  simp [ws_need_cards, wsRet, wsRetN, wsSeq, wsNext, wsSet, wsAsg, wsPar, wsIf, wsExpr, wVar, wC, wOp, wUn, wCall, wNil, wCons, wI, wI0, wAdd, wSub, wMul, wDiv, wMod, wNeg, wLt, wLe, wGt, wGe, wIsN, isN_fr, isN_ow, isN_none, isN_int, isN_tup, isN_lst, wTest, wAnd, wOr, wNot, wAndV, wOrV, wNotV, wIf, wChain, wTup, wLst, wFrz, wLen, wMax, wMin, wIx, wIsi, plainD, isTy, wFcall, mapfr_nil, mapfr_cons, dat_fr, dat_ow, X.fr_inj, its_tup, its_lst, its_ow, itl_lst, itl_ow, atI_0, atI_1, atI_2, startR, wName, wNames, setAll, wipeR, and_assoc, wBag, wBag0, wBag1, wsBump, wsApp, wsSetN, wsFrz, wsParN, wsSetI, wsPar3, wRevT, wf_are_cards, areCards_ok h]
  exact ⟨by simp [PyData.canLay0, lay_ints], q⟩
/-! ### stamps, purses, numbers -/
def areStamps (n : Nat) : D → Bool
  | .tuple ds => decide (ds.length = n) && ds.all (isW 0 (10 ^ 18))
  | _ => false
def wf_are_stamps : WFn := fun ds post => ∃ cs d, ds = [tI cs, d] ∧ CardsOk cs ∧ d.canLay0 = true ∧ post (.bool (areStamps cs.length d))
def ws_are_stamps : WS := (wsSeq (wsIf (wOr (wNot (wTest (wIsi "tuple" (wVar 1)))) (wTest (wOp (wEq true) (wCall wLen (wCons (wVar 1) wNil)) (wCall wLen (wCons (wVar 0) wNil))))) (wsRet (wC (.bool false))) wsNext)
  (wsRet (wCall wAll (wCons (wFrz (wLc (wiTup (wVar 1)) (wName 2) wYes (wFcall wf_is_within (wCons (wVar 2) (wCons (wC (.int 0)) (wCons (wC (.int 1000000000000000000)) wNil)))) [2])) wNil))))
theorem len_are_stamps : ∀ ds post, wf_are_stamps ds post → ds.length = 2 := by
  rintro ds post ⟨cs, d, rfl, _⟩
  rfl
theorem shaped_int (i : Int) : SeqAt.shaped (.int i) = true := by
  simp [SeqAt.shaped, PyData.canLay0, PyData.depth]
theorem eqv_int (i j : Int) : PyData.eqv (.int i) (.int j) = decide (i = j) := by
  rw [PyData.eqv]
  exact Bool.beq_eq_decide_eq i j
theorem hd_are_stamps : ∀ ds post, wf_are_stamps ds post → ws_are_stamps { nx := fun _ => post .none, rt := post } (startR 3 ds) := by
  rintro ds post ⟨cs, d, rfl, hc, hp, q⟩
  have hq := plain_of hp
  cases d <;> simp [ws_are_stamps, wsRet, wsRetN, wsSeq, wsNext, wsSet, wsAsg, wsPar, wsIf, wsExpr, wVar, wC, wOp, wUn, wCall, wNil, wCons, wI, wI0, wAdd, wSub, wMul, wDiv, wMod, wNeg, wLt, wLe, wGt, wGe, wIsN, isN_fr, isN_ow, isN_none, isN_int, isN_tup, isN_lst, wTest, wAnd, wOr, wNot, wAndV, wOrV, wNotV, wIf, wChain, wTup, wLst, wFrz, wLen, wMax, wMin, wIx, wIsi, plainD, isTy, wFcall, mapfr_nil, mapfr_cons, dat_fr, dat_ow, X.fr_inj, its_tup, its_lst, its_ow, itl_lst, itl_ow, atI_0, atI_1, atI_2, startR, wName, wNames, setAll, wipeR, and_assoc, wBag, wBag0, wBag1, wsBump, wsApp, wsSetN, wsFrz, wsParN, wsSetI, wsPar3, wRevT, wEq, shaped_int, eqv_int] at hq ⊢ <;> simp only [areStamps] at q
  case tuple xs =>
    by_cases hn : xs.length = cs.length
    · rw [decide_eq_true hn] at q
      refine .inl ⟨by omega, ?_⟩
      refine w_lcM xs (fun d => .bool (isW 0 (10 ^ 18) d)) (fun q h => by simp [wiTup, wsRet, wsRetN, wsSeq, wsNext, wsSet, wsAsg, wsPar, wsIf, wsExpr, wVar, wC, wOp, wUn, wCall, wNil, wCons, wI, wI0, wAdd, wSub, wMul, wDiv, wMod, wNeg, wLt, wLe, wGt, wGe, wIsN, isN_fr, isN_ow, isN_none, isN_int, isN_tup, isN_lst, wTest, wAnd, wOr, wNot, wAndV, wOrV, wNotV, wIf, wChain, wTup, wLst, wFrz, wLen, wMax, wMin, wIx, wIsi, plainD, isTy, wFcall, mapfr_nil, mapfr_cons, dat_fr, dat_ow, X.fr_inj, its_tup, its_lst, its_ow, itl_lst, itl_ow, atI_0, atI_1, atI_2, startR, wName, wNames, setAll, wipeR, and_assoc, wBag, wBag0, wBag1, wsBump, wsApp, wsSetN, wsFrz, wsParN, wsSetI, wsPar3, wRevT]; exact h) (by have := hc.2.1; omega) (fun d q m h => ?_) (w_all ?_)
      · simp [wsRet, wsRetN, wsSeq, wsNext, wsSet, wsAsg, wsPar, wsIf, wsExpr, wVar, wC, wOp, wUn, wCall, wNil, wCons, wI, wI0, wAdd, wSub, wMul, wDiv, wMod, wNeg, wLt, wLe, wGt, wGe, wIsN, isN_fr, isN_ow, isN_none, isN_int, isN_tup, isN_lst, wTest, wAnd, wOr, wNot, wAndV, wOrV, wNotV, wIf, wChain, wTup, wLst, wFrz, wLen, wMax, wMin, wIx, wIsi, plainD, isTy, wFcall, mapfr_nil, mapfr_cons, dat_fr, dat_ow, X.fr_inj, its_tup, its_lst, its_ow, itl_lst, itl_ow, atI_0, atI_1, atI_2, startR, wName, wNames, setAll, wipeR, and_assoc, wBag, wBag0, wBag1, wsBump, wsApp, wsSetN, wsFrz, wsParN, wsSetI, wsPar3, wRevT]
        exact ⟨_, _, _, rfl, plain_of (lay_tup hp d m), h⟩
      · rw [dat_fr]
        exact q
    · rw [decide_eq_false hn] at q
      exact .inr ⟨by omega, q⟩
  all_goals exact q
theorem areStamps_ok {cs ss : List Int} (h : StampsOk cs ss) : areStamps cs.length (tI ss) = true := by
  show (decide ((ss.map PyData.int).length = cs.length) && (ss.map PyData.int).all (isW 0 (10 ^ 18))) = true
  rw [isW_ints h.2, List.length_map, decide_eq_true h.1]
  rfl
def wf_need_stamps : WFn := fun ds post => ∃ cs ss, ds = [tI cs, tI ss] ∧ CardsOk cs ∧ StampsOk cs ss ∧ post .none
def ws_need_stamps : WS := (wsSeq (wsExpr (wFcall wf_need_cards (wCons (wVar 0) wNil)))
  (wsIf (wNot (wTest (wFcall wf_are_stamps (wCons (wVar 0) (wCons (wVar 1) wNil))))) wsNever wsNext))
theorem len_need_stamps : ∀ ds post, wf_need_stamps ds post → ds.length = 2 := by
  rintro ds post ⟨cs, d, rfl, _⟩
  rfl
theorem lay_tI (ns : List Int) : (tI ns).canLay0 = true := by simp [PyData.canLay0, lay_ints]
theorem hd_need_stamps : ∀ ds post, wf_need_stamps ds post → ws_need_stamps { nx := fun _ => post .none, rt := post } (startR 2 ds) := by
  rintro ds post ⟨cs, ss, rfl, hc, hs, q⟩
  simp [ws_need_stamps, wsRet, wsRetN, wsSeq, wsNext, wsSet, wsAsg, wsPar, wsIf, wsExpr, wVar, wC, wOp, wUn, wCall, wNil, wCons, wI, wI0, wAdd, wSub, wMul, wDiv, wMod, wNeg, wLt, wLe, wGt, wGe, wIsN, isN_fr, isN_ow, isN_none, isN_int, isN_tup, isN_lst, wTest, wAnd, wOr, wNot, wAndV, wOrV, wNotV, wIf, wChain, wTup, wLst, wFrz, wLen, wMax, wMin, wIx, wIsi, plainD, isTy, wFcall, mapfr_nil, mapfr_cons, dat_fr, dat_ow, X.fr_inj, its_tup, its_lst, its_ow, itl_lst, itl_ow, atI_0, atI_1, atI_2, startR, wName, wNames, setAll, wipeR, and_assoc, wBag, wBag0, wBag1, wsBump, wsApp, wsSetN, wsFrz, wsParN, wsSetI, wsPar3, wRevT]
  refine ⟨cs, rfl, hc, ?_⟩
  refine ⟨cs, tI ss, rfl, hc, lay_tI ss, ?_⟩
  rw [areStamps_ok hs]
  simp
  exact q
def isPurse (n : Nat) : D → Bool
  | .tuple [r, s] => isW 0 (10 ^ 18) r && areStamps n s
  | _ => false
def wf_is_all_purse : WFn := fun ds post => ∃ cs d, ds = [tI cs, d] ∧ CardsOk cs ∧ d.canLay0 = true ∧ post (.bool (isPurse cs.length d))
def ws_is_all_purse : WS := (wsSeq (wsIf (wOr (wNot (wTest (wIsi "tuple" (wVar 1)))) (wOr (wTest (wOp (wEq true) (wCall wLen (wCons (wVar 1) wNil)) (wC (.int 2)))) (wNot (wTest (wFcall wf_is_within (wCons (wOp wIx (wVar 1) (wC (.int 0))) (wCons (wC (.int 0)) (wCons (wC (.int 1000000000000000000)) wNil)))))))) (wsRet (wC (.bool false))) wsNext)
  (wsRet (wFcall wf_are_stamps (wCons (wVar 0) (wCons (wOp wIx (wVar 1) (wC (.int 1))) wNil)))))
theorem len_is_all_purse : ∀ ds post, wf_is_all_purse ds post → ds.length = 2 := by
  rintro ds post ⟨cs, d, rfl, _⟩
  rfl
theorem hd_is_all_purse : ∀ ds post, wf_is_all_purse ds post → ws_is_all_purse { nx := fun _ => post .none, rt := post } (startR 2 ds) := by
  rintro ds post ⟨cs, d, rfl, hc, hp, q⟩
  have hq := plain_of hp
  cases d <;> simp [ws_is_all_purse, wsRet, wsRetN, wsSeq, wsNext, wsSet, wsAsg, wsPar, wsIf, wsExpr, wVar, wC, wOp, wUn, wCall, wNil, wCons, wI, wI0, wAdd, wSub, wMul, wDiv, wMod, wNeg, wLt, wLe, wGt, wGe, wIsN, isN_fr, isN_ow, isN_none, isN_int, isN_tup, isN_lst, wTest, wAnd, wOr, wNot, wAndV, wOrV, wNotV, wIf, wChain, wTup, wLst, wFrz, wLen, wMax, wMin, wIx, wIsi, plainD, isTy, wFcall, mapfr_nil, mapfr_cons, dat_fr, dat_ow, X.fr_inj, its_tup, its_lst, its_ow, itl_lst, itl_ow, atI_0, atI_1, atI_2, startR, wName, wNames, setAll, wipeR, and_assoc, wBag, wBag0, wBag1, wsBump, wsApp, wsSetN, wsFrz, wsParN, wsSetI, wsPar3, wRevT, wEq, shaped_int, eqv_int] at hq ⊢ <;> (try simp only [isPurse] at q)
  case tuple xs =>
    match xs, hp, q with
    | [], _, q => simpa [isPurse] using q
    | [_], _, q => simpa [isPurse] using q
    | [r, s], hp, q =>
      have hl := lay_tup hp
      simp [wsRet, wsRetN, wsSeq, wsNext, wsSet, wsAsg, wsPar, wsIf, wsExpr, wVar, wC, wOp, wUn, wCall, wNil, wCons, wI, wI0, wAdd, wSub, wMul, wDiv, wMod, wNeg, wLt, wLe, wGt, wGe, wIsN, isN_fr, isN_ow, isN_none, isN_int, isN_tup, isN_lst, wTest, wAnd, wOr, wNot, wAndV, wOrV, wNotV, wIf, wChain, wTup, wLst, wFrz, wLen, wMax, wMin, wIx, wIsi, plainD, isTy, wFcall, mapfr_nil, mapfr_cons, dat_fr, dat_ow, X.fr_inj, its_tup, its_lst, its_ow, itl_lst, itl_ow, atI_0, atI_1, atI_2, startR, wName, wNames, setAll, wipeR, and_assoc, wBag, wBag0, wBag1, wsBump, wsApp, wsSetN, wsFrz, wsParN, wsSetI, wsPar3, wRevT]
      refine ⟨_, _, _, rfl, plain_of (hl r (by simp)), ?_⟩
      simp only [isPurse] at q
      cases e : isW 0 (10 ^ 18) r with
      | true =>
        rw [e] at q
        exact .inr ⟨congrArg _ e, cs, s, rfl, hc, hl s (by simp), q⟩
      | false =>
        rw [e] at q
        exact .inl ⟨congrArg _ e, q⟩
    | a :: b :: c :: l, _, q =>
      refine .inr ⟨by simp; omega, ?_⟩
      exact q
  all_goals exact q
abbrev pD (r : Int) (ss : List Int) : D := .tuple [.int r, tI ss]
def PurseOk (cs : List Int) (r : Int) (ss : List Int) : Prop := NumOk r ∧ StampsOk cs ss
theorem isPurse_ok {cs : List Int} {r : Int} {ss : List Int} (h : PurseOk cs r ss) : isPurse cs.length (pD r ss) = true := by
  show (isW 0 (10 ^ 18) (.int r) && areStamps cs.length (tI ss)) = true
  rw [areStamps_ok h.2]
  simp [isW]
  exact h.1
theorem lay_pD (r : Int) (ss : List Int) : (pD r ss).canLay0 = true := by simp [pD, PyData.canLay0, PyData.canLayAll0, lay_ints]
def wf_need_purse : WFn := fun ds post => ∃ cs r ss, ds = [tI cs, pD r ss] ∧ CardsOk cs ∧ PurseOk cs r ss ∧ post .none
def ws_need_purse : WS := (wsSeq (wsExpr (wFcall wf_need_cards (wCons (wVar 0) wNil)))
  (wsIf (wNot (wTest (wFcall wf_is_all_purse (wCons (wVar 0) (wCons (wVar 1) wNil))))) wsNever wsNext))
theorem len_need_purse : ∀ ds post, wf_need_purse ds post → ds.length = 2 := by
  rintro ds post ⟨cs, r, ss, rfl, _⟩
  rfl
theorem hd_need_purse : ∀ ds post, wf_need_purse ds post → ws_need_purse { nx := fun _ => post .none, rt := post } (startR 2 ds) := by
  rintro ds post ⟨cs, r, ss, rfl, hc, hs, q⟩
  simp [ws_need_purse, wsRet, wsRetN, wsSeq, wsNext, wsSet, wsAsg, wsPar, wsIf, wsExpr, wVar, wC, wOp, wUn, wCall, wNil, wCons, wI, wI0, wAdd, wSub, wMul, wDiv, wMod, wNeg, wLt, wLe, wGt, wGe, wIsN, isN_fr, isN_ow, isN_none, isN_int, isN_tup, isN_lst, wTest, wAnd, wOr, wNot, wAndV, wOrV, wNotV, wIf, wChain, wTup, wLst, wFrz, wLen, wMax, wMin, wIx, wIsi, plainD, isTy, wFcall, mapfr_nil, mapfr_cons, dat_fr, dat_ow, X.fr_inj, its_tup, its_lst, its_ow, itl_lst, itl_ow, atI_0, atI_1, atI_2, startR, wName, wNames, setAll, wipeR, and_assoc, wBag, wBag0, wBag1, wsBump, wsApp, wsSetN, wsFrz, wsParN, wsSetI, wsPar3, wRevT]
  refine ⟨cs, rfl, hc, cs, _, rfl, hc, lay_pD r ss, ?_⟩
  rw [isPurse_ok hs]
  simp
  exact q
def wf_need_number : WFn := fun ds post => ∃ n, ds = [.int n] ∧ NumOk n ∧ post .none
def ws_need_number : WS := (wsIf (wNot (wTest (wFcall wf_is_within (wCons (wVar 0) (wCons (wC (.int 0)) (wCons (wC (.int 1000000000000000000)) wNil)))))) wsNever wsNext)
theorem len_need_number : ∀ ds post, wf_need_number ds post → ds.length = 1 := by
  rintro ds post ⟨n, rfl, _⟩
  rfl
theorem hd_need_number : ∀ ds post, wf_need_number ds post → ws_need_number { nx := fun _ => post .none, rt := post } (startR 1 ds) := by
  rintro ds post ⟨n, rfl, h, q⟩
  simp [ws_need_number, wsRet, wsRetN, wsSeq, wsNext, wsSet, wsAsg, wsPar, wsIf, wsExpr, wVar, wC, wOp, wUn, wCall, wNil, wCons, wI, wI0, wAdd, wSub, wMul, wDiv, wMod, wNeg, wLt, wLe, wGt, wGe, wIsN, isN_fr, isN_ow, isN_none, isN_int, isN_tup, isN_lst, wTest, wAnd, wOr, wNot, wAndV, wOrV, wNotV, wIf, wChain, wTup, wLst, wFrz, wLen, wMax, wMin, wIx, wIsi, plainD, isTy, wFcall, mapfr_nil, mapfr_cons, dat_fr, dat_ow, X.fr_inj, its_tup, its_lst, its_ow, itl_lst, itl_ow, atI_0, atI_1, atI_2, startR, wName, wNames, setAll, wipeR, and_assoc, wBag, wBag0, wBag1, wsBump, wsApp, wsSetN, wsFrz, wsParN, wsSetI, wsPar3, wRevT]
  refine ⟨_, _, _, rfl, rfl, ?_⟩
  have e : isW 0 (10 ^ 18) (.int n) = true := by
    simp [isW]
    exact h
  rw [show (1000000000000000000 : Int) = 10 ^ 18 by decide, e]
  simp
  exact q
end DL

/-! The mathematics of rides and stamps. -/
namespace FR
/-- as many rides as one had, and as all stamps of so many bring -/
def paidF (cs ss : List Int) (r n : Int) : Int := r + ((ss.zip cs).map fun q => (q.1 + n) / q.2).sum
/-- the stamps that are left -/
def leftF (cs ss : List Int) (t : Int) : List Int := (ss.zip cs).map fun q => (q.1 + t) % q.2
theorem paid_nil (ss : List Int) (r n : Int) : paidF [] ss r n = r := by
  unfold paidF
  rw [List.zip_nil_right]
  simp
theorem paid_cons (c s : Int) (cs ss : List Int) (r n : Int) : paidF (c :: cs) (s :: ss) r n = (s + n) / c + paidF cs ss r n := by
  unfold paidF
  rw [List.zip_cons_cons, List.map_cons, List.sum_cons]
  show r + ((s + n) / c + _) = (s + n) / c + (r + _)
  omega
theorem paid_r (cs ss : List Int) (r n : Int) : paidF cs ss r n = r + paidF cs ss 0 n := by
  unfold paidF
  omega
theorem paid_mono {cs : List Int} (hc : ∀ c ∈ cs, 0 < c) : ∀ {ss : List Int} {r n m : Int}, n ≤ m → paidF cs ss r n ≤ paidF cs ss r m := by
  induction cs with
  | nil => intro ss r n m _; rw [paid_nil, paid_nil]; exact Int.le_refl _
  | cons c cs ih =>
    intro ss r n m h
    cases ss with
    | nil => simp [paidF]
    | cons s ss =>
      rw [paid_cons, paid_cons]
      have h1 : (s + n) / c ≤ (s + m) / c := Int.ediv_le_ediv (hc c List.mem_cons_self) (by omega)
      have h2 := ih (fun d hd => hc d (List.mem_cons_of_mem _ hd)) (ss := ss) (r := r) h
      omega
theorem paid_nonneg {cs : List Int} (hc : ∀ c ∈ cs, 0 < c) : ∀ {ss : List Int} {r n : Int}, (∀ s ∈ ss, 0 ≤ s) → 0 ≤ n → r ≤ paidF cs ss r n := by
  induction cs with
  | nil => intro ss r n _ _; rw [paid_nil]; exact Int.le_refl _
  | cons c cs ih =>
    intro ss r n hs hn
    cases ss with
    | nil => simp [paidF]
    | cons s ss =>
      rw [paid_cons]
      have h1 : 0 ≤ (s + n) / c := Int.ediv_nonneg (by have := hs s List.mem_cons_self; omega) (Int.le_of_lt (hc c List.mem_cons_self))
      have h2 := ih (fun d hd => hc d (List.mem_cons_of_mem _ hd)) (ss := ss) (r := r) (fun d hd => hs d (List.mem_cons_of_mem _ hd)) hn
      omega
/-- what L more rides bring, L a multiple of all cards -/
def gain (cs : List Int) (L : Int) : Int := (cs.map fun c => L / c).sum
theorem paid_per {cs : List Int} {L : Int} (hc : ∀ c ∈ cs, 0 < c) (hd : ∀ c ∈ cs, c ∣ L) : ∀ {ss : List Int} {r n : Int}, ss.length = cs.length → paidF cs ss r (n + L) = paidF cs ss r n + gain cs L := by
  induction cs with
  | nil => intro ss r n _; rw [paid_nil, paid_nil]; simp [gain]
  | cons c cs ih =>
    intro ss r n hl
    cases ss with
    | nil => cases hl
    | cons s ss =>
      rw [paid_cons, paid_cons]
      have ih := ih (fun d h => hc d (List.mem_cons_of_mem _ h)) (fun d h => hd d (List.mem_cons_of_mem _ h)) (ss := ss) (r := r) (n := n) (by simpa using hl)
      rw [ih]
      obtain ⟨k, hk⟩ := hd c List.mem_cons_self
      have c0 := hc c List.mem_cons_self
      have e1 : (s + (n + L)) / c = (s + n) / c + k := by
        rw [show s + (n + L) = (s + n) + k * c by rw [hk, Int.mul_comm c k]; omega, Int.add_mul_ediv_right _ _ (by omega)]
      have e2 : L / c = k := by
        rw [hk, Int.mul_ediv_cancel_left _ (by omega)]
      have e3 : gain (c :: cs) L = k + gain cs L := by
        unfold gain
        rw [List.map_cons, List.sum_cons, e2]
      omega
theorem paid_pers {cs : List Int} {L : Int} (hc : ∀ c ∈ cs, 0 < c) (hd : ∀ c ∈ cs, c ∣ L) {ss : List Int} {r : Int} (hl : ss.length = cs.length) (n : Int) : ∀ k : Nat, paidF cs ss r (n + k * L) = paidF cs ss r n + k * gain cs L
  | 0 => by simp
  | k + 1 => by
    have ih := paid_pers hc hd (r := r) hl n k
    have e := paid_per hc hd (r := r) (n := n + k * L) hl
    rw [show n + ((k + 1 : Nat) : Int) * L = n + k * L + L by rw [Int.natCast_add, Int.add_mul]; omega, e, ih]
    rw [Int.natCast_add, Int.add_mul]
    omega
/-- how many rides one has in all: the least number that pays for itself; none where no number does -/
def IsAll (cs ss : List Int) (r : Int) : Option Int → Prop
  | some t => 0 ≤ t ∧ paidF cs ss r t = t ∧ ∀ n, 0 ≤ n → paidF cs ss r n ≤ n → t ≤ n
  | none => ∀ n, 0 ≤ n → n < paidF cs ss r n
theorem IsAll.uniq {cs ss : List Int} {r : Int} : ∀ {o p : Option Int}, IsAll cs ss r o → IsAll cs ss r p → o = p
  | some t, some u, ⟨h0, h1, h2⟩, ⟨g0, g1, g2⟩ => by
    have a := h2 u g0 (by omega)
    have b := g2 t h0 (by omega)
    rw [show t = u by omega]
  | some t, none, ⟨h0, h1, h2⟩, g => by
    have := g t h0
    omega
  | none, some t, g, ⟨h0, h1, h2⟩ => by
    have := g t h0
    omega
  | none, none, _, _ => rfl
/-! ### the period -/
def per (cs : List Int) : Nat := cs.foldl (fun f c => Nat.lcm f c.toNat) 1
theorem lcm_fold_dvd : ∀ (cs : List Int) (f : Nat), f ∣ cs.foldl (fun f c => Nat.lcm f c.toNat) f
  | [], f => Nat.dvd_refl f
  | c :: cs, f => Nat.dvd_trans (Nat.dvd_lcm_left f c.toNat) (lcm_fold_dvd cs (Nat.lcm f c.toNat))
theorem lcm_fold_mem : ∀ (cs : List Int) (f : Nat) (c : Int), c ∈ cs → c.toNat ∣ cs.foldl (fun f c => Nat.lcm f c.toNat) f
  | [], f, c, h => by cases h
  | d :: cs, f, c, h => by
    rcases List.mem_cons.mp h with rfl | h
    · exact Nat.dvd_trans (Nat.dvd_lcm_right f c.toNat) (lcm_fold_dvd cs (Nat.lcm f c.toNat))
    · exact lcm_fold_mem cs _ c h
theorem lcm_fold_pos : ∀ (cs : List Int) (f : Nat), 0 < f → (∀ c ∈ cs, 0 < c) → 0 < cs.foldl (fun f c => Nat.lcm f c.toNat) f
  | [], f, h, _ => h
  | c :: cs, f, h, hc => lcm_fold_pos cs _ (Nat.lcm_pos h (by have := hc c List.mem_cons_self; omega)) fun d hd => hc d (List.mem_cons_of_mem _ hd)
theorem lcm_le_mul {m n : Nat} (h : 0 < m) (h2 : 0 < n) : Nat.lcm m n ≤ m * n := by
  unfold Nat.lcm
  exact Nat.div_le_self _ _
theorem lcm_fold_le : ∀ (cs : List Int) (f : Nat), 0 < f → (∀ c ∈ cs, 0 < c ∧ c ≤ 20) → cs.foldl (fun f c => Nat.lcm f c.toNat) f ≤ f * 20 ^ cs.length
  | [], f, _, _ => by simp
  | c :: cs, f, h, hc => by
    have c0 := hc c List.mem_cons_self
    have ih := lcm_fold_le cs (Nat.lcm f c.toNat) (Nat.lcm_pos h (by omega)) fun d hd => hc d (List.mem_cons_of_mem _ hd)
    have h1 : Nat.lcm f c.toNat ≤ f * 20 := Nat.le_trans (lcm_le_mul h (by omega)) (Nat.mul_le_mul_left f (by omega))
    refine Nat.le_trans ih ?_
    rw [List.length_cons, Nat.pow_succ, Nat.mul_comm (20 ^ cs.length) 20, ← Nat.mul_assoc]
    exact Nat.mul_le_mul_right _ h1
theorem per_dvd {cs : List Int} (hc : ∀ c ∈ cs, 0 < c) : ∀ c ∈ cs, c ∣ (per cs : Int) := fun c h => by
  have h1 := lcm_fold_mem cs 1 c h
  obtain ⟨k, hk⟩ := h1
  refine ⟨k, ?_⟩
  unfold per
  rw [hk, Int.natCast_mul, Int.toNat_of_nonneg (Int.le_of_lt (hc c h))]
theorem per_pos {cs : List Int} (hc : ∀ c ∈ cs, 0 < c) : 0 < per cs := lcm_fold_pos cs 1 (by decide) hc
theorem per_le {cs : List Int} (hl : cs.length ≤ 3) (hc : ∀ c ∈ cs, 0 < c ∧ c ≤ 20) : per cs ≤ 8000 := by
  have := lcm_fold_le cs 1 (by decide) hc
  refine Nat.le_trans this ?_
  rw [Nat.one_mul]
  exact Nat.le_trans (Nat.pow_le_pow_right (by decide) hl) (by decide)
/-- whether fewer cards than rides come of any rides, in the long run -/
def wears (cs : List Int) : Prop := gain cs (per cs) < per cs
instance (cs : List Int) : Decidable (wears cs) := inferInstanceAs (Decidable (gain cs (per cs) < per cs))
/-- where it wears off some number pays for itself -/
theorem ends_of_wears {cs ss : List Int} {r : Int} (hc : ∀ c ∈ cs, 0 < c) (hl : ss.length = cs.length) (hr : 0 ≤ paidF cs ss r 0) (h : wears cs) : ∃ n, 0 ≤ n ∧ paidF cs ss r n ≤ n := by
  have hp := paid_pers hc (per_dvd hc) (r := r) hl 0 (paidF cs ss r 0).toNat
  have hL := per_pos hc
  refine ⟨((paidF cs ss r 0).toNat : Int) * per cs, Int.mul_nonneg (by omega) (by omega), ?_⟩
  rw [Int.zero_add] at hp
  rw [hp]
  have hg : gain cs (per cs) ≤ per cs - 1 := by
    have : gain cs (per cs) < per cs := h
    omega
  have hm : ((paidF cs ss r 0).toNat : Int) * gain cs (per cs) ≤ ((paidF cs ss r 0).toNat : Int) * (per cs - 1) := Int.mul_le_mul_of_nonneg_left hg (by omega)
  rw [Int.mul_sub] at hm
  omega
/-- where it doesn't, the first period tells -/
theorem first_per {cs ss : List Int} {r : Int} (hc : ∀ c ∈ cs, 0 < c) (hl : ss.length = cs.length) (h : ¬ wears cs) (hf : ∀ n, 0 ≤ n → n < (per cs : Int) → n < paidF cs ss r n) (n : Int) (hn : 0 ≤ n) : n < paidF cs ss r n := by
  have hL := per_pos hc
  have hp := paid_pers hc (per_dvd hc) (r := r) hl (n % per cs) (n / per cs).toNat
  have hq : 0 ≤ n / per cs := Int.ediv_nonneg hn (by omega)
  have e : n % per cs + ((n / per cs).toNat : Int) * per cs = n := by
    rw [Int.toNat_of_nonneg hq, Int.mul_comm]
    exact Int.emod_add_mul_ediv n (per cs)
  rw [e] at hp
  have h0 := hf (n % per cs) (Int.emod_nonneg _ (by omega)) (Int.emod_lt_of_pos _ (by omega))
  have hg : (per cs : Int) ≤ gain cs (per cs) := by
    have : ¬ gain cs (per cs) < per cs := h
    omega
  have hm : ((n / per cs).toNat : Int) * per cs ≤ ((n / per cs).toNat : Int) * gain cs (per cs) := Int.mul_le_mul_of_nonneg_left hg (by omega)
  omega
/-! ### the least rides to begin with -/
/-- the greatest of n + 1 less what n bring, n from lo on -/
def wantF (cs ss : List Int) (lo : Int) : Nat → Int
  | 0 => 0
  | k + 1 => max (wantF cs ss lo k) (lo + (k : Int) + 1 - paidF cs ss 0 (lo + (k : Int)))
theorem want_le {cs ss : List Int} {lo r : Int} : ∀ {k : Nat}, wantF cs ss lo k ≤ r ↔ 0 ≤ r ∧ ∀ n, lo ≤ n → n < lo + k → n < paidF cs ss r n
  | 0 => by
    constructor
    · intro h
      exact ⟨h, fun n h1 h2 => by omega⟩
    · intro h
      exact h.1
  | k + 1 => by
    have ih := want_le (cs := cs) (ss := ss) (lo := lo) (r := r) (k := k)
    show max (wantF cs ss lo k) (lo + (k : Int) + 1 - paidF cs ss 0 (lo + (k : Int))) ≤ r ↔ _
    rw [Int.max_le, ih]
    constructor
    · rintro ⟨⟨h0, h1⟩, h2⟩
      refine ⟨h0, fun n g1 g2 => ?_⟩
      by_cases e : n = lo + k
      · subst e
        rw [paid_r]
        omega
      · exact h1 n g1 (by omega)
    · rintro ⟨h0, h1⟩
      refine ⟨⟨h0, fun n g1 g2 => h1 n g1 (by omega)⟩, ?_⟩
      have := h1 (lo + k) (by omega) (by omega)
      rw [paid_r] at this
      omega
theorem want_nonneg (cs ss : List Int) (lo : Int) (k : Nat) : 0 ≤ wantF cs ss lo k := (want_le.mp (Int.le_refl _)).1
end FR

/-! What the program's defs do, on data: rides. -/
namespace DL
open PySem PySem.Spec PyProof.Rows L2 FR
def wf_paid : WFn := fun ds post => ∃ cs r ss n, ds = [tI cs, pD r ss, .int n] ∧ CardsOk cs ∧ post (.int (paidF cs ss r n))
def ws_paid : WS := (wsRet (wOp wAdd (wOp wIx (wVar 1) (wC (.int 0))) (wCall wSum (wCons (wFrz (wLc (wiZipT (wCons (wOp wIx (wVar 1) (wC (.int 1))) (wCons (wVar 0) wNil))) (wNames [3, 4]) wYes (wOp wDiv (wOp wAdd (wVar 3) (wVar 2)) (wVar 4)) [3, 4])) wNil))))
theorem len_paid : ∀ ds post, wf_paid ds post → ds.length = 3 := by
  rintro ds post ⟨cs, r, ss, n, rfl, _⟩
  rfl
theorem hd_paid : ∀ ds post, wf_paid ds post → ws_paid { nx := fun _ => post .none, rt := post } (startR 5 ds) := by
  rintro ds post ⟨cs, r, ss, n, rfl, hc, q⟩
  simp [ws_paid, wsRet, wsRetN, wsSeq, wsNext, wsSet, wsAsg, wsPar, wsIf, wsExpr, wVar, wC, wOp, wUn, wCall, wNil, wCons, wI, wI0, wAdd, wSub, wMul, wDiv, wMod, wNeg, wLt, wLe, wGt, wGe, wIsN, isN_fr, isN_ow, isN_none, isN_int, isN_tup, isN_lst, wTest, wAnd, wOr, wNot, wAndV, wOrV, wNotV, wIf, wChain, wTup, wLst, wFrz, wLen, wMax, wMin, wIx, wIsi, plainD, isTy, wFcall, mapfr_nil, mapfr_cons, dat_fr, dat_ow, X.fr_inj, its_tup, its_lst, its_ow, itl_lst, itl_ow, atI_0, atI_1, atI_2, startR, wName, wNames, setAll, wipeR, and_assoc, wBag, wBag0, wBag1, wsBump, wsApp, wsSetN, wsFrz, wsParN, wsSetI, wsPar3, wRevT, pD]
  refine w_lcA (ss.zip cs) (fun q => .tuple [.int q.1, .int q.2]) (fun q => .int ((q.1 + n) / q.2)) (fun q h => ?_) ?_ (fun a q m h => ?_) (w_sumA ?_)
  · simp [wiZipT, wsRet, wsRetN, wsSeq, wsNext, wsSet, wsAsg, wsPar, wsIf, wsExpr, wVar, wC, wOp, wUn, wCall, wNil, wCons, wI, wI0, wAdd, wSub, wMul, wDiv, wMod, wNeg, wLt, wLe, wGt, wGe, wIsN, isN_fr, isN_ow, isN_none, isN_int, isN_tup, isN_lst, wTest, wAnd, wOr, wNot, wAndV, wOrV, wNotV, wIf, wChain, wTup, wLst, wFrz, wLen, wMax, wMin, wIx, wIsi, plainD, isTy, wFcall, mapfr_nil, mapfr_cons, dat_fr, dat_ow, X.fr_inj, its_tup, its_lst, its_ow, itl_lst, itl_ow, atI_0, atI_1, atI_2, startR, wName, wNames, setAll, wipeR, and_assoc, wBag, wBag0, wBag1, wsBump, wsApp, wsSetN, wsFrz, wsParN, wsSetI, wsPar3, wRevT]
    rw [show (List.map PyData.int ss).zip (List.map PyData.int cs) = (ss.zip cs).map (fun q => (.int q.1, .int q.2)) by rw [List.zip_map]; rfl, List.map_map]
    exact h
  · rw [List.length_zip]
    have := hc.2.1
    omega
  · have hm := hc.2.2 a.2 (List.of_mem_zip m).2
    simp [wsRet, wsRetN, wsSeq, wsNext, wsSet, wsAsg, wsPar, wsIf, wsExpr, wVar, wC, wOp, wUn, wCall, wNil, wCons, wI, wI0, wAdd, wSub, wMul, wDiv, wMod, wNeg, wLt, wLe, wGt, wGe, wIsN, isN_fr, isN_ow, isN_none, isN_int, isN_tup, isN_lst, wTest, wAnd, wOr, wNot, wAndV, wOrV, wNotV, wIf, wChain, wTup, wLst, wFrz, wLen, wMax, wMin, wIx, wIsi, plainD, isTy, wFcall, mapfr_nil, mapfr_cons, dat_fr, dat_ow, X.fr_inj, its_tup, its_lst, its_ow, itl_lst, itl_ow, atI_0, atI_1, atI_2, startR, wName, wNames, setAll, wipeR, and_assoc, wBag, wBag0, wBag1, wsBump, wsApp, wsSetN, wsFrz, wsParN, wsSetI, wsPar3, wRevT, CDiv]
    exact ⟨by omega, by omega, h⟩
  · exact ⟨_, rfl, q⟩
def wf_common : WFn := fun ds post => ∃ a b : Nat, ds = [.int a, .int b] ∧ post (.int (Nat.gcd a b : Nat))
def ws_common : WS := (wsSeq (wsWhile (wTest (wOp (wEq true) (wVar 1) (wC (.int 0)))) (wsPar 0 1 (wCons (wVar 1) (wCons (wOp wMod (wVar 0) (wVar 1)) wNil))))
  (wsRet (wVar 0)))
theorem len_common : ∀ ds post, wf_common ds post → ds.length = 2 := by
  rintro ds post ⟨a, b, rfl, _⟩
  rfl
theorem hd_common : ∀ ds post, wf_common ds post → ws_common { nx := fun _ => post .none, rt := post } (startR 2 ds) := by
  rintro ds post ⟨a, b, rfl, q⟩
  simp [ws_common, wsRet, wsRetN, wsSeq, wsNext, wsSet, wsAsg, wsPar, wsIf, wsExpr, wVar, wC, wOp, wUn, wCall, wNil, wCons, wI, wI0, wAdd, wSub, wMul, wDiv, wMod, wNeg, wLt, wLe, wGt, wGe, wIsN, isN_fr, isN_ow, isN_none, isN_int, isN_tup, isN_lst, wTest, wAnd, wOr, wNot, wAndV, wOrV, wNotV, wIf, wChain, wTup, wLst, wFrz, wLen, wMax, wMin, wIx, wIsi, plainD, isTy, wFcall, mapfr_nil, mapfr_cons, dat_fr, dat_ow, X.fr_inj, its_tup, its_lst, its_ow, itl_lst, itl_ow, atI_0, atI_1, atI_2, startR, wName, wNames, setAll, wipeR, and_assoc, wBag, wBag0, wBag1, wsBump, wsApp, wsSetN, wsFrz, wsParN, wsSetI, wsPar3, wRevT]
  refine w_while (fun m ρ => ∃ x y : Nat, ρ = [some (.fr (.int x)), some (.fr (.int y))] ∧ Nat.gcd x y = Nat.gcd a b ∧ m = y) b ⟨a, b, rfl, rfl, rfl⟩ ?_
  rintro m ρ ⟨x, y, rfl, hg, hm⟩
  simp [wsRet, wsRetN, wsSeq, wsNext, wsSet, wsAsg, wsPar, wsIf, wsExpr, wVar, wC, wOp, wUn, wCall, wNil, wCons, wI, wI0, wAdd, wSub, wMul, wDiv, wMod, wNeg, wLt, wLe, wGt, wGe, wIsN, isN_fr, isN_ow, isN_none, isN_int, isN_tup, isN_lst, wTest, wAnd, wOr, wNot, wAndV, wOrV, wNotV, wIf, wChain, wTup, wLst, wFrz, wLen, wMax, wMin, wIx, wIsi, plainD, isTy, wFcall, mapfr_nil, mapfr_cons, dat_fr, dat_ow, X.fr_inj, its_tup, its_lst, its_ow, itl_lst, itl_ow, atI_0, atI_1, atI_2, startR, wName, wNames, setAll, wipeR, and_assoc, wBag, wBag0, wBag1, wsBump, wsApp, wsSetN, wsFrz, wsParN, wsSetI, wsPar3, wRevT, wEq, shaped_int, eqv_int]
  by_cases hy : y = 0
  · left
    rw [hy, Nat.gcd_zero_right] at hg
    rw [hg]
    exact ⟨hy, q⟩
  · right
    refine ⟨hy, by omega, x % y, by have := Nat.mod_lt x (show 0 < y by omega); omega, y, rfl, rfl, ?_⟩
    rw [← hg, Nat.gcd_comm y, ← Nat.gcd_rec, Nat.gcd_comm]
def wf_period : WFn := fun ds post => ∃ cs, ds = [tI cs] ∧ CardsOk cs ∧ post (.int (per cs : Nat))
def ws_period : WS := (wsSeq (wsSet 1 (wC (.int 1)))
  (wsSeq (wsFor (wiTup (wVar 0)) (wName 2) (wsSet 1 (wOp wDiv (wOp wMul (wVar 1) (wVar 2)) (wFcall wf_common (wCons (wVar 1) (wCons (wVar 2) wNil))))))
  (wsRet (wVar 1))))
theorem len_period : ∀ ds post, wf_period ds post → ds.length = 1 := by
  rintro ds post ⟨cs, rfl, _⟩
  rfl
theorem CardsOk.pos {cs : List Int} (h : CardsOk cs) : ∀ c ∈ cs, 0 < c := fun c m => by have := h.2.2 c m; omega
theorem CardsOk.le {cs : List Int} (h : CardsOk cs) : ∀ c ∈ cs, 0 < c ∧ c ≤ 20 := fun c m => by have := h.2.2 c m; omega
theorem per_part {cs : List Int} (h : CardsOk cs) (i : Nat) : 0 < (cs.take i).foldl (fun f c => Nat.lcm f c.toNat) 1 ∧ (cs.take i).foldl (fun f c => Nat.lcm f c.toNat) 1 ≤ 8000 := by
  have hm : ∀ c ∈ cs.take i, c ∈ cs := fun c m => List.mem_of_mem_take m
  exact ⟨per_pos (cs := cs.take i) fun c m => h.pos c (hm c m), per_le (cs := cs.take i) (by rw [List.length_take]; have := h.2.1; omega) fun c m => h.le c (hm c m)⟩
theorem hd_period : ∀ ds post, wf_period ds post → ws_period { nx := fun _ => post .none, rt := post } (startR 3 ds) := by
  rintro ds post ⟨cs, rfl, hc, q⟩
  simp [ws_period, wsRet, wsRetN, wsSeq, wsNext, wsSet, wsAsg, wsPar, wsIf, wsExpr, wVar, wC, wOp, wUn, wCall, wNil, wCons, wI, wI0, wAdd, wSub, wMul, wDiv, wMod, wNeg, wLt, wLe, wGt, wGe, wIsN, isN_fr, isN_ow, isN_none, isN_int, isN_tup, isN_lst, wTest, wAnd, wOr, wNot, wAndV, wOrV, wNotV, wIf, wChain, wTup, wLst, wFrz, wLen, wMax, wMin, wIx, wIsi, plainD, isTy, wFcall, mapfr_nil, mapfr_cons, dat_fr, dat_ow, X.fr_inj, its_tup, its_lst, its_ow, itl_lst, itl_ow, atI_0, atI_1, atI_2, startR, wName, wNames, setAll, wipeR, and_assoc, wBag, wBag0, wBag1, wsBump, wsApp, wsSetN, wsFrz, wsParN, wsSetI, wsPar3, wRevT]
  refine w_for cs PyData.int (fun q h => by simp [wiTup, wsRet, wsRetN, wsSeq, wsNext, wsSet, wsAsg, wsPar, wsIf, wsExpr, wVar, wC, wOp, wUn, wCall, wNil, wCons, wI, wI0, wAdd, wSub, wMul, wDiv, wMod, wNeg, wLt, wLe, wGt, wGe, wIsN, isN_fr, isN_ow, isN_none, isN_int, isN_tup, isN_lst, wTest, wAnd, wOr, wNot, wAndV, wOrV, wNotV, wIf, wChain, wTup, wLst, wFrz, wLen, wMax, wMin, wIx, wIsi, plainD, isTy, wFcall, mapfr_nil, mapfr_cons, dat_fr, dat_ow, X.fr_inj, its_tup, its_lst, its_ow, itl_lst, itl_ow, atI_0, atI_1, atI_2, startR, wName, wNames, setAll, wipeR, and_assoc, wBag, wBag0, wBag1, wsBump, wsApp, wsSetN, wsFrz, wsParN, wsSetI, wsPar3, wRevT]; exact h) (fun i ρ => ∃ z, ρ = [some (.fr (tI cs)), some (.fr (.int (((cs.take i).foldl (fun f c => Nat.lcm f c.toNat) 1 : Nat) : Int))), z]) ⟨none, rfl⟩ ?_ ?_
  · rintro i c ρ hi ⟨z, rfl⟩
    have hp := per_part hc i
    have hm := hc.2.2 c (List.mem_of_getElem? hi)
    generalize hf : (cs.take i).foldl (fun f c => Nat.lcm f c.toNat) 1 = f at hp
    have hn : (cs.take (i + 1)).foldl (fun f c => Nat.lcm f c.toNat) 1 = Nat.lcm f c.toNat := by
      rw [List.take_add_one, hi]
      show (cs.take i ++ [c]).foldl _ 1 = _
      rw [List.foldl_append, hf]
      rfl
    have hg : 0 < Nat.gcd f c.toNat := Nat.gcd_pos_of_pos_left _ hp.1
    have hg2 : Nat.gcd f c.toNat ≤ f := Nat.gcd_le_left _ hp.1
    simp [wsRet, wsRetN, wsSeq, wsNext, wsSet, wsAsg, wsPar, wsIf, wsExpr, wVar, wC, wOp, wUn, wCall, wNil, wCons, wI, wI0, wAdd, wSub, wMul, wDiv, wMod, wNeg, wLt, wLe, wGt, wGe, wIsN, isN_fr, isN_ow, isN_none, isN_int, isN_tup, isN_lst, wTest, wAnd, wOr, wNot, wAndV, wOrV, wNotV, wIf, wChain, wTup, wLst, wFrz, wLen, wMax, wMin, wIx, wIsi, plainD, isTy, wFcall, mapfr_nil, mapfr_cons, dat_fr, dat_ow, X.fr_inj, its_tup, its_lst, its_ow, itl_lst, itl_ow, atI_0, atI_1, atI_2, startR, wName, wNames, setAll, wipeR, and_assoc, wBag, wBag0, wBag1, wsBump, wsApp, wsSetN, wsFrz, wsParN, wsSetI, wsPar3, wRevT, CMul, CDiv, hn]
    refine ⟨.inr ⟨by omega, by omega⟩, f, c.toNat, ?_, ?_⟩
    · rw [Int.toNat_of_nonneg (by omega)]
    · refine ⟨_, rfl, by omega, by omega, ?_⟩
      unfold Nat.lcm
      rw [Int.natCast_ediv, Int.natCast_mul, Int.toNat_of_nonneg (by omega)]
  · rintro ρ ⟨z, rfl⟩
    rw [show (List.take cs.length cs) = cs from List.take_length]
    exact ⟨_, rfl, q⟩
/-! ### whether it wears off -/
def wf_wears_off : WFn := fun ds post => ∃ cs, ds = [tI cs] ∧ CardsOk cs ∧ post (.bool (decide (wears cs)))
def ws_wears_off : WS := (wsSeq (wsSet 1 (wFcall wf_period (wCons (wVar 0) wNil)))
  (wsRet (wOp wLt (wCall wSum (wCons (wFrz (wLc (wiTup (wVar 0)) (wName 2) wYes (wOp wDiv (wVar 1) (wVar 2)) [2])) wNil)) (wVar 1))))
theorem len_wears_off : ∀ ds post, wf_wears_off ds post → ds.length = 1 := by
  rintro ds post ⟨cs, rfl, _⟩
  rfl
theorem hd_wears_off : ∀ ds post, wf_wears_off ds post → ws_wears_off { nx := fun _ => post .none, rt := post } (startR 3 ds) := by
  rintro ds post ⟨cs, rfl, hc, q⟩
  simp [ws_wears_off, wsRet, wsRetN, wsSeq, wsNext, wsSet, wsAsg, wsPar, wsIf, wsExpr, wVar, wC, wOp, wUn, wCall, wNil, wCons, wI, wI0, wAdd, wSub, wMul, wDiv, wMod, wNeg, wLt, wLe, wGt, wGe, wIsN, isN_fr, isN_ow, isN_none, isN_int, isN_tup, isN_lst, wTest, wAnd, wOr, wNot, wAndV, wOrV, wNotV, wIf, wChain, wTup, wLst, wFrz, wLen, wMax, wMin, wIx, wIsi, plainD, isTy, wFcall, mapfr_nil, mapfr_cons, dat_fr, dat_ow, X.fr_inj, its_tup, its_lst, its_ow, itl_lst, itl_ow, atI_0, atI_1, atI_2, startR, wName, wNames, setAll, wipeR, and_assoc, wBag, wBag0, wBag1, wsBump, wsApp, wsSetN, wsFrz, wsParN, wsSetI, wsPar3, wRevT]
  refine ⟨cs, rfl, hc, ?_⟩
  refine w_lcA cs PyData.int (fun c => .int ((per cs : Int) / c)) (fun q h => by simp [wiTup, wsRet, wsRetN, wsSeq, wsNext, wsSet, wsAsg, wsPar, wsIf, wsExpr, wVar, wC, wOp, wUn, wCall, wNil, wCons, wI, wI0, wAdd, wSub, wMul, wDiv, wMod, wNeg, wLt, wLe, wGt, wGe, wIsN, isN_fr, isN_ow, isN_none, isN_int, isN_tup, isN_lst, wTest, wAnd, wOr, wNot, wAndV, wOrV, wNotV, wIf, wChain, wTup, wLst, wFrz, wLen, wMax, wMin, wIx, wIsi, plainD, isTy, wFcall, mapfr_nil, mapfr_cons, dat_fr, dat_ow, X.fr_inj, its_tup, its_lst, its_ow, itl_lst, itl_ow, atI_0, atI_1, atI_2, startR, wName, wNames, setAll, wipeR, and_assoc, wBag, wBag0, wBag1, wsBump, wsApp, wsSetN, wsFrz, wsParN, wsSetI, wsPar3, wRevT]; exact h) (by have := hc.2.1; omega) (fun c q m h => ?_) (w_sumA ?_)
  · have := hc.2.2 c m
    simp [wsRet, wsRetN, wsSeq, wsNext, wsSet, wsAsg, wsPar, wsIf, wsExpr, wVar, wC, wOp, wUn, wCall, wNil, wCons, wI, wI0, wAdd, wSub, wMul, wDiv, wMod, wNeg, wLt, wLe, wGt, wGe, wIsN, isN_fr, isN_ow, isN_none, isN_int, isN_tup, isN_lst, wTest, wAnd, wOr, wNot, wAndV, wOrV, wNotV, wIf, wChain, wTup, wLst, wFrz, wLen, wMax, wMin, wIx, wIsi, plainD, isTy, wFcall, mapfr_nil, mapfr_cons, dat_fr, dat_ow, X.fr_inj, its_tup, its_lst, its_ow, itl_lst, itl_ow, atI_0, atI_1, atI_2, startR, wName, wNames, setAll, wipeR, and_assoc, wBag, wBag0, wBag1, wsBump, wsApp, wsSetN, wsFrz, wsParN, wsSetI, wsPar3, wRevT, CDiv]
    exact ⟨by omega, by omega, h⟩
  · exact ⟨_, rfl, _, rfl, q⟩
/-! ### the rides wanted -/
def wf_wanted : WFn := fun ds post => ∃ cs ss lo hi, ds = [tI cs, tI ss, .int lo, .int hi] ∧ CardsOk cs ∧ (0 ≤ lo ∧ lo < 2 ^ 62 ∧ -(2 ^ 62) ≤ hi ∧ hi < 2 ^ 62) ∧ post (.int (wantF cs ss lo (hi - lo).toNat))
def ws_wanted : WS := (wsSeq (wsSet 4 (wC (.int 0)))
  (wsSeq (wsFor (wiR2 (wCons (wVar 2) (wCons (wVar 3) wNil))) (wName 5) (wsSet 4 (wCall wMax (wCons (wVar 4) (wCons (wOp wSub (wOp wAdd (wVar 5) (wC (.int 1))) (wFcall wf_paid (wCons (wVar 0) (wCons (wTup (wCons (wC (.int 0)) (wCons (wVar 1) wNil))) (wCons (wVar 5) wNil))))) wNil)))))
  (wsRet (wVar 4))))
theorem len_wanted : ∀ ds post, wf_wanted ds post → ds.length = 4 := by
  rintro ds post ⟨cs, ss, lo, hi, rfl, _⟩
  rfl
theorem hd_wanted : ∀ ds post, wf_wanted ds post → ws_wanted { nx := fun _ => post .none, rt := post } (startR 6 ds) := by
  rintro ds post ⟨cs, ss, lo, hi, rfl, hc, hb, q⟩
  simp [ws_wanted, wsRet, wsRetN, wsSeq, wsNext, wsSet, wsAsg, wsPar, wsIf, wsExpr, wVar, wC, wOp, wUn, wCall, wNil, wCons, wI, wI0, wAdd, wSub, wMul, wDiv, wMod, wNeg, wLt, wLe, wGt, wGe, wIsN, isN_fr, isN_ow, isN_none, isN_int, isN_tup, isN_lst, wTest, wAnd, wOr, wNot, wAndV, wOrV, wNotV, wIf, wChain, wTup, wLst, wFrz, wLen, wMax, wMin, wIx, wIsi, plainD, isTy, wFcall, mapfr_nil, mapfr_cons, dat_fr, dat_ow, X.fr_inj, its_tup, its_lst, its_ow, itl_lst, itl_ow, atI_0, atI_1, atI_2, startR, wName, wNames, setAll, wipeR, and_assoc, wBag, wBag0, wBag1, wsBump, wsApp, wsSetN, wsFrz, wsParN, wsSetI, wsPar3, wRevT]
  refine w_forR lo (hi - lo).toNat (fun q h => by simp [wiR2, wsRet, wsRetN, wsSeq, wsNext, wsSet, wsAsg, wsPar, wsIf, wsExpr, wVar, wC, wOp, wUn, wCall, wNil, wCons, wI, wI0, wAdd, wSub, wMul, wDiv, wMod, wNeg, wLt, wLe, wGt, wGe, wIsN, isN_fr, isN_ow, isN_none, isN_int, isN_tup, isN_lst, wTest, wAnd, wOr, wNot, wAndV, wOrV, wNotV, wIf, wChain, wTup, wLst, wFrz, wLen, wMax, wMin, wIx, wIsi, plainD, isTy, wFcall, mapfr_nil, mapfr_cons, dat_fr, dat_ow, X.fr_inj, its_tup, its_lst, its_ow, itl_lst, itl_ow, atI_0, atI_1, atI_2, startR, wName, wNames, setAll, wipeR, and_assoc, wBag, wBag0, wBag1, wsBump, wsApp, wsSetN, wsFrz, wsParN, wsSetI, wsPar3, wRevT]; exact ⟨by omega, by omega, by omega, by omega, h⟩) (fun i ρ => ∃ z, ρ = [some (.fr (tI cs)), some (.fr (tI ss)), some (.fr (.int lo)), some (.fr (.int hi)), some (.fr (.int (wantF cs ss lo i))), z]) ⟨none, rfl⟩ ?_ ?_
  · rintro i ρ hi ⟨z, rfl⟩
    simp [wsRet, wsRetN, wsSeq, wsNext, wsSet, wsAsg, wsPar, wsIf, wsExpr, wVar, wC, wOp, wUn, wCall, wNil, wCons, wI, wI0, wAdd, wSub, wMul, wDiv, wMod, wNeg, wLt, wLe, wGt, wGe, wIsN, isN_fr, isN_ow, isN_none, isN_int, isN_tup, isN_lst, wTest, wAnd, wOr, wNot, wAndV, wOrV, wNotV, wIf, wChain, wTup, wLst, wFrz, wLen, wMax, wMin, wIx, wIsi, plainD, isTy, wFcall, mapfr_nil, mapfr_cons, dat_fr, dat_ow, X.fr_inj, its_tup, its_lst, its_ow, itl_lst, itl_ow, atI_0, atI_1, atI_2, startR, wName, wNames, setAll, wipeR, and_assoc, wBag, wBag0, wBag1, wsBump, wsApp, wsSetN, wsFrz, wsParN, wsSetI, wsPar3, wRevT]
    refine ⟨cs, 0, ss, _, rfl, hc, _, rfl, ?_⟩
    show _ = max (wantF cs ss lo i) (lo + (i : Int) + 1 - paidF cs ss 0 (lo + (i : Int)))
    rw [Int.max_def]
    split <;> split <;> omega
  · rintro ρ ⟨z, rfl⟩
    exact ⟨_, rfl, q⟩
def endF (cs ss : List Int) : D := if wears cs then .none else .int (wantF cs ss 0 (per cs))
def wf_endless_from : WFn := fun ds post => ∃ cs ss, ds = [tI cs, tI ss] ∧ CardsOk cs ∧ post (endF cs ss)
def ws_endless_from : WS := (wsRet (wIf (wTest (wFcall wf_wears_off (wCons (wVar 0) wNil))) (wC .none) (wFcall wf_wanted (wCons (wVar 0) (wCons (wVar 1) (wCons (wC (.int 0)) (wCons (wFcall wf_period (wCons (wVar 0) wNil)) wNil)))))))
theorem len_endless_from : ∀ ds post, wf_endless_from ds post → ds.length = 2 := by
  rintro ds post ⟨cs, ss, rfl, _⟩
  rfl
theorem hd_endless_from : ∀ ds post, wf_endless_from ds post → ws_endless_from { nx := fun _ => post .none, rt := post } (startR 2 ds) := by
  rintro ds post ⟨cs, ss, rfl, hc, q⟩
  simp [ws_endless_from, wsRet, wsRetN, wsSeq, wsNext, wsSet, wsAsg, wsPar, wsIf, wsExpr, wVar, wC, wOp, wUn, wCall, wNil, wCons, wI, wI0, wAdd, wSub, wMul, wDiv, wMod, wNeg, wLt, wLe, wGt, wGe, wIsN, isN_fr, isN_ow, isN_none, isN_int, isN_tup, isN_lst, wTest, wAnd, wOr, wNot, wAndV, wOrV, wNotV, wIf, wChain, wTup, wLst, wFrz, wLen, wMax, wMin, wIx, wIsi, plainD, isTy, wFcall, mapfr_nil, mapfr_cons, dat_fr, dat_ow, X.fr_inj, its_tup, its_lst, its_ow, itl_lst, itl_ow, atI_0, atI_1, atI_2, startR, wName, wNames, setAll, wipeR, and_assoc, wBag, wBag0, wBag1, wsBump, wsApp, wsSetN, wsFrz, wsParN, wsSetI, wsPar3, wRevT]
  refine ⟨cs, rfl, hc, ?_⟩
  unfold endF at q
  by_cases h : wears cs
  · rw [if_pos h] at q
    simp [h]
    exact q
  · rw [if_neg h] at q
    simp [h]
    refine ⟨cs, rfl, hc, cs, ss, 0, _, rfl, hc, ?_, ?_⟩
    · have := per_le hc.2.1 hc.le
      omega
    · simpa using q
/-! ### rides in all -/
def oD : Option Int → D
  | some t => .int t
  | none => .none
theorem StampsOk.nonneg {cs ss : List Int} (h : StampsOk cs ss) : ∀ s ∈ ss, 0 ≤ s := fun s m => (h.2 s m).1
/-- rides and stamps as many as one likes -/
def wf_in_all : WFn := fun ds post => ∃ cs r ss, ds = [tI cs, pD r ss] ∧ CardsOk cs ∧ 0 ≤ r ∧ ss.length = cs.length ∧ (∀ s ∈ ss, 0 ≤ s) ∧ ∀ o, IsAll cs ss r o → post (oD o)
def ws_in_all : WS := (wsSeq (wsSet 2 (wFcall wf_endless_from (wCons (wVar 0) (wCons (wOp wIx (wVar 1) (wC (.int 1))) wNil))))
  (wsSeq (wsIf (wAnd (wTest (wOp (wIsN true) (wVar 2) (wC .none))) (wTest (wOp wGe (wOp wIx (wVar 1) (wC (.int 0))) (wVar 2)))) (wsRet (wC .none)) wsNext)
  (wsSeq (wsPar 3 4 (wCons (wC (.int 0)) (wCons (wFcall wf_paid (wCons (wVar 0) (wCons (wVar 1) (wCons (wC (.int 0)) wNil)))) wNil)))
  (wsSeq (wsWhile (wTest (wOp wGt (wVar 4) (wVar 3))) (wsPar 3 4 (wCons (wVar 4) (wCons (wFcall wf_paid (wCons (wVar 0) (wCons (wVar 1) (wCons (wVar 4) wNil)))) wNil))))
  (wsRet (wVar 3))))))
theorem len_in_all : ∀ ds post, wf_in_all ds post → ds.length = 2 := by
  rintro ds post ⟨cs, r, ss, rfl, _⟩
  rfl
theorem hd_in_all : ∀ ds post, wf_in_all ds post → ws_in_all { nx := fun _ => post .none, rt := post } (startR 5 ds) := by
  rintro ds post ⟨cs, r, ss, rfl, hc, hr, hl, hs, q⟩
  simp [ws_in_all, wsRet, wsRetN, wsSeq, wsNext, wsSet, wsAsg, wsPar, wsIf, wsExpr, wVar, wC, wOp, wUn, wCall, wNil, wCons, wI, wI0, wAdd, wSub, wMul, wDiv, wMod, wNeg, wLt, wLe, wGt, wGe, wIsN, isN_fr, isN_ow, isN_none, isN_int, isN_tup, isN_lst, wTest, wAnd, wOr, wNot, wAndV, wOrV, wNotV, wIf, wChain, wTup, wLst, wFrz, wLen, wMax, wMin, wIx, wIsi, plainD, isTy, wFcall, mapfr_nil, mapfr_cons, dat_fr, dat_ow, X.fr_inj, its_tup, its_lst, its_ow, itl_lst, itl_ow, atI_0, atI_1, atI_2, startR, wName, wNames, setAll, wipeR, and_assoc, wBag, wBag0, wBag1, wsBump, wsApp, wsSetN, wsFrz, wsParN, wsSetI, wsPar3, wRevT, pD]
  refine ⟨cs, ss, rfl, hc, ?_⟩
  dsimp only
  -- the loop, where some number pays for itself
  have loop : ∀ (z : D) (n0 : Int), 0 ≤ n0 → paidF cs ss r n0 ≤ n0 → wf_paid [tI cs, PyData.tuple [PyData.int r, tI ss], PyData.int 0] fun d_1 =>
            wsWhile (wTest (wOp (wI0 fun i j => PyData.bool (decide (j < i))) (wVar 4) (wVar 3)))
              (wsPar 3 4
                (wCons (wVar 4) (wCons (wFcall wf_paid (wCons (wVar 0) (wCons (wVar 1) (wCons (wVar 4) wNil)))) wNil)))
              { nx := wsRet (wVar 3) { nx := fun x => post PyData.none, rt := post }, rt := post }
              [some (X.fr (tI cs)), some (X.fr (PyData.tuple [PyData.int r, tI ss])), some (X.fr z),
                some (X.fr (PyData.int 0)), some (X.fr d_1)] := fun z n0 h0 h1 => by
    refine ⟨cs, r, ss, 0, rfl, hc, ?_⟩
    have mono : ∀ {a b : Int}, a ≤ b → paidF cs ss r a ≤ paidF cs ss r b := fun h => paid_mono hc.pos h
    refine w_while (fun m ρ => ∃ x : Int, ρ = [some (.fr (tI cs)), some (.fr (.tuple [.int r, tI ss])), some (.fr z), some (.fr (.int x)), some (.fr (.int (paidF cs ss r x)))] ∧ 0 ≤ x ∧ x ≤ paidF cs ss r x ∧ (∀ n, 0 ≤ n → paidF cs ss r n ≤ n → x ≤ n) ∧ m = (n0 - x).toNat) (n0 - 0).toNat ⟨0, rfl, by omega, ?_, fun n h _ => h, rfl⟩ ?_
    · have := paid_nonneg hc.pos (r := r) hs (Int.le_refl 0)
      omega
    · rintro m ρ ⟨x, rfl, hx, hp, hl, hm⟩
      simp [wsRet, wsRetN, wsSeq, wsNext, wsSet, wsAsg, wsPar, wsIf, wsExpr, wVar, wC, wOp, wUn, wCall, wNil, wCons, wI, wI0, wAdd, wSub, wMul, wDiv, wMod, wNeg, wLt, wLe, wGt, wGe, wIsN, isN_fr, isN_ow, isN_none, isN_int, isN_tup, isN_lst, wTest, wAnd, wOr, wNot, wAndV, wOrV, wNotV, wIf, wChain, wTup, wLst, wFrz, wLen, wMax, wMin, wIx, wIsi, plainD, isTy, wFcall, mapfr_nil, mapfr_cons, dat_fr, dat_ow, X.fr_inj, its_tup, its_lst, its_ow, itl_lst, itl_ow, atI_0, atI_1, atI_2, startR, wName, wNames, setAll, wipeR, and_assoc, wBag, wBag0, wBag1, wsBump, wsApp, wsSetN, wsFrz, wsParN, wsSetI, wsPar3, wRevT]
      by_cases hlt : x < paidF cs ss r x
      · rw [if_pos hlt]
        refine ⟨cs, r, ss, _, rfl, hc, ?_⟩
        have hle : paidF cs ss r x ≤ n0 := by
          have := mono (hl n0 h0 h1)
          omega
        refine ⟨(n0 - paidF cs ss r x).toNat, by omega, rfl, by omega, mono hp, fun n a b => ?_, rfl⟩
        have := mono (hl n a b)
        omega
      · rw [if_neg hlt]
        have e : paidF cs ss r x = x := by omega
        exact q (some x) ⟨hx, e, hl⟩
  unfold endF
  by_cases hw : wears cs
  · rw [if_pos hw]
    obtain ⟨n0, h0, h1⟩ := ends_of_wears (r := r) hc.pos hl (by have := paid_nonneg hc.pos (r := r) hs (Int.le_refl 0); omega) hw
    exact .inl ⟨rfl, loop _ n0 h0 h1⟩
  · rw [if_neg hw]
    refine .inr ⟨rfl, _, rfl, ?_⟩
    by_cases hr2 : wantF cs ss 0 (per cs) ≤ r
    · rw [if_pos hr2]
      have h2 := (want_le.mp hr2).2
      exact q none (first_per hc.pos hl hw fun n a b => h2 n a (by omega))
    · rw [if_neg hr2]
      have h3 : ∃ n, 0 ≤ n ∧ paidF cs ss r n ≤ n := Classical.byContradiction fun hn => hr2 (want_le.mpr ⟨hr, fun n a b => Classical.byContradiction fun h => hn ⟨n, a, by omega⟩⟩)
      obtain ⟨n0, h0, h1⟩ := h3
      exact loop _ n0 h0 h1
def wf_all_rides : WFn := fun ds post => ∃ cs r ss, ds = [tI cs, pD r ss] ∧ CardsOk cs ∧ PurseOk cs r ss ∧ ∀ o, IsAll cs ss r o → post (oD o)
def ws_all_rides : WS := (wsSeq (wsExpr (wFcall wf_need_purse (wCons (wVar 0) (wCons (wVar 1) wNil))))
  (wsRet (wFcall wf_in_all (wCons (wVar 0) (wCons (wVar 1) wNil)))))
theorem len_all_rides : ∀ ds post, wf_all_rides ds post → ds.length = 2 := by
  rintro ds post ⟨cs, r, ss, rfl, _⟩
  rfl
theorem hd_all_rides : ∀ ds post, wf_all_rides ds post → ws_all_rides { nx := fun _ => post .none, rt := post } (startR 2 ds) := by
  rintro ds post ⟨cs, r, ss, rfl, hc, hp, q⟩
  simp [ws_all_rides, wsRet, wsRetN, wsSeq, wsNext, wsSet, wsAsg, wsPar, wsIf, wsExpr, wVar, wC, wOp, wUn, wCall, wNil, wCons, wI, wI0, wAdd, wSub, wMul, wDiv, wMod, wNeg, wLt, wLe, wGt, wGe, wIsN, isN_fr, isN_ow, isN_none, isN_int, isN_tup, isN_lst, wTest, wAnd, wOr, wNot, wAndV, wOrV, wNotV, wIf, wChain, wTup, wLst, wFrz, wLen, wMax, wMin, wIx, wIsi, plainD, isTy, wFcall, mapfr_nil, mapfr_cons, dat_fr, dat_ow, X.fr_inj, its_tup, its_lst, its_ow, itl_lst, itl_ow, atI_0, atI_1, atI_2, startR, wName, wNames, setAll, wipeR, and_assoc, wBag, wBag0, wBag1, wsBump, wsApp, wsSetN, wsFrz, wsParN, wsSetI, wsPar3, wRevT]
  exact ⟨cs, r, ss, rfl, hc, hp, cs, r, ss, rfl, hc, hp.1.1, hp.2.1, hp.2.nonneg, q⟩
def leftD (cs ss : List Int) : Option Int → D
  | some t => tI (leftF cs ss t)
  | none => .none
def wf_left_of : WFn := fun ds post => ∃ cs r ss, ds = [tI cs, pD r ss] ∧ CardsOk cs ∧ 0 ≤ r ∧ ss.length = cs.length ∧ (∀ s ∈ ss, 0 ≤ s) ∧ ∀ o, IsAll cs ss r o → post (leftD cs ss o)
def ws_left_of : WS := (wsSeq (wsSet 2 (wFcall wf_in_all (wCons (wVar 0) (wCons (wVar 1) wNil))))
  (wsSeq (wsIf (wTest (wOp (wIsN false) (wVar 2) (wC .none))) (wsRet (wC .none)) wsNext)
  (wsRet (wCall wTuple (wCons (wFrz (wLc (wiZipT (wCons (wOp wIx (wVar 1) (wC (.int 1))) (wCons (wVar 0) wNil))) (wNames [3, 4]) wYes (wOp wMod (wOp wAdd (wVar 3) (wVar 2)) (wVar 4)) [3, 4])) wNil)))))
theorem len_left_of : ∀ ds post, wf_left_of ds post → ds.length = 2 := by
  rintro ds post ⟨cs, r, ss, rfl, _⟩
  rfl
theorem hd_left_of : ∀ ds post, wf_left_of ds post → ws_left_of { nx := fun _ => post .none, rt := post } (startR 5 ds) := by
  rintro ds post ⟨cs, r, ss, rfl, hc, hr, hl, hs, q⟩
  simp [ws_left_of, wsRet, wsRetN, wsSeq, wsNext, wsSet, wsAsg, wsPar, wsIf, wsExpr, wVar, wC, wOp, wUn, wCall, wNil, wCons, wI, wI0, wAdd, wSub, wMul, wDiv, wMod, wNeg, wLt, wLe, wGt, wGe, wIsN, isN_fr, isN_ow, isN_none, isN_int, isN_tup, isN_lst, wTest, wAnd, wOr, wNot, wAndV, wOrV, wNotV, wIf, wChain, wTup, wLst, wFrz, wLen, wMax, wMin, wIx, wIsi, plainD, isTy, wFcall, mapfr_nil, mapfr_cons, dat_fr, dat_ow, X.fr_inj, its_tup, its_lst, its_ow, itl_lst, itl_ow, atI_0, atI_1, atI_2, startR, wName, wNames, setAll, wipeR, and_assoc, wBag, wBag0, wBag1, wsBump, wsApp, wsSetN, wsFrz, wsParN, wsSetI, wsPar3, wRevT, pD]
  refine ⟨cs, r, ss, rfl, hc, hr, hl, hs, fun o ho => ?_⟩
  cases o with
  | none =>
    refine iteP rfl ?_
    exact q none ho
  | some t =>
    refine iteQ (fun z => nomatch z) ?_
    refine w_lcA (ss.zip cs) (fun q => .tuple [.int q.1, .int q.2]) (fun q => .int ((q.1 + t) % q.2)) (fun q h => ?_) ?_ (fun a q m h => ?_) (w_tupleL ?_)
    · simp [wiZipT, wsRet, wsRetN, wsSeq, wsNext, wsSet, wsAsg, wsPar, wsIf, wsExpr, wVar, wC, wOp, wUn, wCall, wNil, wCons, wI, wI0, wAdd, wSub, wMul, wDiv, wMod, wNeg, wLt, wLe, wGt, wGe, wIsN, isN_fr, isN_ow, isN_none, isN_int, isN_tup, isN_lst, wTest, wAnd, wOr, wNot, wAndV, wOrV, wNotV, wIf, wChain, wTup, wLst, wFrz, wLen, wMax, wMin, wIx, wIsi, plainD, isTy, wFcall, mapfr_nil, mapfr_cons, dat_fr, dat_ow, X.fr_inj, its_tup, its_lst, its_ow, itl_lst, itl_ow, atI_0, atI_1, atI_2, startR, wName, wNames, setAll, wipeR, and_assoc, wBag, wBag0, wBag1, wsBump, wsApp, wsSetN, wsFrz, wsParN, wsSetI, wsPar3, wRevT]
      rw [show (List.map PyData.int ss).zip (List.map PyData.int cs) = (ss.zip cs).map (fun q => (.int q.1, .int q.2)) by rw [List.zip_map]; rfl, List.map_map]
      exact h
    · rw [List.length_zip]
      have := hc.2.1
      omega
    · have hm := hc.2.2 a.2 (List.of_mem_zip m).2
      simp [wsRet, wsRetN, wsSeq, wsNext, wsSet, wsAsg, wsPar, wsIf, wsExpr, wVar, wC, wOp, wUn, wCall, wNil, wCons, wI, wI0, wAdd, wSub, wMul, wDiv, wMod, wNeg, wLt, wLe, wGt, wGe, wIsN, isN_fr, isN_ow, isN_none, isN_int, isN_tup, isN_lst, wTest, wAnd, wOr, wNot, wAndV, wOrV, wNotV, wIf, wChain, wTup, wLst, wFrz, wLen, wMax, wMin, wIx, wIsi, plainD, isTy, wFcall, mapfr_nil, mapfr_cons, dat_fr, dat_ow, X.fr_inj, its_tup, its_lst, its_ow, itl_lst, itl_ow, atI_0, atI_1, atI_2, startR, wName, wNames, setAll, wipeR, and_assoc, wBag, wBag0, wBag1, wsBump, wsApp, wsSetN, wsFrz, wsParN, wsSetI, wsPar3, wRevT, oD]
      exact ⟨by omega, h⟩
    · have h := q (some t) ho
      unfold leftD leftF at h
      simp only [tI, List.map_map] at h
      exact h
def wf_left : WFn := fun ds post => ∃ cs r ss, ds = [tI cs, pD r ss] ∧ CardsOk cs ∧ PurseOk cs r ss ∧ ∀ o, IsAll cs ss r o → post (leftD cs ss o)
def ws_left : WS := (wsSeq (wsExpr (wFcall wf_need_purse (wCons (wVar 0) (wCons (wVar 1) wNil))))
  (wsRet (wFcall wf_left_of (wCons (wVar 0) (wCons (wVar 1) wNil)))))
theorem len_left : ∀ ds post, wf_left ds post → ds.length = 2 := by
  rintro ds post ⟨cs, r, ss, rfl, _⟩
  rfl
theorem hd_left : ∀ ds post, wf_left ds post → ws_left { nx := fun _ => post .none, rt := post } (startR 2 ds) := by
  rintro ds post ⟨cs, r, ss, rfl, hc, hp, q⟩
  simp [ws_left, wsRet, wsRetN, wsSeq, wsNext, wsSet, wsAsg, wsPar, wsIf, wsExpr, wVar, wC, wOp, wUn, wCall, wNil, wCons, wI, wI0, wAdd, wSub, wMul, wDiv, wMod, wNeg, wLt, wLe, wGt, wGe, wIsN, isN_fr, isN_ow, isN_none, isN_int, isN_tup, isN_lst, wTest, wAnd, wOr, wNot, wAndV, wOrV, wNotV, wIf, wChain, wTup, wLst, wFrz, wLen, wMax, wMin, wIx, wIsi, plainD, isTy, wFcall, mapfr_nil, mapfr_cons, dat_fr, dat_ow, X.fr_inj, its_tup, its_lst, its_ow, itl_lst, itl_ow, atI_0, atI_1, atI_2, startR, wName, wNames, setAll, wipeR, and_assoc, wBag, wBag0, wBag1, wsBump, wsApp, wsSetN, wsFrz, wsParN, wsSetI, wsPar3, wRevT]
  exact ⟨cs, r, ss, rfl, hc, hp, cs, r, ss, rfl, hc, hp.1.1, hp.2.1, hp.2.nonneg, q⟩
end DL

/-! What the laws' helpers do, on data: draws. -/
namespace DL
open PySem PySem.Spec PyProof.Rows L2 FR
def wf_law_cell_at : WFn := fun ds post => ∃ (ns : List Int) (k : Int), ds = [scrD ns, .int k] ∧ 0 ≤ k ∧ ∀ i : Int, post (.int i)
def ws_law_cell_at : WS := (wsSeq (wsIf (wTest (wOp wLt (wVar 1) (wCall wLen (wCons (wVar 0) wNil)))) (wsRet (wOp wIx (wVar 0) (wVar 1))) wsNext)
  (wsRet (wC (.int 0))))
theorem len_law_cell_at : ∀ ds post, wf_law_cell_at ds post → ds.length = 2 := by
  rintro ds post ⟨ns, k, rfl, _⟩
  rfl
theorem hd_law_cell_at : ∀ ds post, wf_law_cell_at ds post → ws_law_cell_at { nx := fun _ => post .none, rt := post } (startR 2 ds) := by
  rintro ds post ⟨ns, k, rfl, hk, q⟩
  simp [ws_law_cell_at, wsRet, wsRetN, wsSeq, wsNext, wsSet, wsAsg, wsPar, wsIf, wsExpr, wVar, wC, wOp, wUn, wCall, wNil, wCons, wI, wI0, wAdd, wSub, wMul, wDiv, wMod, wNeg, wLt, wLe, wGt, wGe, wIsN, isN_fr, isN_ow, isN_none, isN_int, isN_tup, isN_lst, wTest, wAnd, wOr, wNot, wAndV, wOrV, wNotV, wIf, wChain, wTup, wLst, wFrz, wLen, wMax, wMin, wIx, wIsi, plainD, isTy, wFcall, mapfr_nil, mapfr_cons, dat_fr, dat_ow, X.fr_inj, its_tup, its_lst, its_ow, itl_lst, itl_ow, atI_0, atI_1, atI_2, startR, wName, wNames, setAll, wipeR, and_assoc, wBag, wBag0, wBag1, wsBump, wsApp, wsSetN, wsFrz, wsParN, wsSetI, wsPar3, wRevT]
  refine ⟨ns.map PyData.int, its_scr rfl, ?_⟩
  rw [List.length_map]
  refine ite2 (fun h => ?_) (fun h => q 0)
  refine ⟨ns.map PyData.int, its_scr rfl, ?_⟩
  obtain ⟨j, rfl⟩ := Int.eq_ofNat_of_zero_le hk
  have hj : j < ns.length := by omega
  refine ⟨_, ?_, q ns[j]⟩
  have e : (ns.map PyData.int)[j]? = some (.int ns[j]) := by
    rw [List.getElem?_map, List.getElem?_eq_getElem hj]
    rfl
  exact atI_nat e
def wf_law_draws : WFn := fun ds post => ∃ c : Int, ds = [.int c, .int 400, .int 1000] ∧ ∀ xs, DrawsOk xs → post (.list (xs.map PyData.int))
def ws_law_draws : WS := (wsSeq (wsSetN 3 (wLst wNil))
  (wsSeq (wsSet 4 (wOp wMul (wVar 0) (wCall wInt1 (wCons (wOp wGe (wVar 0) (wOp wPow (wC (.int 10)) (wC (.int 18)))) wNil))))
  (wsSeq (wsSet 5 (wOp wMod (wVar 0) (wC (.int 2305843009213693951))))
  (wsSeq (wsFor (wiR1 (wCons (wOp wAdd (wVar 1) (wC (.int 3))) wNil)) (wName 6) (wsSeq (wsSet 5 (wOp wMod (wOp wAdd (wOp wAdd (wOp wAdd (wOp wMul (wVar 5) (wVar 5)) (wOp wMul (wC (.int 48271)) (wVar 5))) (wVar 6)) (wC (.int 1))) (wC (.int 2305843009213693951))))
  (wsIf (wAnd (wTest (wOp wGt (wVar 6) (wC (.int 2)))) (wTest (wOp wGt (wVar 4) (wC (.int 0))))) (wsSeq (wsApp 3 (wOp wMod (wVar 4) (wVar 2)))
  (wsSet 4 (wOp wDiv (wVar 4) (wVar 2)))) (wsIf (wTest (wOp wGt (wVar 6) (wC (.int 2)))) (wsApp 3 (wOp wMod (wOp wDiv (wVar 5) (wC (.int 4096))) (wVar 2))) wsNext))))
  (wsRet (wVar 3))))))
theorem len_law_draws : ∀ ds post, wf_law_draws ds post → ds.length = 3 := by
  rintro ds post ⟨c, rfl, _⟩
  rfl
def InvDraws (c : Int) (i : Nat) (ρ : Ρ) : Prop := ∃ (xs : List Int) (rest sd : Int) (z : Option X), ρ = [some (.fr (.int c)), some (.fr (.int 400)), some (.fr (.int 1000)), some (.ow (xs.map PyData.int)), some (.fr (.int rest)), some (.fr (.int sd)), z] ∧ 0 ≤ rest ∧ 0 ≤ sd ∧ sd < 2305843009213693951 ∧ xs.length = i - 3 ∧ ∀ x ∈ xs, 0 ≤ x ∧ x < 1000
theorem more_in {xs : List Int} {y : Int} (h : ∀ x ∈ xs, 0 ≤ x ∧ x < 1000) (hy : 0 ≤ y ∧ y < 1000) : ∀ x ∈ xs ++ [y], 0 ≤ x ∧ x < 1000 := fun x m => by
  rcases List.mem_append.mp m with m | m
  · exact h x m
  · rw [List.mem_singleton] at m
    subst m
    exact hy
theorem hd_law_draws : ∀ ds post, wf_law_draws ds post → ws_law_draws { nx := fun _ => post .none, rt := post } (startR 7 ds) := by
  rintro ds post ⟨c, rfl, q⟩
  simp [ws_law_draws, wsRet, wsRetN, wsSeq, wsNext, wsSet, wsAsg, wsPar, wsIf, wsExpr, wVar, wC, wOp, wUn, wCall, wNil, wCons, wI, wI0, wAdd, wSub, wMul, wDiv, wMod, wNeg, wLt, wLe, wGt, wGe, wIsN, isN_fr, isN_ow, isN_none, isN_int, isN_tup, isN_lst, wTest, wAnd, wOr, wNot, wAndV, wOrV, wNotV, wIf, wChain, wTup, wLst, wFrz, wLen, wMax, wMin, wIx, wIsi, plainD, isTy, wFcall, mapfr_nil, mapfr_cons, dat_fr, dat_ow, X.fr_inj, its_tup, its_lst, its_ow, itl_lst, itl_ow, atI_0, atI_1, atI_2, startR, wName, wNames, setAll, wipeR, and_assoc, wBag, wBag0, wBag1, wsBump, wsApp, wsSetN, wsFrz, wsParN, wsSetI, wsPar3, wRevT]
  refine ⟨⟨by decide, by decide, by decide⟩, .inr ⟨_, rfl, ?_⟩⟩
  have hz : (if decide (1000000000000000000 ≤ c) then (1 : Int) else 0) = 0 ∨ 1000000000000000000 ≤ c := by
    by_cases h : 1000000000000000000 ≤ c
    · exact .inr h
    · left
      rw [decide_eq_false h]
      rfl
  have h01 : 0 ≤ (if decide (1000000000000000000 ≤ c) then (1 : Int) else 0) ∧ (if decide (1000000000000000000 ≤ c) then (1 : Int) else 0) ≤ 1 := by
    split <;> omega
  have hr : 0 ≤ c * (if decide (1000000000000000000 ≤ c) then (1 : Int) else 0) := by
    rcases hz with h | h
    · rw [h]; omega
    · exact Int.mul_nonneg (by omega) h01.1
  generalize hb : (if decide (1000000000000000000 ≤ c) then (1 : Int) else 0) = b at h01 hr
  refine ⟨b, rfl, .inr ⟨by omega, by omega⟩, ?_⟩
  generalize hcb : c * b = rest at hr
  refine w_forR 0 403 (fun q h => by simp [wiR1, wsRet, wsRetN, wsSeq, wsNext, wsSet, wsAsg, wsPar, wsIf, wsExpr, wVar, wC, wOp, wUn, wCall, wNil, wCons, wI, wI0, wAdd, wSub, wMul, wDiv, wMod, wNeg, wLt, wLe, wGt, wGe, wIsN, isN_fr, isN_ow, isN_none, isN_int, isN_tup, isN_lst, wTest, wAnd, wOr, wNot, wAndV, wOrV, wNotV, wIf, wChain, wTup, wLst, wFrz, wLen, wMax, wMin, wIx, wIsi, plainD, isTy, wFcall, mapfr_nil, mapfr_cons, dat_fr, dat_ow, X.fr_inj, its_tup, its_lst, its_ow, itl_lst, itl_ow, atI_0, atI_1, atI_2, startR, wName, wNames, setAll, wipeR, and_assoc, wBag, wBag0, wBag1, wsBump, wsApp, wsSetN, wsFrz, wsParN, wsSetI, wsPar3, wRevT]; exact h) (InvDraws c)
    ⟨[], rest, c % 2305843009213693951, none, rfl, hr, Int.emod_nonneg _ (by decide), Int.emod_lt_of_pos _ (by decide), rfl, fun x m => nomatch m⟩ ?_ ?_
  · rintro i ρ hi ⟨xs, rest, sd, z, rfl, hr, hs0, hs1, hl, hx⟩
    simp [wsRet, wsRetN, wsSeq, wsNext, wsSet, wsAsg, wsPar, wsIf, wsExpr, wVar, wC, wOp, wUn, wCall, wNil, wCons, wI, wI0, wAdd, wSub, wMul, wDiv, wMod, wNeg, wLt, wLe, wGt, wGe, wIsN, isN_fr, isN_ow, isN_none, isN_int, isN_tup, isN_lst, wTest, wAnd, wOr, wNot, wAndV, wOrV, wNotV, wIf, wChain, wTup, wLst, wFrz, wLen, wMax, wMin, wIx, wIsi, plainD, isTy, wFcall, mapfr_nil, mapfr_cons, dat_fr, dat_ow, X.fr_inj, its_tup, its_lst, its_ow, itl_lst, itl_ow, atI_0, atI_1, atI_2, startR, wName, wNames, setAll, wipeR, and_assoc, wBag, wBag0, wBag1, wsBump, wsApp, wsSetN, wsFrz, wsParN, wsSetI, wsPar3, wRevT]
    refine ⟨.inl ⟨by omega, by omega⟩, .inl ⟨by omega, by omega⟩, ?_⟩
    generalize hst : (sd * sd + 48271 * sd + (i : Int) + 1) % 2305843009213693951 = sd'
    have g0 : 0 ≤ sd' := by rw [← hst]; exact Int.emod_nonneg _ (by decide)
    have g1 : sd' < 2305843009213693951 := by rw [← hst]; exact Int.emod_lt_of_pos _ (by decide)
    have hk : xs.length < 100000 := by omega
    refine ite2 (fun h2 => ?_) (fun h2 => ?_)
    · refine ite2 (fun h3 => ?_) (fun h3 => ?_)
      · refine ⟨hk, ⟨by decide, by decide⟩, xs ++ [rest % 1000], rest / 1000, sd', some (.fr (.int i)), by simp, Int.ediv_nonneg hr (by decide), g0, g1, ?_, more_in hx ⟨Int.emod_nonneg _ (by decide), Int.emod_lt_of_pos _ (by decide)⟩⟩
        simp; omega
      · refine iteP h2 ?_
        refine ⟨hk, ⟨by decide, by decide⟩, xs ++ [sd' / 4096 % 1000], rest, sd', some (.fr (.int i)), by simp, hr, g0, g1, ?_, more_in hx ⟨Int.emod_nonneg _ (by decide), Int.emod_lt_of_pos _ (by decide)⟩⟩
        simp; omega
    · refine iteQ h2 ?_
      refine ⟨xs, _, _, _, rfl, hr, g0, g1, by omega, hx⟩
  · rintro ρ ⟨xs, rest, sd, z, rfl, hr, hs0, hs1, hl, hx⟩
    simp [wsRet, wsRetN, wsSeq, wsNext, wsSet, wsAsg, wsPar, wsIf, wsExpr, wVar, wC, wOp, wUn, wCall, wNil, wCons, wI, wI0, wAdd, wSub, wMul, wDiv, wMod, wNeg, wLt, wLe, wGt, wGe, wIsN, isN_fr, isN_ow, isN_none, isN_int, isN_tup, isN_lst, wTest, wAnd, wOr, wNot, wAndV, wOrV, wNotV, wIf, wChain, wTup, wLst, wFrz, wLen, wMax, wMin, wIx, wIsi, plainD, isTy, wFcall, mapfr_nil, mapfr_cons, dat_fr, dat_ow, X.fr_inj, its_tup, its_lst, its_ow, itl_lst, itl_ow, atI_0, atI_1, atI_2, startR, wName, wNames, setAll, wipeR, and_assoc, wBag, wBag0, wBag1, wsBump, wsApp, wsSetN, wsFrz, wsParN, wsSetI, wsPar3, wRevT]
    exact q xs ⟨hl, hx⟩
def wf_law_bag : WFn := fun ds post => ∃ (ns : List Int) (k : Int), ds = [scrD ns, .int k] ∧ 0 ≤ k ∧ post bagD
def ws_law_bag : WS := (wsRet (wBag (wLst (wCons (wFcall wf_law_draws (wCons (wFcall wf_law_cell_at (wCons (wVar 0) (wCons (wVar 1) wNil))) (wCons (wC (.int 400)) (wCons (wC (.int 1000)) wNil)))) (wCons (wC (.int 0)) wNil)))))
theorem len_law_bag : ∀ ds post, wf_law_bag ds post → ds.length = 2 := by
  rintro ds post ⟨ns, k, rfl, _⟩
  rfl
theorem hd_law_bag : ∀ ds post, wf_law_bag ds post → ws_law_bag { nx := fun _ => post .none, rt := post } (startR 2 ds) := by
  rintro ds post ⟨ns, k, rfl, hk, q⟩
  simp [ws_law_bag, wsRet, wsRetN, wsSeq, wsNext, wsSet, wsAsg, wsPar, wsIf, wsExpr, wVar, wC, wOp, wUn, wCall, wNil, wCons, wI, wI0, wAdd, wSub, wMul, wDiv, wMod, wNeg, wLt, wLe, wGt, wGe, wIsN, isN_fr, isN_ow, isN_none, isN_int, isN_tup, isN_lst, wTest, wAnd, wOr, wNot, wAndV, wOrV, wNotV, wIf, wChain, wTup, wLst, wFrz, wLen, wMax, wMin, wIx, wIsi, plainD, isTy, wFcall, mapfr_nil, mapfr_cons, dat_fr, dat_ow, X.fr_inj, its_tup, its_lst, its_ow, itl_lst, itl_ow, atI_0, atI_1, atI_2, startR, wName, wNames, setAll, wipeR, and_assoc, wBag, wBag0, wBag1, wsBump, wsApp, wsSetN, wsFrz, wsParN, wsSetI, wsPar3, wRevT]
  refine ⟨ns, k, rfl, hk, fun i => ⟨i, rfl, fun xs hx => ?_⟩⟩
  exact ⟨xs, rfl, hx, q⟩
def wf_law_bags : WFn := fun ds post => ∃ (ns : List Int) (lim : Int), ds = [scrD ns, .int lim] ∧ (1 ≤ lim ∧ lim ≤ 20) ∧ ∀ n : Nat, (n : Int) ≤ lim → post (.list (List.replicate n bagD))
def ws_law_bags : WS := (wsRet (wFrz (wLc (wiR1 (wCons (wCall wMax (wCons (wC (.int 1)) (wCons (wCall wMin (wCons (wVar 1) (wCons (wCall wLen (wCons (wVar 0) wNil)) wNil))) wNil))) wNil)) (wName 2) wYes (wFcall wf_law_bag (wCons (wVar 0) (wCons (wVar 2) wNil))) [2])))
theorem len_law_bags : ∀ ds post, wf_law_bags ds post → ds.length = 2 := by
  rintro ds post ⟨ns, k, rfl, _⟩
  rfl
theorem hd_law_bags : ∀ ds post, wf_law_bags ds post → ws_law_bags { nx := fun _ => post .none, rt := post } (startR 3 ds) := by
  rintro ds post ⟨ns, lim, rfl, hl, q⟩
  simp [ws_law_bags, wsRet, wsRetN, wsSeq, wsNext, wsSet, wsAsg, wsPar, wsIf, wsExpr, wVar, wC, wOp, wUn, wCall, wNil, wCons, wI, wI0, wAdd, wSub, wMul, wDiv, wMod, wNeg, wLt, wLe, wGt, wGe, wIsN, isN_fr, isN_ow, isN_none, isN_int, isN_tup, isN_lst, wTest, wAnd, wOr, wNot, wAndV, wOrV, wNotV, wIf, wChain, wTup, wLst, wFrz, wLen, wMax, wMin, wIx, wIsi, plainD, isTy, wFcall, mapfr_nil, mapfr_cons, dat_fr, dat_ow, X.fr_inj, its_tup, its_lst, its_ow, itl_lst, itl_ow, atI_0, atI_1, atI_2, startR, wName, wNames, setAll, wipeR, and_assoc, wBag, wBag0, wBag1, wsBump, wsApp, wsSetN, wsFrz, wsParN, wsSetI, wsPar3, wRevT]
  -- so many bags
  have hm : ∃ m : Int, m = (if (if (ns.length : Int) < lim then (ns.length : Int) else lim) > 1 then (if (ns.length : Int) < lim then (ns.length : Int) else lim) else 1) ∧ 1 ≤ m ∧ m ≤ lim := by
    refine ⟨_, rfl, ?_, ?_⟩ <;> split <;> split at * <;> omega
  obtain ⟨m, em, h1, h2⟩ := hm
  refine w_lc (rgD 0 m.toNat) (fun _ _ => bagD) (fun q h => ?_) (by rw [rgD_len]; omega) (fun i d q hd h => ?_) ?_
  · simp [wiR1, wsRet, wsRetN, wsSeq, wsNext, wsSet, wsAsg, wsPar, wsIf, wsExpr, wVar, wC, wOp, wUn, wCall, wNil, wCons, wI, wI0, wAdd, wSub, wMul, wDiv, wMod, wNeg, wLt, wLe, wGt, wGe, wIsN, isN_fr, isN_ow, isN_none, isN_int, isN_tup, isN_lst, wTest, wAnd, wOr, wNot, wAndV, wOrV, wNotV, wIf, wChain, wTup, wLst, wFrz, wLen, wMax, wMin, wIx, wIsi, plainD, isTy, wFcall, mapfr_nil, mapfr_cons, dat_fr, dat_ow, X.fr_inj, its_tup, its_lst, its_ow, itl_lst, itl_ow, atI_0, atI_1, atI_2, startR, wName, wNames, setAll, wipeR, and_assoc, wBag, wBag0, wBag1, wsBump, wsApp, wsSetN, wsFrz, wsParN, wsSetI, wsPar3, wRevT]
    refine ⟨ns.map PyData.int, its_scr rfl, ?_⟩
    rw [List.length_map, ← em]
    exact ⟨by omega, by omega, h⟩
  · have hi : i < m.toNat := by
      have := (List.getElem?_eq_some_iff.mp hd).1
      rw [rgD_len] at this
      exact this
    rw [rgD_get hi] at hd
    cases hd
    simp [wsRet, wsRetN, wsSeq, wsNext, wsSet, wsAsg, wsPar, wsIf, wsExpr, wVar, wC, wOp, wUn, wCall, wNil, wCons, wI, wI0, wAdd, wSub, wMul, wDiv, wMod, wNeg, wLt, wLe, wGt, wGe, wIsN, isN_fr, isN_ow, isN_none, isN_int, isN_tup, isN_lst, wTest, wAnd, wOr, wNot, wAndV, wOrV, wNotV, wIf, wChain, wTup, wLst, wFrz, wLen, wMax, wMin, wIx, wIsi, plainD, isTy, wFcall, mapfr_nil, mapfr_cons, dat_fr, dat_ow, X.fr_inj, its_tup, its_lst, its_ow, itl_lst, itl_ow, atI_0, atI_1, atI_2, startR, wName, wNames, setAll, wipeR, and_assoc, wBag, wBag0, wBag1, wsBump, wsApp, wsSetN, wsFrz, wsParN, wsSetI, wsPar3, wRevT]
    exact ⟨ns, _, rfl, by omega, h⟩
  · have e : (rgD 0 m.toNat).mapIdx (fun _ _ => bagD) = List.replicate m.toNat bagD := by
      rw [List.eq_replicate_iff]
      refine ⟨by rw [List.length_mapIdx, rgD_len], fun b hb => ?_⟩
      obtain ⟨i, hi, rfl⟩ := List.mem_mapIdx.mp hb
      rfl
    rw [e]
    exact q _ (by omega)
/-! ### one draw -/
def wf_law_take : WFn := fun ds post => ∃ m : Int, ds = [bagD, .int m] ∧ 0 < m ∧ ∀ r : Int, 0 ≤ r → r < m → post (.int r)
def ws_law_take : WS := (wsSeq (wsBump 0 (wOp wAdd (wBag1 0) (wC (.int 1))))
  (wsRet (wOp wMod (wOp wIx (wBag0 0) (wOp wMod (wBag1 0) (wCall wLen (wCons (wBag0 0) wNil)))) (wVar 1))))
theorem len_law_take : ∀ ds post, wf_law_take ds post → ds.length = 2 := by
  rintro ds post ⟨m, rfl, _⟩
  rfl
theorem hd_law_take : ∀ ds post, wf_law_take ds post → ws_law_take { nx := fun _ => post .none, rt := post } (startR 2 ds) := by
  rintro ds post ⟨m, rfl, hm, q⟩
  simp [ws_law_take, wsRet, wsRetN, wsSeq, wsNext, wsSet, wsAsg, wsPar, wsIf, wsExpr, wVar, wC, wOp, wUn, wCall, wNil, wCons, wI, wI0, wAdd, wSub, wMul, wDiv, wMod, wNeg, wLt, wLe, wGt, wGe, wIsN, isN_fr, isN_ow, isN_none, isN_int, isN_tup, isN_lst, wTest, wAnd, wOr, wNot, wAndV, wOrV, wNotV, wIf, wChain, wTup, wLst, wFrz, wLen, wMax, wMin, wIx, wIsi, plainD, isTy, wFcall, mapfr_nil, mapfr_cons, dat_fr, dat_ow, X.fr_inj, its_tup, its_lst, its_ow, itl_lst, itl_ow, atI_0, atI_1, atI_2, startR, wName, wNames, setAll, wipeR, and_assoc, wBag, wBag0, wBag1, wsBump, wsApp, wsSetN, wsFrz, wsParN, wsSetI, wsPar3, wRevT]
  intro n hn
  refine ⟨n + 1, by omega, rfl, fun xs hx k hk ys hy => ?_⟩
  rw [hy.1]
  refine ⟨by decide, ?_⟩
  have h0 : 0 ≤ k % 400 := Int.emod_nonneg _ (by decide)
  have h1 : k % 400 < 400 := Int.emod_lt_of_pos _ (by decide)
  obtain ⟨j, hj⟩ := Int.eq_ofNat_of_zero_le h0
  have hjl : j < xs.length := by rw [hx.1]; omega
  have e : (xs.map PyData.int)[j]? = some (.int xs[j]) := by
    rw [List.getElem?_map, List.getElem?_eq_getElem hjl]
    rfl
  refine ⟨_, by rw [show ((400 : Nat) : Int) = 400 from rfl, hj]; exact atI_nat e, _, rfl, hm, q _ (Int.emod_nonneg _ (by omega)) (Int.emod_lt_of_pos _ hm)⟩
def wf_law_far_draw : WFn := fun ds post => ∃ m : Int, ds = [bagD, .int m] ∧ 0 < m ∧ ∀ r : Int, 0 ≤ r → r < m → post (.int r)
def ws_law_far_draw : WS := (wsSeq (wsPar 2 3 (wCons (wC (.int 0)) (wCons (wVar 1) wNil)))
  (wsSeq (wsWhile (wTest (wOp wGt (wVar 3) (wC (.int 0)))) (wsPar 2 3 (wCons (wOp wAdd (wOp wMul (wC (.int 1000)) (wVar 2)) (wFcall wf_law_take (wCons (wVar 0) (wCons (wC (.int 1000)) wNil)))) (wCons (wOp wDiv (wVar 3) (wC (.int 1000))) wNil))))
  (wsRet (wOp wIx (wFrz (wLst (wCons (wOp wMod (wVar 2) (wVar 1)) (wCons (wC (.int 0)) (wCons (wOp wSub (wVar 1) (wC (.int 1))) (wCons (wOp wMod (wVar 2) (wVar 1)) wNil)))))) (wFcall wf_law_take (wCons (wVar 0) (wCons (wC (.int 4)) wNil)))))))
theorem len_law_far_draw : ∀ ds post, wf_law_far_draw ds post → ds.length = 2 := by
  rintro ds post ⟨m, rfl, _⟩
  rfl
def InvFar (m : Int) (k : Nat) (ρ : Ρ) : Prop := ∃ f u : Int, ρ = [some (.fr bagD), some (.fr (.int m)), some (.fr (.int f)), some (.fr (.int u))] ∧ 0 ≤ f ∧ 0 ≤ u ∧ k = u.toNat
theorem hd_law_far_draw : ∀ ds post, wf_law_far_draw ds post → ws_law_far_draw { nx := fun _ => post .none, rt := post } (startR 4 ds) := by
  rintro ds post ⟨m, rfl, hm, q⟩
  simp [ws_law_far_draw, wsRet, wsRetN, wsSeq, wsNext, wsSet, wsAsg, wsPar, wsIf, wsExpr, wVar, wC, wOp, wUn, wCall, wNil, wCons, wI, wI0, wAdd, wSub, wMul, wDiv, wMod, wNeg, wLt, wLe, wGt, wGe, wIsN, isN_fr, isN_ow, isN_none, isN_int, isN_tup, isN_lst, wTest, wAnd, wOr, wNot, wAndV, wOrV, wNotV, wIf, wChain, wTup, wLst, wFrz, wLen, wMax, wMin, wIx, wIsi, plainD, isTy, wFcall, mapfr_nil, mapfr_cons, dat_fr, dat_ow, X.fr_inj, its_tup, its_lst, its_ow, itl_lst, itl_ow, atI_0, atI_1, atI_2, startR, wName, wNames, setAll, wipeR, and_assoc, wBag, wBag0, wBag1, wsBump, wsApp, wsSetN, wsFrz, wsParN, wsSetI, wsPar3, wRevT]
  refine w_while (InvFar m) m.toNat ⟨0, m, rfl, by decide, by omega, rfl⟩ ?_
  rintro k ρ ⟨f, u, rfl, hf, hu, rfl⟩
  simp [wsRet, wsRetN, wsSeq, wsNext, wsSet, wsAsg, wsPar, wsIf, wsExpr, wVar, wC, wOp, wUn, wCall, wNil, wCons, wI, wI0, wAdd, wSub, wMul, wDiv, wMod, wNeg, wLt, wLe, wGt, wGe, wIsN, isN_fr, isN_ow, isN_none, isN_int, isN_tup, isN_lst, wTest, wAnd, wOr, wNot, wAndV, wOrV, wNotV, wIf, wChain, wTup, wLst, wFrz, wLen, wMax, wMin, wIx, wIsi, plainD, isTy, wFcall, mapfr_nil, mapfr_cons, dat_fr, dat_ow, X.fr_inj, its_tup, its_lst, its_ow, itl_lst, itl_ow, atI_0, atI_1, atI_2, startR, wName, wNames, setAll, wipeR, and_assoc, wBag, wBag0, wBag1, wsBump, wsApp, wsSetN, wsFrz, wsParN, wsSetI, wsPar3, wRevT]
  refine ite2 (fun h => ?_) (fun h => ?_)
  · refine ⟨.inl ⟨by decide, by decide⟩, 1000, rfl, by decide, fun r h0 h1 => ⟨_, rfl, ⟨by decide, by decide⟩, (u / 1000).toNat, ?_, 1000 * f + r, u / 1000, rfl, by omega, Int.ediv_nonneg hu (by decide), rfl⟩⟩
    omega
  · refine ⟨hm, 4, rfl, by decide, fun r h0 h1 => ⟨_, r, rfl, rfl, ?_⟩⟩
    have h2 : 0 ≤ f % m := Int.emod_nonneg _ (by omega)
    have h3 : f % m < m := Int.emod_lt_of_pos _ hm
    have hr : r = 0 ∨ r = 1 ∨ r = 2 ∨ r = 3 := by omega
    rcases hr with rfl | rfl | rfl | rfl
    · exact ⟨_, atI_nat (j := 0) rfl, q _ h2 h3⟩
    · exact ⟨_, atI_nat (j := 1) rfl, q _ (Int.le_refl 0) hm⟩
    · exact ⟨_, atI_nat (j := 2) rfl, q _ (by omega) (by omega)⟩
    · exact ⟨_, atI_nat (j := 3) rfl, q _ h2 h3⟩
def wf_law_kinds : WFn := fun ds post => ∃ far : Int, ds = [bagD, .int far] ∧ 2 ≤ far ∧ ∀ cs : List Int, 1 ≤ cs.length → cs.length ≤ 3 → (∀ c ∈ cs, 2 ≤ c ∧ c ≤ far) → post (tI cs)
def ws_law_kinds : WS := (wsSeq (wsSetN 2 (wLst wNil))
  (wsSeq (wsFor (wiR1 (wCons (wOp wAdd (wC (.int 1)) (wFcall wf_law_take (wCons (wVar 0) (wCons (wC (.int 3)) wNil)))) wNil)) (wName 3) (wsApp 2 (wOp wAdd (wC (.int 2)) (wOp wIx (wFrz (wLst (wCons (wFcall wf_law_take (wCons (wVar 0) (wCons (wCall wMin (wCons (wC (.int 3)) (wCons (wOp wSub (wVar 1) (wC (.int 1))) wNil))) wNil))) (wCons (wFcall wf_law_take (wCons (wVar 0) (wCons (wOp wSub (wVar 1) (wC (.int 1))) wNil))) wNil)))) (wFcall wf_law_take (wCons (wVar 0) (wCons (wC (.int 2)) wNil)))))))
  (wsRet (wCall wTuple (wCons (wVar 2) wNil)))))
theorem len_law_kinds : ∀ ds post, wf_law_kinds ds post → ds.length = 2 := by
  rintro ds post ⟨m, rfl, _⟩
  rfl
def InvKinds (far : Int) (n i : Nat) (ρ : Ρ) : Prop := ∃ (cs : List Int) (z : Option X), ρ = [some (.fr bagD), some (.fr (.int far)), some (.ow (cs.map PyData.int)), z] ∧ cs.length = i ∧ ∀ c ∈ cs, 2 ≤ c ∧ c ≤ far
theorem two_ints {a b : Int} {P : D → Prop} {i : Int} (h0 : 0 ≤ i) (h1 : i < 2) (ha : P (.int a)) (hb : P (.int b)) : ∃ x, atI [PyData.int a, PyData.int b] i = some x ∧ P x := by
  have hr : i = 0 ∨ i = 1 := by omega
  rcases hr with rfl | rfl
  · exact ⟨_, atI_nat (j := 0) rfl, ha⟩
  · exact ⟨_, atI_nat (j := 1) rfl, hb⟩
theorem hd_law_kinds : ∀ ds post, wf_law_kinds ds post → ws_law_kinds { nx := fun _ => post .none, rt := post } (startR 4 ds) := by
  rintro ds post ⟨far, rfl, hf, q⟩
  simp [ws_law_kinds, wsRet, wsRetN, wsSeq, wsNext, wsSet, wsAsg, wsPar, wsIf, wsExpr, wVar, wC, wOp, wUn, wCall, wNil, wCons, wI, wI0, wAdd, wSub, wMul, wDiv, wMod, wNeg, wLt, wLe, wGt, wGe, wIsN, isN_fr, isN_ow, isN_none, isN_int, isN_tup, isN_lst, wTest, wAnd, wOr, wNot, wAndV, wOrV, wNotV, wIf, wChain, wTup, wLst, wFrz, wLen, wMax, wMin, wIx, wIsi, plainD, isTy, wFcall, mapfr_nil, mapfr_cons, dat_fr, dat_ow, X.fr_inj, its_tup, its_lst, its_ow, itl_lst, itl_ow, atI_0, atI_1, atI_2, startR, wName, wNames, setAll, wipeR, and_assoc, wBag, wBag0, wBag1, wsBump, wsApp, wsSetN, wsFrz, wsParN, wsSetI, wsPar3, wRevT]
  refine w_forRn 0 (fun n => 1 ≤ n ∧ n ≤ 3) (fun q h => ?_) (InvKinds far) (fun n hn => ⟨[], none, rfl, rfl, fun c m => nomatch m⟩) ?_ ?_
  · simp [wiR1, wsRet, wsRetN, wsSeq, wsNext, wsSet, wsAsg, wsPar, wsIf, wsExpr, wVar, wC, wOp, wUn, wCall, wNil, wCons, wI, wI0, wAdd, wSub, wMul, wDiv, wMod, wNeg, wLt, wLe, wGt, wGe, wIsN, isN_fr, isN_ow, isN_none, isN_int, isN_tup, isN_lst, wTest, wAnd, wOr, wNot, wAndV, wOrV, wNotV, wIf, wChain, wTup, wLst, wFrz, wLen, wMax, wMin, wIx, wIsi, plainD, isTy, wFcall, mapfr_nil, mapfr_cons, dat_fr, dat_ow, X.fr_inj, its_tup, its_lst, its_ow, itl_lst, itl_ow, atI_0, atI_1, atI_2, startR, wName, wNames, setAll, wipeR, and_assoc, wBag, wBag0, wBag1, wsBump, wsApp, wsSetN, wsFrz, wsParN, wsSetI, wsPar3, wRevT]
    exact ⟨3, rfl, by decide, fun r h0 h1 => ⟨_, rfl, by omega, by omega, h _ (by omega)⟩⟩
  · rintro n i ρ hn hi ⟨cs, z, rfl, hl, hc⟩
    simp [wsRet, wsRetN, wsSeq, wsNext, wsSet, wsAsg, wsPar, wsIf, wsExpr, wVar, wC, wOp, wUn, wCall, wNil, wCons, wI, wI0, wAdd, wSub, wMul, wDiv, wMod, wNeg, wLt, wLe, wGt, wGe, wIsN, isN_fr, isN_ow, isN_none, isN_int, isN_tup, isN_lst, wTest, wAnd, wOr, wNot, wAndV, wOrV, wNotV, wIf, wChain, wTup, wLst, wFrz, wLen, wMax, wMin, wIx, wIsi, plainD, isTy, wFcall, mapfr_nil, mapfr_cons, dat_fr, dat_ow, X.fr_inj, its_tup, its_lst, its_ow, itl_lst, itl_ow, atI_0, atI_1, atI_2, startR, wName, wNames, setAll, wipeR, and_assoc, wBag, wBag0, wBag1, wsBump, wsApp, wsSetN, wsFrz, wsParN, wsSetI, wsPar3, wRevT]
    refine ⟨by omega, _, rfl, by split <;> omega, fun a ha0 ha1 => ?_⟩
    refine ⟨far - 1, rfl, by omega, fun b hb0 hb1 => ?_⟩
    refine ⟨2, rfl, by decide, fun k hk0 hk1 => ?_⟩
    have more : ∀ x : Int, 2 ≤ 2 + x → 2 + x ≤ far → InvKinds far n (i + 1) [some (.fr bagD), some (.fr (.int far)), some (.ow (cs.map PyData.int ++ [.int (2 + x)])), some (.fr (.int (i : Int)))] := fun x g0 g1 => by
      refine ⟨cs ++ [2 + x], _, by rw [List.map_append]; rfl, by simp [hl], fun c m => ?_⟩
      rcases List.mem_append.mp m with m | m
      · exact hc c m
      · rw [List.mem_singleton] at m
        omega
    refine ⟨_, k, rfl, rfl, two_ints hk0 hk1 ⟨a, rfl, more a (by omega) ?_⟩ ⟨b, rfl, more b (by omega) (by omega)⟩⟩
    split at ha1 <;> omega
  · rintro n ρ hn ⟨cs, z, rfl, hl, hc⟩
    simp [wsRet, wsRetN, wsSeq, wsNext, wsSet, wsAsg, wsPar, wsIf, wsExpr, wVar, wC, wOp, wUn, wCall, wNil, wCons, wI, wI0, wAdd, wSub, wMul, wDiv, wMod, wNeg, wLt, wLe, wGt, wGe, wIsN, isN_fr, isN_ow, isN_none, isN_int, isN_tup, isN_lst, wTest, wAnd, wOr, wNot, wAndV, wOrV, wNotV, wIf, wChain, wTup, wLst, wFrz, wLen, wMax, wMin, wIx, wIsi, plainD, isTy, wFcall, mapfr_nil, mapfr_cons, dat_fr, dat_ow, X.fr_inj, its_tup, its_lst, its_ow, itl_lst, itl_ow, atI_0, atI_1, atI_2, startR, wName, wNames, setAll, wipeR, and_assoc, wBag, wBag0, wBag1, wsBump, wsApp, wsSetN, wsFrz, wsParN, wsSetI, wsPar3, wRevT]
    refine w_tupleO ?_
    exact q cs (by omega) (by omega) hc
def wf_law_stamps_for : WFn := fun ds post => ∃ (cs : List D) (far : Int), ds = [bagD, .tuple cs, .int far] ∧ cs.length ≤ 3 ∧ 0 ≤ far ∧ ∀ ss : List Int, ss.length = cs.length → (∀ s ∈ ss, 0 ≤ s ∧ s ≤ far) → post (tI ss)
def ws_law_stamps_for : WS := (wsRet (wCall wTuple (wCons (wFrz (wLc (wiTup (wVar 1)) (wName 3) wYes (wOp wIx (wFrz (wLst (wCons (wC (.int 0)) (wCons (wFcall wf_law_far_draw (wCons (wVar 0) (wCons (wOp wAdd (wVar 2) (wC (.int 1))) wNil))) wNil)))) (wFcall wf_law_take (wCons (wVar 0) (wCons (wC (.int 2)) wNil)))) [3])) wNil)))
theorem len_law_stamps_for : ∀ ds post, wf_law_stamps_for ds post → ds.length = 3 := by
  rintro ds post ⟨cs, m, rfl, _⟩
  rfl
theorem hd_law_stamps_for : ∀ ds post, wf_law_stamps_for ds post → ws_law_stamps_for { nx := fun _ => post .none, rt := post } (startR 4 ds) := by
  rintro ds post ⟨cs, far, rfl, hc, hf, q⟩
  simp [ws_law_stamps_for, wsRet, wsRetN, wsSeq, wsNext, wsSet, wsAsg, wsPar, wsIf, wsExpr, wVar, wC, wOp, wUn, wCall, wNil, wCons, wI, wI0, wAdd, wSub, wMul, wDiv, wMod, wNeg, wLt, wLe, wGt, wGe, wIsN, isN_fr, isN_ow, isN_none, isN_int, isN_tup, isN_lst, wTest, wAnd, wOr, wNot, wAndV, wOrV, wNotV, wIf, wChain, wTup, wLst, wFrz, wLen, wMax, wMin, wIx, wIsi, plainD, isTy, wFcall, mapfr_nil, mapfr_cons, dat_fr, dat_ow, X.fr_inj, its_tup, its_lst, its_ow, itl_lst, itl_ow, atI_0, atI_1, atI_2, startR, wName, wNames, setAll, wipeR, and_assoc, wBag, wBag0, wBag1, wsBump, wsApp, wsSetN, wsFrz, wsParN, wsSetI, wsPar3, wRevT]
  refine w_lcI cs (fun d => d) (fun i => 0 ≤ i ∧ i ≤ far) (fun q h => ?_) (by omega) (fun a q m h => ?_) (fun ns h1 h2 => w_tupleL ?_)
  · simp [wiTup, wsRet, wsRetN, wsSeq, wsNext, wsSet, wsAsg, wsPar, wsIf, wsExpr, wVar, wC, wOp, wUn, wCall, wNil, wCons, wI, wI0, wAdd, wSub, wMul, wDiv, wMod, wNeg, wLt, wLe, wGt, wGe, wIsN, isN_fr, isN_ow, isN_none, isN_int, isN_tup, isN_lst, wTest, wAnd, wOr, wNot, wAndV, wOrV, wNotV, wIf, wChain, wTup, wLst, wFrz, wLen, wMax, wMin, wIx, wIsi, plainD, isTy, wFcall, mapfr_nil, mapfr_cons, dat_fr, dat_ow, X.fr_inj, its_tup, its_lst, its_ow, itl_lst, itl_ow, atI_0, atI_1, atI_2, startR, wName, wNames, setAll, wipeR, and_assoc, wBag, wBag0, wBag1, wsBump, wsApp, wsSetN, wsFrz, wsParN, wsSetI, wsPar3, wRevT]
    rw [List.map_id'] at h
    exact h
  · simp [wsRet, wsRetN, wsSeq, wsNext, wsSet, wsAsg, wsPar, wsIf, wsExpr, wVar, wC, wOp, wUn, wCall, wNil, wCons, wI, wI0, wAdd, wSub, wMul, wDiv, wMod, wNeg, wLt, wLe, wGt, wGe, wIsN, isN_fr, isN_ow, isN_none, isN_int, isN_tup, isN_lst, wTest, wAnd, wOr, wNot, wAndV, wOrV, wNotV, wIf, wChain, wTup, wLst, wFrz, wLen, wMax, wMin, wIx, wIsi, plainD, isTy, wFcall, mapfr_nil, mapfr_cons, dat_fr, dat_ow, X.fr_inj, its_tup, its_lst, its_ow, itl_lst, itl_ow, atI_0, atI_1, atI_2, startR, wName, wNames, setAll, wipeR, and_assoc, wBag, wBag0, wBag1, wsBump, wsApp, wsSetN, wsFrz, wsParN, wsSetI, wsPar3, wRevT]
    refine ⟨far + 1, rfl, by omega, fun r h0 h1 => ⟨2, rfl, by decide, fun k k0 k1 => ⟨_, k, rfl, rfl, two_ints k0 k1 (h 0 ⟨by decide, hf⟩) (h r ⟨h0, by omega⟩)⟩⟩⟩
  · exact q ns h1 h2
def wf_law_had : WFn := fun ds post => ∃ (cs : List Int) (far : Int), ds = [bagD, tI cs, .int far] ∧ cs.length ≤ 3 ∧ 0 ≤ far ∧ ∀ (r : Int) (ss : List Int), 0 ≤ r → r ≤ far → ss.length = cs.length → (∀ s ∈ ss, 0 ≤ s ∧ s ≤ far) → post (pD r ss)
def ws_law_had : WS := (wsRet (wTup (wCons (wFcall wf_law_far_draw (wCons (wVar 0) (wCons (wOp wAdd (wVar 2) (wC (.int 1))) wNil))) (wCons (wFcall wf_law_stamps_for (wCons (wVar 0) (wCons (wVar 1) (wCons (wVar 2) wNil)))) wNil))))
theorem len_law_had : ∀ ds post, wf_law_had ds post → ds.length = 3 := by
  rintro ds post ⟨cs, m, rfl, _⟩
  rfl
theorem hd_law_had : ∀ ds post, wf_law_had ds post → ws_law_had { nx := fun _ => post .none, rt := post } (startR 3 ds) := by
  rintro ds post ⟨cs, far, rfl, hc, hf, q⟩
  simp [ws_law_had, wsRet, wsRetN, wsSeq, wsNext, wsSet, wsAsg, wsPar, wsIf, wsExpr, wVar, wC, wOp, wUn, wCall, wNil, wCons, wI, wI0, wAdd, wSub, wMul, wDiv, wMod, wNeg, wLt, wLe, wGt, wGe, wIsN, isN_fr, isN_ow, isN_none, isN_int, isN_tup, isN_lst, wTest, wAnd, wOr, wNot, wAndV, wOrV, wNotV, wIf, wChain, wTup, wLst, wFrz, wLen, wMax, wMin, wIx, wIsi, plainD, isTy, wFcall, mapfr_nil, mapfr_cons, dat_fr, dat_ow, X.fr_inj, its_tup, its_lst, its_ow, itl_lst, itl_ow, atI_0, atI_1, atI_2, startR, wName, wNames, setAll, wipeR, and_assoc, wBag, wBag0, wBag1, wsBump, wsApp, wsSetN, wsFrz, wsParN, wsSetI, wsPar3, wRevT]
  refine ⟨far + 1, rfl, by omega, fun r h0 h1 => ⟨cs.map PyData.int, far, rfl, by rw [List.length_map]; exact hc, hf, fun ss g0 g1 => ?_⟩⟩
  rw [List.length_map] at g0
  exact q r ss h0 (by omega) g0 g1
/-! ### the law's own head -/
def wf_law : WFn := fun ds post => ∃ ns : List Int, ds = [scrD ns] ∧ post (.bool true)
theorem len_law : ∀ ds post, wf_law ds post → ds.length = 1 := by
  rintro ds post ⟨ns, rfl, _⟩
  rfl
/-- no defs as values, no lambdas -/
abbrev Z0 (K : PySem.W.Frag) : Par := ⟨K, fun _ _ _ => False, fun _ h => h, fun _ _ => False⟩
/-- from the row's end -/
theorem law_starts {K : PySem.W.Frag} {H : Hp} {a : Addr} {ns : List Int} (hl : ns.length ≤ 63) (hS : SqL K H a (ns.map V.int)) {E : XK} : LF (Z0 K) wf_law [.ref a] H (fun v _ => v = .bl true) E := by
  refine ⟨H, fun _ => False, [scrD ns], fun d => d = .bool true, ⟨Evl.Ex.refl H, fun _ h => h.elim, fun _ _ h => h⟩, .cons (.scr hS (by omega)) .nil, ⟨ns, rfl, rfl⟩, fun F' B' H' v d _ _ r e => ?_⟩
  subst e
  exact Rep.bl_inv r
end DL

/-! Equality, slices. -/
namespace DL
open PySem PySem.Spec PyProof.Rows L2 FR
theorem shaped_none : SeqAt.shaped .none = true := by
  simp [SeqAt.shaped, PyData.canLay0, PyData.depth]
theorem shaped_bool (b : Bool) : SeqAt.shaped (.bool b) = true := by
  simp [SeqAt.shaped, PyData.canLay0, PyData.depth]
theorem depth_ints : ∀ ns : List Int, PyData.depthAll (ns.map PyData.int) = 0
  | [] => rfl
  | n :: ns => by
    rw [List.map_cons, PyData.depthAll, depth_ints ns, PyData.depth]
    rfl
theorem shaped_tI (ns : List Int) : SeqAt.shaped (tI ns) = true := by
  simp [SeqAt.shaped, PyData.canLay0, PyData.depth, lay_ints, depth_ints]
theorem shaped_lI (ns : List Int) : SeqAt.shaped (.list (ns.map PyData.int)) = true := by
  simp [SeqAt.shaped, PyData.canLay0, PyData.depth, lay_ints, depth_ints]
theorem eqvAll_ints : ∀ ns ms : List Int, PyData.eqvAll (ns.map PyData.int) (ms.map PyData.int) = decide (ns = ms)
  | [], [] => by simp [PyData.eqvAll]
  | [], _ :: _ => by simp [PyData.eqvAll]
  | _ :: _, [] => by simp [PyData.eqvAll]
  | n :: ns, m :: ms => by
    rw [List.map_cons, List.map_cons, PyData.eqvAll, eqv_int, eqvAll_ints ns ms]
    by_cases h : n = m <;> by_cases h2 : ns = ms <;> simp [h, h2]
theorem eqv_tI (ns ms : List Int) : PyData.eqv (tI ns) (tI ms) = decide (ns = ms) := by
  rw [PyData.eqv]
  exact eqvAll_ints ns ms
theorem eqv_none : PyData.eqv .none .none = true := by rw [PyData.eqv]
theorem eqv_int_none (i : Int) : PyData.eqv (.int i) .none = false := by rw [PyData.eqv]
theorem eqv_none_int (i : Int) : PyData.eqv .none (.int i) = false := by rw [PyData.eqv]
theorem eqv_none_tup (ds : List D) : PyData.eqv .none (.tuple ds) = false := by rw [PyData.eqv]
theorem eqv_tup_none (ds : List D) : PyData.eqv (.tuple ds) .none = false := by rw [PyData.eqv]
theorem eqv_bool (a b : Bool) : PyData.eqv (.bool a) (.bool b) = (a == b) := by rw [PyData.eqv]
theorem shaped_oD (o : Option Int) : SeqAt.shaped (oD o) = true := by
  cases o
  · exact shaped_none
  · exact shaped_int _
theorem eqv_oD (a b : Option Int) : PyData.eqv (oD a) (oD b) = decide (a = b) := by
  cases a <;> cases b
  · simp [oD, eqv_none]
  · simp [oD, eqv_none_int]
  · simp [oD, eqv_int_none]
  · simp [oD, eqv_int]
theorem cut_to (xs : List D) (j : Nat) : cutD xs none (some (j : Int)) = xs.take j := by
  unfold cutD
  rw [HT.sIx_none, HT.sIx_nat, List.drop_zero, Nat.sub_zero]
  apply List.ext_getElem?
  intro i
  rw [List.getElem?_take, List.getElem?_take]
  by_cases h : i < xs.length
  · by_cases h2 : i < j
    · rw [if_pos (by omega), if_pos h2]
    · rw [if_neg (by omega), if_neg h2]
  · rw [List.getElem?_eq_none (by omega)]
    split <;> split <;> rfl
theorem cut_from (xs : List D) (j : Nat) : cutD xs (some (j : Int)) none = xs.drop j := by
  unfold cutD
  rw [HT.sIx_none, HT.sIx_nat]
  by_cases h : j ≤ xs.length
  · rw [Nat.min_eq_left h]
    exact List.take_of_length_le (by rw [List.length_drop]; omega)
  · rw [Nat.min_eq_right (by omega), Nat.sub_self, List.take_zero, List.drop_of_length_le (by omega)]
theorem set_mid {α : Type} {xs : List α} {j : Nat} (y : α) (h : j < xs.length) : xs.take j ++ ([y] ++ xs.drop (j + 1)) = xs.set j y := by
  rw [List.set_eq_take_append_cons_drop, if_pos h]
  rfl
/-! ### what laws do with draws -/
theorem pick2 {a b : D} {P : D → Prop} {i : Int} (h0 : 0 ≤ i) (h1 : i < 2) (ha : P a) (hb : P b) : ∃ x, atI [a, b] i = some x ∧ P x := by
  have hr : i = 0 ∨ i = 1 := by omega
  rcases hr with rfl | rfl
  · exact ⟨_, atI_nat (j := 0) rfl, ha⟩
  · exact ⟨_, atI_nat (j := 1) rfl, hb⟩
theorem pick3 {a b c : D} {P : D → Prop} {i : Int} (h0 : 0 ≤ i) (h1 : i < 3) (ha : P a) (hb : P b) (hc : P c) : ∃ x, atI [a, b, c] i = some x ∧ P x := by
  have hr : i = 0 ∨ i = 1 ∨ i = 2 := by omega
  rcases hr with rfl | rfl | rfl
  · exact ⟨_, atI_nat (j := 0) rfl, ha⟩
  · exact ⟨_, atI_nat (j := 1) rfl, hb⟩
  · exact ⟨_, atI_nat (j := 2) rfl, hc⟩
theorem take_mk {m : Int} {post : D → Prop} (hm : 0 < m) (h : ∀ r : Int, 0 ≤ r → r < m → post (.int r)) : wf_law_take [bagD, .int m] post := ⟨m, rfl, hm, h⟩
theorem far_mk {m : Int} {post : D → Prop} (hm : 0 < m) (h : ∀ r : Int, 0 ≤ r → r < m → post (.int r)) : wf_law_far_draw [bagD, .int m] post := ⟨m, rfl, hm, h⟩
theorem kinds_mk {far : Int} {post : D → Prop} (h2 : 2 ≤ far) (h20 : far ≤ 20) (h : ∀ cs, CardsOk cs → post (tI cs)) : wf_law_kinds [bagD, .int far] post :=
  ⟨far, rfl, h2, fun cs h1 h3 hc => h cs ⟨h1, h3, fun c m => by have := hc c m; omega⟩⟩
theorem had_mk {cs : List Int} {far : Int} {post : D → Prop} (hc : CardsOk cs) (hf : 0 ≤ far) (h2 : far ≤ 10 ^ 18) (h : ∀ r ss, PurseOk cs r ss → r ≤ far → (∀ s ∈ ss, s ≤ far) → post (pD r ss)) : wf_law_had [bagD, tI cs, .int far] post :=
  ⟨cs, far, rfl, hc.2.1, hf, fun r ss h0 h1 hl hs => h r ss ⟨⟨h0, by omega⟩, hl, fun s m => by have := hs s m; omega⟩ h1 fun s m => (hs s m).2⟩
theorem bags_mk {ns : List Int} {lim : Int} {post : D → Prop} (h1 : 1 ≤ lim) (h2 : lim ≤ 20) (h : ∀ n : Nat, post (.list (List.replicate n bagD))) : wf_law_bags [scrD ns, .int lim] post := ⟨ns, lim, rfl, ⟨h1, h2⟩, fun n _ => h n⟩
theorem all_mk' {cs ss : List Int} {r : Int} {post : D → Prop} (hc : CardsOk cs) (hp : PurseOk cs r ss) (h : ∀ o, IsAll cs ss r o → post (oD o)) : wf_all_rides [tI cs, pD r ss] post := ⟨cs, r, ss, rfl, hc, hp, h⟩
theorem left_mk {cs ss : List Int} {r : Int} {post : D → Prop} (hc : CardsOk cs) (hp : PurseOk cs r ss) (h : ∀ o, IsAll cs ss r o → post (leftD cs ss o)) : wf_left [tI cs, pD r ss] post := ⟨cs, r, ss, rfl, hc, hp, h⟩
theorem eq_mk {x y : X} {post : X → Prop} {neg : Bool} (hx : SeqAt.shaped x.dat = true) (hy : SeqAt.shaped y.dat = true) (h : post (.fr (.bool (if neg then !PyData.eqv x.dat y.dat else PyData.eqv x.dat y.dat)))) : wEq neg x y post := ⟨hx, hy, h⟩
theorem at_ints {ns : List Int} {j : Nat} (h : j < ns.length) : atI (ns.map PyData.int) (j : Int) = some (.int ns[j]) := by
  refine atI_nat ?_
  rw [List.getElem?_map, List.getElem?_eq_getElem h]
  rfl
theorem isN_oD (o : Option Int) : dIsN (oD o) = o.isNone := by cases o <;> rfl
theorem isN_leftD (cs ss : List Int) (o : Option Int) : dIsN (leftD cs ss o) = o.isNone := by cases o <;> rfl
end DL

/-! More rides, more stamps, greater cards. -/
namespace FR
/-- whether a number is no fewer than another one; none is without end -/
def noFewer : Option Int → Option Int → Bool
  | none, _ => true
  | some _, none => false
  | some a, some b => decide (b ≤ a)
theorem noFewer_of {cs ss ds ts : List Int} {r q : Int} (h : ∀ n, 0 ≤ n → paidF cs ss r n ≤ paidF ds ts q n) : ∀ {o p : Option Int}, IsAll cs ss r o → IsAll ds ts q p → noFewer p o = true
  | _, none, _, _ => rfl
  | none, some t, g, ⟨h0, h1, _⟩ => by
    have := g t h0
    have := h t h0
    omega
  | some u, some t, ⟨_, _, g⟩, ⟨h0, h1, _⟩ => by
    have := g t h0 (by have := h t h0; omega)
    exact decide_eq_true this
theorem paid_more_r (cs ss : List Int) (r q n : Int) (h : r ≤ q) : paidF cs ss r n ≤ paidF cs ss q n := by
  rw [paid_r cs ss r, paid_r cs ss q]
  omega
theorem paid_more_s {n : Int} : ∀ {cs : List Int} (hc : ∀ c ∈ cs, 0 < c) {ss : List Int} {r s : Int} {j : Nat}, ss[j]? = some s → paidF cs ss r n ≤ paidF cs (ss.set j (s + 1)) r n
  | [], _, ss, r, s, j, _ => by rw [paid_nil, paid_nil]; exact Int.le_refl _
  | c :: cs, hc, [], r, s, j, h => by simp at h
  | c :: cs, hc, t :: ss, r, s, 0, h => by
    have e : t = s := by simpa using h
    subst e
    rw [List.set_cons_zero, paid_cons, paid_cons]
    have := Int.ediv_le_ediv (hc c List.mem_cons_self) (show t + n ≤ t + 1 + n by omega)
    omega
  | c :: cs, hc, t :: ss, r, s, j + 1, h => by
    rw [List.set_cons_succ, paid_cons, paid_cons]
    have := paid_more_s (n := n) (cs := cs) (fun d m => hc d (List.mem_cons_of_mem _ m)) (ss := ss) (r := r) (s := s) (j := j) (by simpa using h)
    omega
theorem div_anti {a c d : Int} (ha : 0 ≤ a) (hc : 0 < c) (h : c ≤ d) : a / d ≤ a / c := by
  have h1 : (a / d) * d ≤ a := Int.ediv_mul_le a (by omega)
  have h0 : 0 ≤ a / d := Int.ediv_nonneg ha (by omega)
  have h2 : (a / d) * c ≤ (a / d) * d := Int.mul_le_mul_of_nonneg_left h h0
  exact Int.le_ediv_of_mul_le hc (by omega)
theorem paid_greater {n : Int} (hn : 0 ≤ n) : ∀ {cs : List Int} (hc : ∀ c ∈ cs, 0 < c) {ss : List Int} (hs : ∀ s ∈ ss, 0 ≤ s) {r c d : Int} {j : Nat}, cs[j]? = some c → c ≤ d → paidF (cs.set j d) ss r n ≤ paidF cs ss r n
  | [], _, ss, _, r, c, d, j, h, _ => by simp at h
  | b :: cs, hc, [], _, r, c, d, j, h, _ => by
    cases j <;> simp [paidF]
  | b :: cs, hc, t :: ss, hs, r, c, d, 0, h, hd => by
    have e : b = c := by simpa using h
    subst e
    rw [List.set_cons_zero, paid_cons, paid_cons]
    have := div_anti (show 0 ≤ t + n by have := hs t List.mem_cons_self; omega) (hc b List.mem_cons_self) hd
    omega
  | b :: cs, hc, t :: ss, hs, r, c, d, j + 1, h, hd => by
    rw [List.set_cons_succ, paid_cons, paid_cons]
    have := paid_greater (n := n) hn (cs := cs) (fun d m => hc d (List.mem_cons_of_mem _ m)) (ss := ss) (fun d m => hs d (List.mem_cons_of_mem _ m)) (r := r) (j := j) (by simpa using h) hd
    omega
end FR

/-! Deed by deed: whatever is done first. -/
namespace FR
theorem left_nil (ss : List Int) (n : Int) : leftF [] ss n = [] := by
  unfold leftF
  rw [List.zip_nil_right]
  rfl
theorem left_cons (c s : Int) (cs ss : List Int) (n : Int) : leftF (c :: cs) (s :: ss) n = (s + n) % c :: leftF cs ss n := rfl
theorem paid_ride (cs : List Int) : ∀ (ss : List Int) (r k : Int), paidF cs (ss.map (· + 1)) r k = paidF cs ss r (k + 1) := by
  induction cs with
  | nil => intro ss r k; rw [paid_nil, paid_nil]
  | cons c cs ih =>
    intro ss r k
    cases ss with
    | nil => simp [paidF]
    | cons s ss =>
      rw [List.map_cons, paid_cons, paid_cons, ih, show s + 1 + k = s + (k + 1) by omega]
theorem left_ride (cs : List Int) : ∀ (ss : List Int) (k : Int), leftF cs (ss.map (· + 1)) k = leftF cs ss (k + 1) := by
  induction cs with
  | nil => intro ss k; rw [left_nil, left_nil]
  | cons c cs ih =>
    intro ss k
    cases ss with
    | nil => rfl
    | cons s ss => rw [List.map_cons, left_cons, left_cons, ih, show s + 1 + k = s + (k + 1) by omega]
theorem paid_give : ∀ {cs ss : List Int} {j : Nat} {c s : Int}, 0 < c → cs[j]? = some c → ss[j]? = some s → ∀ r k : Int, paidF cs (ss.set j (s - c)) (r + 1) k = paidF cs ss r k
  | [], ss, j, c, s, _, h, _, r, k => by simp at h
  | b :: cs, [], j, c, s, _, _, h, r, k => by simp at h
  | b :: cs, t :: ss, 0, c, s, h0, h, g, r, k => by
    have e : b = c := by simpa using h
    have e2 : t = s := by simpa using g
    subst e e2
    rw [List.set_cons_zero, paid_cons, paid_cons, show t - b + k = (t + k) + (-1) * b by omega, Int.add_mul_ediv_right _ _ (by omega), paid_r cs ss (r + 1), paid_r cs ss r]
    omega
  | b :: cs, t :: ss, j + 1, c, s, h0, h, g, r, k => by
    rw [List.set_cons_succ, paid_cons, paid_cons, paid_give (cs := cs) (ss := ss) h0 (by simpa using h) (by simpa using g) r k]
theorem left_give : ∀ {cs ss : List Int} {j : Nat} {c s : Int}, cs[j]? = some c → ss[j]? = some s → ∀ k : Int, leftF cs (ss.set j (s - c)) k = leftF cs ss k
  | [], ss, j, c, s, h, _, k => by simp at h
  | b :: cs, [], j, c, s, _, h, k => by simp at h
  | b :: cs, t :: ss, 0, c, s, h, g, k => by
    have e : b = c := by simpa using h
    have e2 : t = s := by simpa using g
    subst e e2
    rw [List.set_cons_zero, left_cons, left_cons, show t - b + k = (t + k) + (-1) * b by omega, Int.add_mul_emod_self_right]
  | b :: cs, t :: ss, j + 1, c, s, h, g, k => by
    rw [List.set_cons_succ, left_cons, left_cons, left_give (cs := cs) (ss := ss) (by simpa using h) (by simpa using g) k]
/-- no full card -/
def NoFull (cs ss : List Int) : Prop := ∀ (j : Nat) (c s : Int), cs[j]? = some c → ss[j]? = some s → s < c
theorem NoFull.tail {c s : Int} {cs ss : List Int} (h : NoFull (c :: cs) (s :: ss)) : NoFull cs ss := fun j d t a b => h (j + 1) d t (by simpa using a) (by simpa using b)
theorem paid_end : ∀ {cs ss : List Int}, (∀ s ∈ ss, 0 ≤ s) → NoFull cs ss → ∀ r : Int, paidF cs ss r 0 = r
  | [], ss, _, _, r => paid_nil ss r 0
  | b :: cs, [], _, _, r => by simp [paidF]
  | b :: cs, t :: ss, h0, h, r => by
    rw [paid_cons, paid_end (fun s m => h0 s (List.mem_cons_of_mem _ m)) h.tail r, Int.add_zero, Int.ediv_eq_zero_of_lt (h0 t List.mem_cons_self) (h 0 b t rfl rfl)]
    omega
theorem left_end : ∀ {cs ss : List Int}, ss.length = cs.length → (∀ s ∈ ss, 0 ≤ s) → NoFull cs ss → leftF cs ss 0 = ss
  | [], [], _, _, _ => rfl
  | [], _ :: _, hl, _, _ => by cases hl
  | b :: cs, [], hl, _, _ => by cases hl
  | b :: cs, t :: ss, hl, h0, h => by
    rw [left_cons, left_end (by simpa using hl) (fun s m => h0 s (List.mem_cons_of_mem _ m)) h.tail, Int.add_zero, Int.emod_eq_of_lt (h0 t List.mem_cons_self) (h 0 b t rfl rfl)]
/-- behind n rides, and full cards given -/
structure Sim (cs ss0 : List Int) (r0 n r : Int) (ss : List Int) : Prop where
  n0 : 0 ≤ n
  rn : 0 ≤ r
  len : ss.length = cs.length
  s0 : ∀ s ∈ ss, 0 ≤ s
  pd : ∀ k, paidF cs ss r k + n = paidF cs ss0 r0 (n + k)
  lf : ∀ k, leftF cs ss k = leftF cs ss0 (n + k)
  be : ∀ m, 0 ≤ m → m < n → m < paidF cs ss0 r0 m
section
variable {cs ss0 ss : List Int} {r0 n r : Int}
theorem Sim.start (hr : 0 ≤ r0) (hl : ss0.length = cs.length) (hs : ∀ s ∈ ss0, 0 ≤ s) : Sim cs ss0 r0 0 r0 ss0 :=
  ⟨Int.le_refl _, hr, hl, hs, fun k => by rw [Int.zero_add, Int.add_zero], fun k => by rw [Int.zero_add], fun m a b => by omega⟩
theorem Sim.ride (hc : ∀ c ∈ cs, 0 < c) (h : Sim cs ss0 r0 n r ss) (hr : 0 < r) : Sim cs ss0 r0 (n + 1) (r - 1) (ss.map (· + 1)) := by
  refine ⟨by have := h.n0; omega, by omega, by rw [List.length_map]; exact h.len, fun s m => ?_, fun k => ?_, fun k => ?_, fun m a b => ?_⟩
  · obtain ⟨t, g, rfl⟩ := List.mem_map.mp m
    have := h.s0 t g
    omega
  · have := h.pd (k + 1)
    rw [paid_ride, paid_r, show n + 1 + k = n + (k + 1) by omega, ← this, paid_r cs ss r]
    omega
  · rw [left_ride, h.lf, show n + 1 + k = n + (k + 1) by omega]
  · by_cases e : m = n
    · subst e
      have h1 := h.pd 0
      rw [Int.add_zero] at h1
      have h2 := paid_nonneg hc (r := r) h.s0 (Int.le_refl 0)
      omega
    · exact h.be m a (by omega)
theorem Sim.give (hc : ∀ c ∈ cs, 0 < c) (h : Sim cs ss0 r0 n r ss) {j : Nat} {c s : Int} (hj : cs[j]? = some c) (hs : ss[j]? = some s) (hf : c ≤ s) : Sim cs ss0 r0 n (r + 1) (ss.set j (s - c)) := by
  have c0 := hc c (List.mem_of_getElem? hj)
  refine ⟨h.n0, by have := h.rn; omega, by rw [List.length_set]; exact h.len, fun t m => ?_, fun k => ?_, fun k => ?_, h.be⟩
  · rcases List.mem_or_eq_of_mem_set m with m | rfl
    · exact h.s0 t m
    · omega
  · rw [paid_give c0 hj hs]
    exact h.pd k
  · rw [left_give hj hs]
    exact h.lf k
/-- nothing is left -/
theorem Sim.stop (h : Sim cs ss0 r0 n r ss) (hr : r = 0) (hf : NoFull cs ss) : IsAll cs ss0 r0 (some n) ∧ ss = leftF cs ss0 n := by
  have h1 := h.pd 0
  rw [paid_end h.s0 hf, Int.add_zero, hr, Int.zero_add] at h1
  have h2 := h.lf 0
  rw [left_end h.len h.s0 hf, Int.add_zero] at h2
  refine ⟨⟨h.n0, h1.symm, fun m a b => ?_⟩, h2⟩
  refine Int.not_lt.mp fun c => ?_
  have := h.be m a c
  omega
/-- one has more than so many -/
theorem Sim.far (h : Sim cs ss0 r0 n r ss) {o : Option Int} (ho : IsAll cs ss0 r0 o) : ∀ t, o = some t → n ≤ t := by
  rintro t rfl
  refine Int.not_lt.mp fun c => ?_
  have := h.be t ho.1 c
  have := ho.2.1
  omega
end
/-! ### how many at the most -/
theorem gain_cons (c : Int) (cs : List Int) (L : Int) : gain (c :: cs) L = L / c + gain cs L := by
  unfold gain
  rw [List.map_cons, List.sum_cons]
theorem paid_mul {L : Int} (hL : 0 ≤ L) {n : Int} (hn : 0 ≤ n) {cs : List Int} : ∀ {ss : List Int} {r M : Int}, (∀ c ∈ cs, 2 ≤ c) → (∀ c ∈ cs, c ∣ L) → (∀ s ∈ ss, 0 ≤ s ∧ s ≤ M) → 0 ≤ M → 2 * (L * paidF cs ss r n) ≤ 2 * (L * r) + L * (M * cs.length) + 2 * (n * gain cs L) := by
  induction cs with
  | nil =>
    intro ss r M _ _ _ hM
    rw [paid_nil]
    simp [gain]
  | cons c cs ih =>
    intro ss r M hc hd hs hM
    have c2 := hc c List.mem_cons_self
    obtain ⟨k, hk⟩ := hd c List.mem_cons_self
    have k0 : 0 ≤ k := by
      by_cases h : k < 0
      · have : c * k < 0 := Int.mul_neg_of_pos_of_neg (by omega) h
        omega
      · omega
    have e2 : L / c = k := by
      rw [hk, Int.mul_ediv_cancel_left _ (by omega)]
    have hck : 2 * k ≤ L := by
      rw [hk]
      exact Int.mul_le_mul_of_nonneg_right c2 k0
    cases ss with
    | nil =>
      have e : paidF (c :: cs) [] r n = r := by simp [paidF]
      rw [e]
      have h1 : 0 ≤ gain (c :: cs) L := by
        have : ∀ ds : List Int, (∀ d ∈ ds, 2 ≤ d) → 0 ≤ gain ds L := by
          intro ds
          induction ds with
          | nil => intro _; simp [gain]
          | cons d ds ih =>
            intro h
            rw [gain_cons]
            have := ih fun e m => h e (List.mem_cons_of_mem _ m)
            have := Int.ediv_nonneg hL (show 0 ≤ d by have := h d List.mem_cons_self; omega)
            omega
        exact this _ hc
      have h2 : 0 ≤ n * gain (c :: cs) L := Int.mul_nonneg hn h1
      have h3 : 0 ≤ L * (M * ((c :: cs).length : Int)) := Int.mul_nonneg hL (Int.mul_nonneg hM (by omega))
      omega
    | cons s ss =>
      have s0 := hs s List.mem_cons_self
      have ih := ih (ss := ss) (r := r) (M := M) (fun d m => hc d (List.mem_cons_of_mem _ m)) (fun d m => hd d (List.mem_cons_of_mem _ m)) (fun d m => hs d (List.mem_cons_of_mem _ m)) hM
      have h1 : L * ((s + n) / c) ≤ (s + n) * k := by
        have : (s + n) / c * c ≤ s + n := Int.ediv_mul_le _ (by omega)
        have h := Int.mul_le_mul_of_nonneg_right this k0
        have e : L * ((s + n) / c) = (s + n) / c * c * k := by
          rw [hk, Int.mul_comm, Int.mul_assoc]
        omega
      have h2 : 2 * (s * k) ≤ L * M := by
        have a1 : s * k ≤ M * k := Int.mul_le_mul_of_nonneg_right s0.2 k0
        have a2 : M * (2 * k) ≤ M * L := Int.mul_le_mul_of_nonneg_left hck hM
        rw [Int.mul_comm L M]
        have a3 : M * (2 * k) = 2 * (M * k) := by rw [Int.mul_left_comm]
        omega
      rw [paid_cons, gain_cons, e2, Int.mul_add L, Int.mul_add n]
      have e3 : L * (M * ((c :: cs).length : Int)) = L * M + L * (M * (cs.length : Int)) := by
        rw [List.length_cons, Int.natCast_add, Int.mul_add, Int.mul_add]
        simp
        omega
      rw [Int.add_mul] at h1
      rw [e3]
      omega
end FR

/-! How many rides at the most. -/
namespace FR
def CardsIn (cs : List Int) : Prop := 1 ≤ cs.length ∧ cs.length ≤ 3 ∧ ∀ c ∈ cs, 2 ≤ c ∧ c ≤ 20
def rng20 : List Int := (List.range 19).map fun n : Nat => (n : Int) + 2
theorem mem_rng20 {c : Int} (h : 2 ≤ c ∧ c ≤ 20) : c ∈ rng20 := by
  unfold rng20
  rw [List.mem_map]
  exact ⟨(c - 2).toNat, by rw [List.mem_range]; omega, by omega⟩
/-- what holds of each of the written cards holds of all -/
theorem cards_by {P : List Int → Bool} (h1 : (rng20.all fun a => P [a]) = true) (h2 : (rng20.all fun a => rng20.all fun b => P [a, b]) = true) (h3 : (rng20.all fun a => rng20.all fun b => rng20.all fun c => P [a, b, c]) = true) {cs : List Int} (h : CardsIn cs) : P cs = true := by
  obtain ⟨l1, l3, hc⟩ := h
  match cs, l1, l3, hc with
  | [a], _, _, hc => exact List.all_eq_true.mp h1 a (mem_rng20 (hc a (by simp)))
  | [a, b], _, _, hc => exact List.all_eq_true.mp (List.all_eq_true.mp h2 a (mem_rng20 (hc a (by simp)))) b (mem_rng20 (hc b (by simp)))
  | [a, b, c], _, _, hc => exact List.all_eq_true.mp (List.all_eq_true.mp (List.all_eq_true.mp h3 a (mem_rng20 (hc a (by simp)))) b (mem_rng20 (hc b (by simp)))) c (mem_rng20 (hc c (by simp)))
def gapOk (cs : List Int) : Bool := !decide (wears cs) || decide (42 * gain cs (per cs) ≤ 41 * (per cs : Int))
theorem gap1 : (rng20.all fun a => gapOk [a]) = true := by decide +kernel
theorem gap2 : (rng20.all fun a => rng20.all fun b => gapOk [a, b]) = true := by decide +kernel
theorem gap3 : (rng20.all fun a => rng20.all fun b => rng20.all fun c => gapOk [a, b, c]) = true := by decide +kernel
theorem gap {cs : List Int} (h : CardsIn cs) (hw : wears cs) : 42 * gain cs (per cs) ≤ 41 * (per cs : Int) := by
  have := cards_by gap1 gap2 gap3 h
  unfold gapOk at this
  rw [decide_eq_true hw, Bool.not_true, Bool.false_or] at this
  exact of_decide_eq_true this
theorem most_wears {cs ss : List Int} {r t M : Int} (h : CardsIn cs) (hw : wears cs) (hs : ∀ s ∈ ss, 0 ≤ s ∧ s ≤ M) (hM : 0 ≤ M) (ht : IsAll cs ss r (some t)) : t ≤ 42 * r + 63 * M := by
  have hp := per_pos (cs := cs) fun c m => by have := h.2.2 c m; omega
  have hd := per_dvd (cs := cs) fun c m => by have := h.2.2 c m; omega
  have hg := gap h hw
  have hm := paid_mul (L := per cs) (by omega) (n := t) ht.1 (cs := cs) (ss := ss) (r := r) (M := M) (fun c m => (h.2.2 c m).1) hd hs hM
  rw [ht.2.1] at hm
  generalize hL : (per cs : Int) = L at *
  have h1 : t * (42 * gain cs L) ≤ t * (41 * L) := Int.mul_le_mul_of_nonneg_left hg ht.1
  have h2 : L * (M * (cs.length : Int)) ≤ L * (M * 3) := Int.mul_le_mul_of_nonneg_left (Int.mul_le_mul_of_nonneg_left (by have := h.2.1; omega) hM) (by omega)
  have e1 : t * (42 * gain cs L) = 42 * (t * gain cs L) := by rw [Int.mul_left_comm]
  have e2 : t * (41 * L) = 41 * (L * t) := by rw [Int.mul_left_comm, Int.mul_comm t]
  have e3 : L * (M * 3) = 3 * (L * M) := by rw [← Int.mul_assoc, Int.mul_comm]
  have h3 : L * (2 * t) ≤ L * (84 * r + 126 * M) := by
    have e4 : L * (84 * r + 126 * M) = 84 * (L * r) + 126 * (L * M) := by rw [Int.mul_add, Int.mul_left_comm, Int.mul_left_comm L 126]
    have e5 : L * (2 * t) = 2 * (L * t) := Int.mul_left_comm _ _ _
    omega
  have := Int.le_of_mul_le_mul_left h3 (by omega)
  omega
theorem most_not {cs ss : List Int} {r t : Int} (hc : ∀ c ∈ cs, 0 < c) (hl : ss.length = cs.length) (hw : ¬ wears cs) (ht : IsAll cs ss r (some t)) : t < per cs := by
  refine Int.not_le.mp fun c => ?_
  have := first_per hc hl hw (r := r) (fun n a b => by
    refine Int.not_le.mp fun d => ?_
    have := ht.2.2 n a d
    omega) t ht.1
  have := ht.2.1
  omega
/-! ### the least rides to begin with -/
/-- so many rides are had, or more -/
def Has (cs ss : List Int) (r n : Int) : Prop := ∀ m, 0 ≤ m → m < n → m < paidF cs ss r m
theorem has_all {cs ss : List Int} {r n : Int} {o : Option Int} (ho : IsAll cs ss r o) : Has cs ss r n ↔ ∀ t, o = some t → n ≤ t := by
  cases o with
  | none => exact ⟨fun _ t h => (nomatch h), fun _ m a _ => ho m a⟩
  | some t =>
    constructor
    · intro h u e
      cases e
      refine Int.not_lt.mp fun c => ?_
      have := h t ho.1 c
      have := ho.2.1
      omega
    · intro h m a b
      have := h t rfl
      refine Int.not_le.mp fun d => ?_
      have := ho.2.2 m a d
      omega
/-- the least rides to begin with so that one has so many -/
def IsWant (cs ss : List Int) (n w : Int) : Prop := 0 ≤ w ∧ ∀ r, 0 ≤ r → (w ≤ r ↔ Has cs ss r n)
theorem IsWant.uniq {cs ss : List Int} {n w v : Int} (h : IsWant cs ss n w) (g : IsWant cs ss n v) : w = v := by
  have h1 := (h.2 v g.1).mpr ((g.2 v g.1).mp (Int.le_refl _))
  have h2 := (g.2 w h.1).mpr ((h.2 w h.1).mp (Int.le_refl _))
  omega
theorem want_all {cs ss : List Int} {n : Int} (hn : 0 ≤ n) : IsWant cs ss n (wantF cs ss 0 n.toNat) := by
  refine ⟨want_nonneg _ _ _ _, fun r hr => ?_⟩
  rw [want_le]
  constructor
  · intro h m a b
    exact h.2 m a (by omega)
  · intro h
    exact ⟨hr, fun m a b => h m a (by omega)⟩
theorem IsWant.le {cs ss : List Int} {n w : Int} (hc : ∀ c ∈ cs, 0 < c) (hs : ∀ s ∈ ss, 0 ≤ s) (hn : 0 ≤ n) (h : IsWant cs ss n w) : w ≤ n := by
  refine (h.2 n hn).mpr fun m a b => ?_
  have := paid_nonneg hc (r := n) hs a
  omega
theorem IsWant.mono {cs ss : List Int} {n m w v : Int} (h : IsWant cs ss n w) (g : IsWant cs ss m v) (hn : n ≤ m) : w ≤ v :=
  (h.2 v g.1).mpr fun k a b => (g.2 v g.1).mp (Int.le_refl _) k a (by omega)
/-- by one with fewer, not so many -/
theorem IsWant.fewer {cs ss : List Int} {n w r : Int} (h : IsWant cs ss n w) (hr : 0 ≤ r) (hw : r < w) {o : Option Int} (ho : IsAll cs ss r o) : ∃ t, o = some t ∧ t < n := by
  refine Classical.byContradiction fun c => ?_
  have h1 : Has cs ss r n := (has_all ho).mpr fun t e => by
    refine Int.not_lt.mp fun d => c ⟨t, e, d⟩
  have := (h.2 r hr).mpr h1
  omega
theorem IsWant.enough {cs ss : List Int} {n w r : Int} (h : IsWant cs ss n w) (hw : w ≤ r) {o : Option Int} (ho : IsAll cs ss r o) : ∀ t, o = some t → n ≤ t :=
  (has_all ho).mp ((h.2 r (by have := h.1; omega)).mp hw)
section
variable {cs ss : List Int}
/-- by the last period, where it wears off -/
theorem want_last (hc : ∀ c ∈ cs, 0 < c) (hl : ss.length = cs.length) (hw : wears cs) {n : Int} (hn : 0 ≤ n) : IsWant cs ss n (wantF cs ss (n - min n (per cs)) (min n (per cs)).toNat) := by
  refine ⟨want_nonneg _ _ _ _, fun r hr => ?_⟩
  have hL := per_pos hc
  rw [want_le]
  constructor
  · rintro ⟨_, h⟩ m a b
    by_cases hnl : n ≤ per cs
    · rw [Int.min_eq_left hnl] at h
      exact h m (by omega) (by omega)
    rw [Int.min_eq_right (by omega)] at h
    -- lifted into the last period
    have hq : 0 ≤ (n - 1 - m) / per cs := Int.ediv_nonneg (by omega) (by omega)
    have hp := paid_pers hc (per_dvd hc) (r := r) hl m ((n - 1 - m) / per cs).toNat
    rw [Int.toNat_of_nonneg hq] at hp
    have e := Int.emod_add_mul_ediv (n - 1 - m) (per cs)
    have e0 := Int.emod_nonneg (n - 1 - m) (show (per cs : Int) ≠ 0 by omega)
    have e1 := Int.emod_lt_of_pos (n - 1 - m) (show (0 : Int) < per cs by omega)
    rw [Int.mul_comm] at e
    have h1 := h (m + (n - 1 - m) / per cs * per cs) (by omega) (by omega)
    have hg : gain cs (per cs) ≤ per cs := by
      have : gain cs (per cs) < per cs := hw
      omega
    have := Int.mul_le_mul_of_nonneg_left hg hq
    omega
  · intro h
    exact ⟨hr, fun m a b => h m (by omega) (by omega)⟩
/-- by the first period, where it doesn't -/
theorem want_first (hc : ∀ c ∈ cs, 0 < c) (hl : ss.length = cs.length) (hw : ¬ wears cs) {n : Int} (hn : 0 ≤ n) : IsWant cs ss n (wantF cs ss 0 (min n (per cs)).toNat) := by
  refine ⟨want_nonneg _ _ _ _, fun r hr => ?_⟩
  have hL := per_pos hc
  rw [want_le]
  constructor
  · rintro ⟨_, h⟩ m a b
    by_cases hnl : n ≤ per cs
    · rw [Int.min_eq_left hnl] at h
      exact h m (by omega) (by omega)
    rw [Int.min_eq_right (by omega)] at h
    exact first_per hc hl hw (fun k x y => h k x (by omega)) m a
  · intro h
    exact ⟨hr, fun m a b => h m (by omega) (by omega)⟩
/-- the least rides so that it never ends -/
theorem want_endless (hc : ∀ c ∈ cs, 0 < c) (hl : ss.length = cs.length) (hw : ¬ wears cs) {r : Int} (hr : 0 ≤ r) : wantF cs ss 0 (per cs) ≤ r ↔ IsAll cs ss r none := by
  rw [want_le]
  constructor
  · rintro ⟨_, h⟩ m a
    exact first_per hc hl hw (fun k x y => h k x (by omega)) m a
  · intro h
    exact ⟨hr, fun m a b => h m a⟩
theorem want_per_le (hc : ∀ c ∈ cs, 0 < c) (hs : ∀ s ∈ ss, 0 ≤ s) : wantF cs ss 0 (per cs) ≤ per cs := by
  have := (want_all (cs := cs) (ss := ss) (n := per cs) (by omega)).le hc hs (by omega)
  simpa using this
theorem wears_ends (hc : ∀ c ∈ cs, 0 < c) (hl : ss.length = cs.length) (hs : ∀ s ∈ ss, 0 ≤ s) {r : Int} (hr : 0 ≤ r) (hw : wears cs) : ¬ IsAll cs ss r none := by
  obtain ⟨n, h0, h1⟩ := ends_of_wears (r := r) hc hl (by have := paid_nonneg hc (r := r) hs (Int.le_refl 0); omega) hw
  intro h
  have := h n h0
  omega
end
theorem gain_nonneg {L : Int} (hL : 0 ≤ L) : ∀ {cs : List Int}, (∀ c ∈ cs, 0 < c) → 0 ≤ gain cs L
  | [], _ => by simp [gain]
  | c :: cs, h => by
    rw [gain_cons]
    have := gain_nonneg hL (cs := cs) fun d m => h d (List.mem_cons_of_mem _ m)
    have := Int.ediv_nonneg hL (show 0 ≤ c by have := h c List.mem_cons_self; omega)
    omega
/-! ### the greatest -/
/-- the greatest number that one can have -/
def IsGreat (cs ss : List Int) (r g : Int) : Prop := 0 ≤ g ∧ paidF cs ss r g = g ∧ ∀ n, 0 ≤ n → n ≤ paidF cs ss r n → n ≤ g
theorem paid_top {L : Int} (hL : 0 < L) {n : Int} (hn : 0 ≤ n) {cs : List Int} : ∀ {ss : List Int} {r : Int}, (∀ c ∈ cs, 0 < c) → (∀ c ∈ cs, c ∣ L) → ss.length = cs.length → (∀ s ∈ ss, 0 ≤ s) → L * paidF cs ss r n ≤ L * (paidF cs ss r 0 + cs.length) + n * gain cs L := by
  induction cs with
  | nil =>
    intro ss r _ _ _ _
    rw [paid_nil, paid_nil]
    simp [gain]
  | cons c cs ih =>
    intro ss r hc hd hl hs
    cases ss with
    | nil => cases hl
    | cons s ss =>
      have c0 := hc c List.mem_cons_self
      obtain ⟨k, hk⟩ := hd c List.mem_cons_self
      have e2 : L / c = k := by
        rw [hk, Int.mul_ediv_cancel_left _ (by omega)]
      have ih := ih (ss := ss) (r := r) (fun d m => hc d (List.mem_cons_of_mem _ m)) (fun d m => hd d (List.mem_cons_of_mem _ m)) (by simpa using hl) (fun d m => hs d (List.mem_cons_of_mem _ m))
      have k0 : 0 ≤ k := by
        by_cases h : k < 0
        · have : c * k < 0 := Int.mul_neg_of_pos_of_neg (by omega) h
          omega
        · omega
      -- (s + n) / c ≤ s / c + 1 + n / c, times L
      have h1 : L * ((s + n) / c) ≤ L * (s / c + 1) + n * k := by
        have a1 : (s + n) / c * c ≤ s + n := Int.ediv_mul_le _ (by omega)
        have a2 : s < (s / c + 1) * c := Int.lt_ediv_add_one_mul_self s c0
        have a3 : (s + n) / c * c ≤ (s / c + 1) * c + n := by omega
        have a4 := Int.mul_le_mul_of_nonneg_right a3 k0
        rw [Int.add_mul] at a4
        rw [hk, Int.mul_comm (c * k), Int.mul_comm (c * k), ← Int.mul_assoc, ← Int.mul_assoc]
        exact a4
      rw [paid_cons, paid_cons, gain_cons, e2, Int.mul_add n, Int.mul_add L ((s + n) / c), Int.add_zero]
      have e3 : L * (s / c + paidF cs ss r 0 + ((c :: cs).length : Int)) = L * (s / c + 1) + L * (paidF cs ss r 0 + (cs.length : Int)) := by
        rw [← Int.mul_add, List.length_cons, Int.natCast_add]
        congr 1
        simp
        omega
      rw [e3]
      omega
theorem great_start {cs ss : List Int} {r n : Int} (hc : ∀ c ∈ cs, 0 < c) (hl : ss.length = cs.length) (hs : ∀ s ∈ ss, 0 ≤ s) (hw : wears cs) (hn : 0 ≤ n) (h : n ≤ paidF cs ss r n) : n ≤ (paidF cs ss r 0 + cs.length) * per cs / (per cs - gain cs (per cs)) := by
  have hL := per_pos hc
  have hg : 0 < (per cs : Int) - gain cs (per cs) := by
    have : gain cs (per cs) < per cs := hw
    omega
  have ht := paid_top (L := per cs) (by omega) hn (r := r) hc (per_dvd hc) hl hs
  refine Int.le_ediv_of_mul_le hg ?_
  have h2 : (per cs : Int) * n ≤ per cs * paidF cs ss r n := Int.mul_le_mul_of_nonneg_left h (by omega)
  rw [Int.mul_sub, Int.mul_comm (paidF cs ss r 0 + _), Int.mul_comm n (per cs : Int)]
  omega
theorem IsGreat.uniq {cs ss : List Int} {r g k : Int} (h : IsGreat cs ss r g) (q : IsGreat cs ss r k) : g = k := by
  have h1 := h.2.2 k q.1 (by rw [q.2.1]; exact Int.le_refl _)
  have h2 := q.2.2 g h.1 (by rw [h.2.1]; exact Int.le_refl _)
  omega
end FR

/-! What the program's defs do, on data: wanted rides, loans. -/
namespace DL
open PySem PySem.Spec PyProof.Rows L2 FR
theorem min_if (a b : Int) : (if b < a then b else a) = min a b := by
  rw [Int.min_def]
  split <;> split <;> omega
theorem max_if (a b : Int) : (if b > a then b else a) = max a b := by
  rw [Int.max_def]
  split <;> split <;> omega
theorem orT {b : Bool} {A B : Prop} (h : b = true) (x : B) : (PyData.bool b = .bool false ∧ A) ∨ (PyData.bool b = .bool true ∧ B) := .inr ⟨by rw [h], x⟩
theorem orF {b : Bool} {A B : Prop} (h : b = false) (x : A) : (PyData.bool b = .bool false ∧ A) ∨ (PyData.bool b = .bool true ∧ B) := .inl ⟨by rw [h], x⟩
def wf_wanted_for : WFn := fun ds post => ∃ cs ss n, ds = [tI cs, tI ss, .int n] ∧ CardsOk cs ∧ ss.length = cs.length ∧ (0 ≤ n ∧ n ≤ 10 ^ 18) ∧ ∀ w, IsWant cs ss n w → post (.int w)
def ws_wanted_for : WS := (wsSeq (wsSet 3 (wCall wMin (wCons (wVar 2) (wCons (wFcall wf_period (wCons (wVar 0) wNil)) wNil))))
  (wsSeq (wsIf (wTest (wFcall wf_wears_off (wCons (wVar 0) wNil))) (wsRet (wFcall wf_wanted (wCons (wVar 0) (wCons (wVar 1) (wCons (wOp wSub (wVar 2) (wVar 3)) (wCons (wVar 2) wNil)))))) wsNext)
  (wsRet (wFcall wf_wanted (wCons (wVar 0) (wCons (wVar 1) (wCons (wC (.int 0)) (wCons (wVar 3) wNil))))))))
theorem len_wanted_for : ∀ ds post, wf_wanted_for ds post → ds.length = 3 := by
  rintro ds post ⟨cs, ss, n, rfl, _⟩
  rfl
theorem hd_wanted_for : ∀ ds post, wf_wanted_for ds post → ws_wanted_for { nx := fun _ => post .none, rt := post } (startR 4 ds) := by
  rintro ds post ⟨cs, ss, n, rfl, hc, hl, hn, q⟩
  simp [ws_wanted_for, wsRet, wsRetN, wsSeq, wsNext, wsSet, wsAsg, wsPar, wsIf, wsExpr, wVar, wC, wOp, wUn, wCall, wNil, wCons, wI, wI0, wAdd, wSub, wMul, wDiv, wMod, wNeg, wLt, wLe, wGt, wGe, wIsN, isN_fr, isN_ow, isN_none, isN_int, isN_tup, isN_lst, wTest, wAnd, wOr, wNot, wAndV, wOrV, wNotV, wIf, wChain, wTup, wLst, wFrz, wLen, wMax, wMin, wIx, wIsi, plainD, isTy, wFcall, mapfr_nil, mapfr_cons, dat_fr, dat_ow, X.fr_inj, its_tup, its_lst, its_ow, itl_lst, itl_ow, atI_0, atI_1, atI_2, startR, wName, wNames, setAll, wipeR, and_assoc, wBag, wBag0, wBag1, wsBump, wsApp, wsSetN, wsFrz, wsParN, wsSetI, wsPar3, wRevT, min_if]
  have hp := per_le hc.2.1 hc.le
  have hp0 := per_pos hc.pos
  refine ⟨cs, rfl, hc, _, rfl, cs, rfl, hc, ?_⟩
  simp only [min_if]
  by_cases hw : wears cs
  · refine orT (decide_eq_true hw) ?_
    refine ⟨cs, ss, _, _, rfl, hc, ⟨by omega, by omega, by omega, by omega⟩, ?_⟩
    have := q _ (want_last hc.pos hl hw hn.1)
    rw [show n - (n - min n (per cs)) = min n (per cs) by omega]
    exact this
  · refine orF (decide_eq_false hw) ?_
    refine ⟨cs, ss, _, _, rfl, hc, ⟨by omega, by omega, by omega, by omega⟩, ?_⟩
    have := q _ (want_first hc.pos hl hw hn.1)
    rw [Int.sub_zero]
    exact this
/-- never ends from so many on -/
def lendD (cs ss : List Int) : D := endF cs ss
def wf_least_endless : WFn := fun ds post => ∃ cs ss, ds = [tI cs, tI ss] ∧ CardsOk cs ∧ StampsOk cs ss ∧ post (endF cs ss)
def ws_least_endless : WS := (wsSeq (wsExpr (wFcall wf_need_stamps (wCons (wVar 0) (wCons (wVar 1) wNil))))
  (wsRet (wFcall wf_endless_from (wCons (wVar 0) (wCons (wVar 1) wNil)))))
theorem len_least_endless : ∀ ds post, wf_least_endless ds post → ds.length = 2 := by
  rintro ds post ⟨cs, ss, rfl, _⟩
  rfl
theorem hd_least_endless : ∀ ds post, wf_least_endless ds post → ws_least_endless { nx := fun _ => post .none, rt := post } (startR 2 ds) := by
  rintro ds post ⟨cs, ss, rfl, hc, hs, q⟩
  simp [ws_least_endless, wsRet, wsRetN, wsSeq, wsNext, wsSet, wsAsg, wsPar, wsIf, wsExpr, wVar, wC, wOp, wUn, wCall, wNil, wCons, wI, wI0, wAdd, wSub, wMul, wDiv, wMod, wNeg, wLt, wLe, wGt, wGe, wIsN, isN_fr, isN_ow, isN_none, isN_int, isN_tup, isN_lst, wTest, wAnd, wOr, wNot, wAndV, wOrV, wNotV, wIf, wChain, wTup, wLst, wFrz, wLen, wMax, wMin, wIx, wIsi, plainD, isTy, wFcall, mapfr_nil, mapfr_cons, dat_fr, dat_ow, X.fr_inj, its_tup, its_lst, its_ow, itl_lst, itl_ow, atI_0, atI_1, atI_2, startR, wName, wNames, setAll, wipeR, and_assoc, wBag, wBag0, wBag1, wsBump, wsApp, wsSetN, wsFrz, wsParN, wsSetI, wsPar3, wRevT]
  exact ⟨cs, ss, rfl, hc, hs, cs, ss, rfl, hc, q⟩
def wf_least_rides : WFn := fun ds post => ∃ cs ss n, ds = [tI cs, tI ss, .int n] ∧ CardsOk cs ∧ StampsOk cs ss ∧ NumOk n ∧ ∀ w, IsWant cs ss n w → post (.int w)
def ws_least_rides : WS := (wsSeq (wsExpr (wFcall wf_need_stamps (wCons (wVar 0) (wCons (wVar 1) wNil))))
  (wsSeq (wsExpr (wFcall wf_need_number (wCons (wVar 2) wNil)))
  (wsRet (wFcall wf_wanted_for (wCons (wVar 0) (wCons (wVar 1) (wCons (wVar 2) wNil)))))))
theorem len_least_rides : ∀ ds post, wf_least_rides ds post → ds.length = 3 := by
  rintro ds post ⟨cs, ss, n, rfl, _⟩
  rfl
theorem hd_least_rides : ∀ ds post, wf_least_rides ds post → ws_least_rides { nx := fun _ => post .none, rt := post } (startR 3 ds) := by
  rintro ds post ⟨cs, ss, n, rfl, hc, hs, hn, q⟩
  simp [ws_least_rides, wsRet, wsRetN, wsSeq, wsNext, wsSet, wsAsg, wsPar, wsIf, wsExpr, wVar, wC, wOp, wUn, wCall, wNil, wCons, wI, wI0, wAdd, wSub, wMul, wDiv, wMod, wNeg, wLt, wLe, wGt, wGe, wIsN, isN_fr, isN_ow, isN_none, isN_int, isN_tup, isN_lst, wTest, wAnd, wOr, wNot, wAndV, wOrV, wNotV, wIf, wChain, wTup, wLst, wFrz, wLen, wMax, wMin, wIx, wIsi, plainD, isTy, wFcall, mapfr_nil, mapfr_cons, dat_fr, dat_ow, X.fr_inj, its_tup, its_lst, its_ow, itl_lst, itl_ow, atI_0, atI_1, atI_2, startR, wName, wNames, setAll, wipeR, and_assoc, wBag, wBag0, wBag1, wsBump, wsApp, wsSetN, wsFrz, wsParN, wsSetI, wsPar3, wRevT]
  exact ⟨cs, ss, rfl, hc, hs, n, rfl, hn, cs, ss, n, rfl, hc, hs.1, hn, q⟩
/-! ### loans -/
def greatD : Option Int → D := oD
/-- the greatest, none where it doesn't wear off -/
def IsGreatO (cs ss : List Int) (r : Int) : Option Int → Prop
  | some g => wears cs ∧ IsGreat cs ss r g
  | none => ¬ wears cs
def wf_greatest : WFn := fun ds post => ∃ cs r ss, ds = [tI cs, pD r ss] ∧ CardsOk cs ∧ PurseOk cs r ss ∧ ∀ o, IsGreatO cs ss r o → post (oD o)
def ws_greatest : WS := (wsSeq (wsExpr (wFcall wf_need_purse (wCons (wVar 0) (wCons (wVar 1) wNil))))
  (wsSeq (wsIf (wNot (wTest (wFcall wf_wears_off (wCons (wVar 0) wNil)))) (wsRet (wC .none)) wsNext)
  (wsSeq (wsSet 2 (wFcall wf_period (wCons (wVar 0) wNil)))
  (wsSeq (wsSet 3 (wOp wSub (wVar 2) (wCall wSum (wCons (wFrz (wLc (wiTup (wVar 0)) (wName 4) wYes (wOp wDiv (wVar 2) (wVar 4)) [4])) wNil))))
  (wsSeq (wsSet 5 (wOp wAdd (wOp wDiv (wOp wMul (wOp wAdd (wFcall wf_paid (wCons (wVar 0) (wCons (wVar 1) (wCons (wC (.int 0)) wNil)))) (wCall wLen (wCons (wVar 0) wNil))) (wVar 2)) (wVar 3)) (wVar 2)))
  (wsSeq (wsSet 6 (wFcall wf_paid (wCons (wVar 0) (wCons (wVar 1) (wCons (wVar 5) wNil)))))
  (wsSeq (wsWhile (wTest (wOp wLt (wVar 6) (wVar 5))) (wsPar 5 6 (wCons (wVar 6) (wCons (wFcall wf_paid (wCons (wVar 0) (wCons (wVar 1) (wCons (wVar 6) wNil)))) wNil))))
  (wsRet (wVar 5)))))))))
theorem len_greatest : ∀ ds post, wf_greatest ds post → ds.length = 2 := by
  rintro ds post ⟨cs, r, ss, rfl, _⟩
  rfl
theorem hd_greatest : ∀ ds post, wf_greatest ds post → ws_greatest { nx := fun _ => post .none, rt := post } (startR 7 ds) := by
  rintro ds post ⟨cs, r, ss, rfl, hc, hp, q⟩
  simp [ws_greatest, wsRet, wsRetN, wsSeq, wsNext, wsSet, wsAsg, wsPar, wsIf, wsExpr, wVar, wC, wOp, wUn, wCall, wNil, wCons, wI, wI0, wAdd, wSub, wMul, wDiv, wMod, wNeg, wLt, wLe, wGt, wGe, wIsN, isN_fr, isN_ow, isN_none, isN_int, isN_tup, isN_lst, wTest, wAnd, wOr, wNot, wAndV, wOrV, wNotV, wIf, wChain, wTup, wLst, wFrz, wLen, wMax, wMin, wIx, wIsi, plainD, isTy, wFcall, mapfr_nil, mapfr_cons, dat_fr, dat_ow, X.fr_inj, its_tup, its_lst, its_ow, itl_lst, itl_ow, atI_0, atI_1, atI_2, startR, wName, wNames, setAll, wipeR, and_assoc, wBag, wBag0, wBag1, wsBump, wsApp, wsSetN, wsFrz, wsParN, wsSetI, wsPar3, wRevT, pD]
  refine ⟨cs, r, ss, rfl, hc, hp, cs, rfl, hc, ?_⟩
  by_cases hw : wears cs
  · refine orT (decide_eq_true hw) ⟨cs, rfl, hc, ?_⟩
    have hL := per_pos hc.pos
    have hL2 := per_le hc.2.1 hc.le
    have hg : gain cs (per cs) < per cs := hw
    have hg0 : 0 ≤ gain cs (per cs) := gain_nonneg (by omega) hc.pos
    have p0 := paid_nonneg hc.pos (r := r) hp.2.nonneg (Int.le_refl 0)
    have mono : ∀ {a b : Int}, a ≤ b → paidF cs ss r a ≤ paidF cs ss r b := fun h => paid_mono hc.pos h
    refine w_lcA cs PyData.int (fun c => .int ((per cs : Int) / c)) (fun q h => by simp [wiTup, wsRet, wsRetN, wsSeq, wsNext, wsSet, wsAsg, wsPar, wsIf, wsExpr, wVar, wC, wOp, wUn, wCall, wNil, wCons, wI, wI0, wAdd, wSub, wMul, wDiv, wMod, wNeg, wLt, wLe, wGt, wGe, wIsN, isN_fr, isN_ow, isN_none, isN_int, isN_tup, isN_lst, wTest, wAnd, wOr, wNot, wAndV, wOrV, wNotV, wIf, wChain, wTup, wLst, wFrz, wLen, wMax, wMin, wIx, wIsi, plainD, isTy, wFcall, mapfr_nil, mapfr_cons, dat_fr, dat_ow, X.fr_inj, its_tup, its_lst, its_ow, itl_lst, itl_ow, atI_0, atI_1, atI_2, startR, wName, wNames, setAll, wipeR, and_assoc, wBag, wBag0, wBag1, wsBump, wsApp, wsSetN, wsFrz, wsParN, wsSetI, wsPar3, wRevT]; exact h) (by have := hc.2.1; omega) (fun c q m h => ?_) (w_sumA ?_)
    · have := hc.2.2 c m
      simp [wsRet, wsRetN, wsSeq, wsNext, wsSet, wsAsg, wsPar, wsIf, wsExpr, wVar, wC, wOp, wUn, wCall, wNil, wCons, wI, wI0, wAdd, wSub, wMul, wDiv, wMod, wNeg, wLt, wLe, wGt, wGe, wIsN, isN_fr, isN_ow, isN_none, isN_int, isN_tup, isN_lst, wTest, wAnd, wOr, wNot, wAndV, wOrV, wNotV, wIf, wChain, wTup, wLst, wFrz, wLen, wMax, wMin, wIx, wIsi, plainD, isTy, wFcall, mapfr_nil, mapfr_cons, dat_fr, dat_ow, X.fr_inj, its_tup, its_lst, its_ow, itl_lst, itl_ow, atI_0, atI_1, atI_2, startR, wName, wNames, setAll, wipeR, and_assoc, wBag, wBag0, wBag1, wsBump, wsApp, wsSetN, wsFrz, wsParN, wsSetI, wsPar3, wRevT, CDiv]
      exact ⟨by omega, by omega, h⟩
    · refine ⟨_, rfl, _, rfl, cs, r, ss, 0, rfl, hc, _, rfl, _, rfl, .inr ⟨by omega, by omega⟩, ?_, _, rfl, cs, r, ss, _, rfl, hc, ?_⟩
      · show 0 < (per cs : Int) - gain cs (per cs) ∧ (per cs : Int) - gain cs (per cs) < _
        exact ⟨by omega, by omega⟩
      have hS : ∀ n, 0 ≤ n → n ≤ paidF cs ss r n → n < (paidF cs ss r 0 + cs.length) * per cs / (per cs - gain cs (per cs)) + per cs := fun n a b => by
        have := great_start hc.pos hp.2.1 hp.2.nonneg hw a b
        omega
      show wsWhile _ _ _ [some (X.fr (tI cs)), some (X.fr (PyData.tuple [PyData.int r, tI ss])), _, _, none, some (X.fr (PyData.int ((paidF cs ss r 0 + cs.length) * per cs / (per cs - gain cs (per cs)) + per cs))), some (X.fr (PyData.int (paidF cs ss r ((paidF cs ss r 0 + cs.length) * per cs / (per cs - gain cs (per cs)) + per cs))))]
      have hR : 0 ≤ (paidF cs ss r 0 + cs.length) * per cs / (per cs - gain cs (per cs)) := Int.ediv_nonneg (Int.mul_nonneg (by have := hp.1.1; omega) (by omega)) (by omega)
      have hR : 0 ≤ (paidF cs ss r 0 + cs.length) * per cs / (per cs - gain cs (per cs)) + per cs := by omega
      generalize (paidF cs ss r 0 + cs.length) * per cs / (per cs - gain cs (per cs)) + per cs = R at hS hR ⊢
      refine w_while (fun m ρ => ∃ (x : Int) (z1 z2 : Option X), ρ = [some (.fr (tI cs)), some (.fr (.tuple [.int r, tI ss])), z1, z2, none, some (.fr (.int x)), some (.fr (.int (paidF cs ss r x)))] ∧ 0 ≤ x ∧ paidF cs ss r x ≤ x ∧ (∀ n, 0 ≤ n → n ≤ paidF cs ss r n → n ≤ x) ∧ m = x.toNat) R.toNat ⟨R, _, _, rfl, hR, ?_, fun n a b => Int.le_of_lt (hS n a b), rfl⟩ ?_
      · refine Int.not_lt.mp fun h => ?_
        have := hS R hR (by omega)
        omega
      · rintro m ρ ⟨x, z1, z2, rfl, hx, hp1, hl, hm⟩
        have hx0 : 0 ≤ paidF cs ss r x := by
          have := paid_nonneg hc.pos (r := r) hp.2.nonneg hx
          have := hp.1.1
          omega
        simp [wsRet, wsRetN, wsSeq, wsNext, wsSet, wsAsg, wsPar, wsIf, wsExpr, wVar, wC, wOp, wUn, wCall, wNil, wCons, wI, wI0, wAdd, wSub, wMul, wDiv, wMod, wNeg, wLt, wLe, wGt, wGe, wIsN, isN_fr, isN_ow, isN_none, isN_int, isN_tup, isN_lst, wTest, wAnd, wOr, wNot, wAndV, wOrV, wNotV, wIf, wChain, wTup, wLst, wFrz, wLen, wMax, wMin, wIx, wIsi, plainD, isTy, wFcall, mapfr_nil, mapfr_cons, dat_fr, dat_ow, X.fr_inj, its_tup, its_lst, its_ow, itl_lst, itl_ow, atI_0, atI_1, atI_2, startR, wName, wNames, setAll, wipeR, and_assoc, wBag, wBag0, wBag1, wsBump, wsApp, wsSetN, wsFrz, wsParN, wsSetI, wsPar3, wRevT]
        by_cases hlt : paidF cs ss r x < x
        · rw [if_pos hlt]
          refine ⟨cs, r, ss, _, rfl, hc, (paidF cs ss r x).toNat, by omega, rfl, hx0, mono hp1, fun n a b => ?_, rfl⟩
          have := mono (hl n a b)
          omega
        · rw [if_neg hlt]
          exact q (some x) ⟨hw, hx, by omega, hl⟩
  · exact orF (decide_eq_false hw) (q none hw)
def wf_can_have : WFn := fun ds post => ∃ cs r ss n, ds = [tI cs, pD r ss, .int n] ∧ CardsOk cs ∧ PurseOk cs r ss ∧ NumOk n ∧ post (.bool (decide (n ≤ paidF cs ss r n)))
def ws_can_have : WS := (wsSeq (wsExpr (wFcall wf_need_purse (wCons (wVar 0) (wCons (wVar 1) wNil))))
  (wsSeq (wsExpr (wFcall wf_need_number (wCons (wVar 2) wNil)))
  (wsRet (wOp wLe (wVar 2) (wFcall wf_paid (wCons (wVar 0) (wCons (wVar 1) (wCons (wVar 2) wNil))))))))
theorem len_can_have : ∀ ds post, wf_can_have ds post → ds.length = 3 := by
  rintro ds post ⟨cs, r, ss, n, rfl, _⟩
  rfl
theorem hd_can_have : ∀ ds post, wf_can_have ds post → ws_can_have { nx := fun _ => post .none, rt := post } (startR 3 ds) := by
  rintro ds post ⟨cs, r, ss, n, rfl, hc, hp, hn, q⟩
  simp [ws_can_have, wsRet, wsRetN, wsSeq, wsNext, wsSet, wsAsg, wsPar, wsIf, wsExpr, wVar, wC, wOp, wUn, wCall, wNil, wCons, wI, wI0, wAdd, wSub, wMul, wDiv, wMod, wNeg, wLt, wLe, wGt, wGe, wIsN, isN_fr, isN_ow, isN_none, isN_int, isN_tup, isN_lst, wTest, wAnd, wOr, wNot, wAndV, wOrV, wNotV, wIf, wChain, wTup, wLst, wFrz, wLen, wMax, wMin, wIx, wIsi, plainD, isTy, wFcall, mapfr_nil, mapfr_cons, dat_fr, dat_ow, X.fr_inj, its_tup, its_lst, its_ow, itl_lst, itl_ow, atI_0, atI_1, atI_2, startR, wName, wNames, setAll, wipeR, and_assoc, wBag, wBag0, wBag1, wsBump, wsApp, wsSetN, wsFrz, wsParN, wsSetI, wsPar3, wRevT]
  exact ⟨cs, r, ss, rfl, hc, hp, n, rfl, hn, cs, r, ss, n, rfl, hc, _, rfl, q⟩
/-- the least loan -/
def loanD (cs ss : List Int) (r n w : Int) : D := if n ≤ paidF cs ss r n then .int (max 0 (w - r)) else .none
def wf_least_loan : WFn := fun ds post => ∃ cs r ss n, ds = [tI cs, pD r ss, .int n] ∧ CardsOk cs ∧ PurseOk cs r ss ∧ NumOk n ∧ ∀ w, IsWant cs ss n w → post (loanD cs ss r n w)
def ws_least_loan : WS := (wsSeq (wsExpr (wFcall wf_need_purse (wCons (wVar 0) (wCons (wVar 1) wNil))))
  (wsSeq (wsExpr (wFcall wf_need_number (wCons (wVar 2) wNil)))
  (wsSeq (wsIf (wTest (wOp wGt (wVar 2) (wFcall wf_paid (wCons (wVar 0) (wCons (wVar 1) (wCons (wVar 2) wNil)))))) (wsRet (wC .none)) wsNext)
  (wsRet (wCall wMax (wCons (wC (.int 0)) (wCons (wOp wSub (wFcall wf_wanted_for (wCons (wVar 0) (wCons (wOp wIx (wVar 1) (wC (.int 1))) (wCons (wVar 2) wNil)))) (wOp wIx (wVar 1) (wC (.int 0)))) wNil)))))))
theorem len_least_loan : ∀ ds post, wf_least_loan ds post → ds.length = 3 := by
  rintro ds post ⟨cs, r, ss, n, rfl, _⟩
  rfl
theorem hd_least_loan : ∀ ds post, wf_least_loan ds post → ws_least_loan { nx := fun _ => post .none, rt := post } (startR 3 ds) := by
  rintro ds post ⟨cs, r, ss, n, rfl, hc, hp, hn, q⟩
  simp [ws_least_loan, wsRet, wsRetN, wsSeq, wsNext, wsSet, wsAsg, wsPar, wsIf, wsExpr, wVar, wC, wOp, wUn, wCall, wNil, wCons, wI, wI0, wAdd, wSub, wMul, wDiv, wMod, wNeg, wLt, wLe, wGt, wGe, wIsN, isN_fr, isN_ow, isN_none, isN_int, isN_tup, isN_lst, wTest, wAnd, wOr, wNot, wAndV, wOrV, wNotV, wIf, wChain, wTup, wLst, wFrz, wLen, wMax, wMin, wIx, wIsi, plainD, isTy, wFcall, mapfr_nil, mapfr_cons, dat_fr, dat_ow, X.fr_inj, its_tup, its_lst, its_ow, itl_lst, itl_ow, atI_0, atI_1, atI_2, startR, wName, wNames, setAll, wipeR, and_assoc, wBag, wBag0, wBag1, wsBump, wsApp, wsSetN, wsFrz, wsParN, wsSetI, wsPar3, wRevT, pD]
  refine ⟨cs, r, ss, rfl, hc, hp, n, rfl, hn, cs, r, ss, n, rfl, hc, _, rfl, ?_⟩
  unfold loanD at q
  refine ite2 (fun h => ?_) (fun h => ?_)
  · have := q _ (want_all hn.1)
    rw [if_neg (by omega)] at this
    exact this
  · refine ⟨cs, ss, n, rfl, hc, hp.2.1, hn, fun w hw => ⟨_, rfl, ?_⟩⟩
    have := q w hw
    rw [if_pos (by omega), show max 0 (w - r) = if r < w then w - r else 0 by split <;> omega] at this
    exact this
end DL

/-! How the laws begin: bag by bag. -/
namespace DL
open PySem PySem.Spec PyProof.Rows L2 FR
abbrev Sl := Option X
theorem top {lim : Int} {wb : WS} {W : WEnds} {ns : List Int} {n : Nat} (h1 : 1 ≤ lim) (h2 : lim ≤ 20)
    (body : ∀ (z : List Sl) (nx : Ρ → Prop), z.length = n → (∀ z' : List Sl, z'.length = n + 1 → nx (some (.fr (scrD ns)) :: z')) → wb { W with nx := nx, ct := nx, bk := W.nx } (some (.fr (scrD ns)) :: some (.fr bagD) :: z))
    (fin : ∀ z : List Sl, z.length = n + 1 → W.nx (some (.fr (scrD ns)) :: z)) : ∀ z : List Sl, z.length = n + 1 → wsFor (wiLst (wFcall wf_law_bags (wCons (wVar 0) (wCons (wC (.int lim)) wNil)))) (wName 1) wb W (some (.fr (scrD ns)) :: z) := fun z hz => by
  have bags : ∀ qq : List D → Prop, (∀ n : Nat, qq (List.replicate n bagD)) → wiLst (wFcall wf_law_bags (wCons (wVar 0) (wCons (wC (.int lim)) wNil))) (some (.fr (scrD ns)) :: z) qq := fun qq h => by
    simp [wiLst, wsRet, wsRetN, wsSeq, wsNext, wsSet, wsAsg, wsPar, wsIf, wsExpr, wVar, wC, wOp, wUn, wCall, wNil, wCons, wI, wI0, wAdd, wSub, wMul, wDiv, wMod, wNeg, wLt, wLe, wGt, wGe, wIsN, isN_fr, isN_ow, isN_none, isN_int, isN_tup, isN_lst, wTest, wAnd, wOr, wNot, wAndV, wOrV, wNotV, wIf, wChain, wTup, wLst, wFrz, wLen, wMax, wMin, wIx, wIsi, plainD, isTy, wFcall, mapfr_nil, mapfr_cons, dat_fr, dat_ow, X.fr_inj, its_tup, its_lst, its_ow, itl_lst, itl_ow, atI_0, atI_1, atI_2, startR, wName, wNames, setAll, wipeR, and_assoc, wBag, wBag0, wBag1, wsBump, wsApp, wsSetN, wsFrz, wsParN, wsSetI, wsPar3, wRevT]
    exact bags_mk h1 h2 fun n => ⟨_, rfl, h n⟩
  refine bags _ fun k => ⟨fun _ ρ => ∃ z : List Sl, z.length = n + 1 ∧ ρ = some (.fr (scrD ns)) :: z, ⟨z, hz, rfl⟩, fun i d ρ hd => ?_, ?_⟩
  · obtain rfl : d = bagD := List.eq_of_mem_replicate (List.mem_of_getElem? hd)
    rintro ⟨z, hz, rfl⟩
    match z, hz with
    | a :: z, hz => exact body z _ (by simpa using hz) fun z' h => ⟨z', h, rfl⟩
  · rintro ρ ⟨z, hz, rfl⟩
    exact fin z hz
/-- one of so many -/
theorem picks {l : List D} {P : D → Prop} {i : Int} (h0 : 0 ≤ i) (h1 : i < (l.length : Int)) (h : ∀ d ∈ l, P d) : ∃ x, atI l i = some x ∧ P x := by
  obtain ⟨j, rfl⟩ := Int.eq_ofNat_of_zero_le h0
  have hj : j < l.length := by omega
  exact ⟨l[j], atI_nat (List.getElem?_eq_getElem hj), h _ (List.getElem_mem hj)⟩
theorem stamps_mk {cs : List Int} {far : Int} {post : D → Prop} (hc : CardsOk cs) (hf : 0 ≤ far) (h2 : far ≤ 10 ^ 18) (h : ∀ ss, StampsOk cs ss → (∀ s ∈ ss, s ≤ far) → post (tI ss)) : wf_law_stamps_for [bagD, tI cs, .int far] post :=
  ⟨cs.map PyData.int, far, rfl, by rw [List.length_map]; exact hc.2.1, hf, fun ss hl hs => h ss ⟨by rw [hl, List.length_map], fun s m => by have := hs s m; omega⟩ fun s m => (hs s m).2⟩
theorem kinds_mk' {far : Int} {post : D → Prop} (h2 : 2 ≤ far) (h20 : far ≤ 20) (h : ∀ cs, CardsOk cs → (∀ c ∈ cs, c ≤ far) → post (tI cs)) : wf_law_kinds [bagD, .int far] post :=
  ⟨far, rfl, h2, fun cs h1 h3 hc => h cs ⟨h1, h3, fun c m => by have := hc c m; omega⟩ fun c m => (hc c m).2⟩
theorem rides_mk {cs ss : List Int} {n : Int} {post : D → Prop} (hc : CardsOk cs) (hs : StampsOk cs ss) (hn : NumOk n) (h : ∀ w, IsWant cs ss n w → post (.int w)) : wf_least_rides [tI cs, tI ss, .int n] post := ⟨cs, ss, n, rfl, hc, hs, hn, h⟩
theorem endless_mk {cs ss : List Int} {post : D → Prop} (hc : CardsOk cs) (hs : StampsOk cs ss) (h : post (endF cs ss)) : wf_least_endless [tI cs, tI ss] post := ⟨cs, ss, rfl, hc, hs, h⟩
theorem great_mk {cs ss : List Int} {r : Int} {post : D → Prop} (hc : CardsOk cs) (hp : PurseOk cs r ss) (h : ∀ o, IsGreatO cs ss r o → post (oD o)) : wf_greatest [tI cs, pD r ss] post := ⟨cs, r, ss, rfl, hc, hp, h⟩
theorem can_mk {cs ss : List Int} {r n : Int} {post : D → Prop} (hc : CardsOk cs) (hp : PurseOk cs r ss) (hn : NumOk n) (h : post (.bool (decide (n ≤ paidF cs ss r n)))) : wf_can_have [tI cs, pD r ss, .int n] post := ⟨cs, r, ss, n, rfl, hc, hp, hn, h⟩
theorem loan_mk {cs ss : List Int} {r n : Int} {post : D → Prop} (hc : CardsOk cs) (hp : PurseOk cs r ss) (hn : NumOk n) (h : ∀ w, IsWant cs ss n w → post (loanD cs ss r n w)) : wf_least_loan [tI cs, pD r ss, .int n] post := ⟨cs, r, ss, n, rfl, hc, hp, hn, h⟩
end DL

/-! Equality of plain data; comprehensions with a test. -/
namespace DL
open PySem PySem.Spec PyProof.Rows L2 FR
/-- ints, texts, None, lists and tuples of such, so deep -/
def cleanN : Nat → D → Bool
  | _, .none => true
  | _, .int _ => true
  | _, .str x => PyData.strOk x
  | n + 1, .list ds => ds.all (cleanN n)
  | n + 1, .tuple ds => ds.all (cleanN n)
  | _, _ => false
theorem depth_all {k : Nat} : ∀ {ds : List D}, (∀ d ∈ ds, d.depth ≤ k) → PyData.depthAll ds ≤ k
  | [], _ => by rw [PyData.depthAll]; exact Nat.zero_le _
  | d :: ds, h => by
    rw [PyData.depthAll]
    have := h d List.mem_cons_self
    have := depth_all (ds := ds) fun e m => h e (List.mem_cons_of_mem _ m)
    omega
theorem clean_ok : ∀ {n : Nat} {d : D}, cleanN n d = true → d.canLay0 = true ∧ d.depth ≤ n
  | n, .none, _ => ⟨by rw [PyData.canLay0], by rw [PyData.depth]; omega⟩
  | n, .int _, _ => ⟨by rw [PyData.canLay0], by rw [PyData.depth]; omega⟩
  | n, .str x, h => ⟨by
      rw [PyData.canLay0]
      cases n <;> simpa [cleanN] using h, by rw [PyData.depth]; omega⟩
  | n + 1, .list ds, h => by
    have h' : ∀ d ∈ ds, cleanN n d = true := List.all_eq_true.mp (by simpa [cleanN] using h)
    refine ⟨?_, ?_⟩
    · rw [PyData.canLay0]
      exact lay_all_of fun d m => (clean_ok (h' d m)).1
    · rw [PyData.depth]
      have := depth_all (ds := ds) (k := n) fun d m => (clean_ok (h' d m)).2
      omega
  | n + 1, .tuple ds, h => by
    have h' : ∀ d ∈ ds, cleanN n d = true := List.all_eq_true.mp (by simpa [cleanN] using h)
    refine ⟨?_, ?_⟩
    · rw [PyData.canLay0]
      exact lay_all_of fun d m => (clean_ok (h' d m)).1
    · rw [PyData.depth]
      have := depth_all (ds := ds) (k := n) fun d m => (clean_ok (h' d m)).2
      omega
  | 0, .list _, h => by simp [cleanN] at h
  | 0, .tuple _, h => by simp [cleanN] at h
  | 0, .bool _, h => by simp [cleanN] at h
  | _ + 1, .bool _, h => by simp [cleanN] at h
  | 0, .dict _, h => by simp [cleanN] at h
  | _ + 1, .dict _, h => by simp [cleanN] at h
theorem eqv_all_iff {P : D → Prop} (hP : ∀ d e, P d → P e → (PyData.eqv d e = true ↔ d = e)) : ∀ {ds es : List D}, (∀ d ∈ ds, P d) → (∀ e ∈ es, P e) → (PyData.eqvAll ds es = true ↔ ds = es)
  | [], [], _, _ => by rw [PyData.eqvAll]; simp
  | [], _ :: _, _, _ => by rw [PyData.eqvAll]; simp
  | _ :: _, [], _, _ => by rw [PyData.eqvAll]; simp
  | d :: ds, e :: es, h, g => by
    rw [PyData.eqvAll, Bool.and_eq_true, hP d e (h d List.mem_cons_self) (g e List.mem_cons_self), eqv_all_iff hP (fun d m => h d (List.mem_cons_of_mem _ m)) (fun d m => g d (List.mem_cons_of_mem _ m))]
    constructor
    · rintro ⟨rfl, rfl⟩
      rfl
    · intro z
      injection z with z1 z2
      exact ⟨z1, z2⟩
theorem eqv_clean : ∀ (n : Nat) {d e : D}, cleanN n d = true → cleanN n e = true → (PyData.eqv d e = true ↔ d = e)
  | n + 1, .list ds, .list es, h, g => by
    have h' : ∀ d ∈ ds, cleanN n d = true := List.all_eq_true.mp (by simpa [cleanN] using h)
    have g' : ∀ d ∈ es, cleanN n d = true := List.all_eq_true.mp (by simpa [cleanN] using g)
    rw [PyData.eqv, eqv_all_iff (P := fun d => cleanN n d = true) (fun d e a b => eqv_clean n a b) h' g']
    simp
  | n + 1, .tuple ds, .tuple es, h, g => by
    have h' : ∀ d ∈ ds, cleanN n d = true := List.all_eq_true.mp (by simpa [cleanN] using h)
    have g' : ∀ d ∈ es, cleanN n d = true := List.all_eq_true.mp (by simpa [cleanN] using g)
    rw [PyData.eqv, eqv_all_iff (P := fun d => cleanN n d = true) (fun d e a b => eqv_clean n a b) h' g']
    simp
  | _, .none, .none, _, _ => by rw [PyData.eqv]; simp
  | _, .int a, .int b, _, _ => by rw [PyData.eqv]; simp
  | _, .str a, .str b, _, _ => by rw [PyData.eqv]; simp
  | _, .none, .int _, _, _ => by rw [PyData.eqv]; simp
  | _, .none, .str _, _, _ => by rw [PyData.eqv]; simp
  | _, .none, .list _, _, _ => by rw [PyData.eqv]; simp
  | _, .none, .tuple _, _, _ => by rw [PyData.eqv]; simp
  | _, .int _, .none, _, _ => by rw [PyData.eqv]; simp
  | _, .int _, .str _, _, _ => by rw [PyData.eqv]; simp
  | _, .int _, .list _, _, _ => by rw [PyData.eqv]; simp
  | _, .int _, .tuple _, _, _ => by rw [PyData.eqv]; simp
  | _, .str _, .none, _, _ => by rw [PyData.eqv]; simp
  | _, .str _, .int _, _, _ => by rw [PyData.eqv]; simp
  | _, .str _, .list _, _, _ => by rw [PyData.eqv]; simp
  | _, .str _, .tuple _, _, _ => by rw [PyData.eqv]; simp
  | _, .list _, .none, _, _ => by rw [PyData.eqv]; simp
  | _, .list _, .int _, _, _ => by rw [PyData.eqv]; simp
  | _, .list _, .str _, _, _ => by rw [PyData.eqv]; simp
  | _, .list _, .tuple _, _, _ => by rw [PyData.eqv]; simp
  | _, .tuple _, .none, _, _ => by rw [PyData.eqv]; simp
  | _, .tuple _, .int _, _, _ => by rw [PyData.eqv]; simp
  | _, .tuple _, .str _, _, _ => by rw [PyData.eqv]; simp
  | _, .tuple _, .list _, _, _ => by rw [PyData.eqv]; simp
  | 0, .list _, .list _, h, _ => by simp [cleanN] at h
  | 0, .tuple _, .tuple _, h, _ => by simp [cleanN] at h
  | n, .bool _, _, h, _ => by cases n <;> simp [cleanN] at h
  | n, .dict _, _, h, _ => by cases n <;> simp [cleanN] at h
  | n, _, .bool _, _, h => by cases n <;> simp [cleanN] at h
  | n, _, .dict _, _, h => by cases n <;> simp [cleanN] at h
abbrev Cl (d : D) : Prop := cleanN 6 d = true
theorem cl_ints (n : Nat) (ns : List Int) : (ns.map PyData.int).all (cleanN n) = true := by
  rw [List.all_map, List.all_eq_true]
  intro i _
  cases n <;> rfl
theorem cl_tI (ns : List Int) : Cl (tI ns) := by
  show (ns.map PyData.int).all (cleanN 5) = true
  exact cl_ints 5 ns
theorem cl_lI (ns : List Int) : Cl (.list (ns.map PyData.int)) := by
  show (ns.map PyData.int).all (cleanN 5) = true
  exact cl_ints 5 ns
theorem cl_int (i : Int) : Cl (.int i) := rfl
theorem cl_none : Cl .none := rfl
theorem cl_oD (o : Option Int) : Cl (oD o) := by cases o <;> rfl
theorem cl_pD (r : Int) (ss : List Int) : Cl (pD r ss) := by
  show (cleanN 5 (.int r) && ((ss.map PyData.int).all (cleanN 4) && true)) = true
  rw [cl_ints]
  rfl
theorem cl_shaped {d : D} (h : Cl d) : SeqAt.shaped d = true := by
  obtain ⟨h1, h2⟩ := clean_ok h
  unfold SeqAt.shaped
  rw [h1, decide_eq_true (show d.depth ≤ 64 by omega)]
  rfl
theorem eqC {x y : X} {post : X → Prop} (hx : Cl x.dat) (hy : Cl y.dat) (h1 : x.dat = y.dat → post (.fr (.bool true))) (h2 : x.dat ≠ y.dat → post (.fr (.bool false))) : wEq false x y post := by
  refine ⟨cl_shaped hx, cl_shaped hy, ?_⟩
  cases e : PyData.eqv x.dat y.dat with
  | true => exact h1 ((eqv_clean 6 hx hy).mp e)
  | false => exact h2 fun z => by rw [(eqv_clean 6 hx hy).mpr z] at e; cases e
theorem neC {x y : X} {post : X → Prop} (hx : Cl x.dat) (hy : Cl y.dat) (h1 : x.dat = y.dat → post (.fr (.bool false))) (h2 : x.dat ≠ y.dat → post (.fr (.bool true))) : wEq true x y post := by
  refine ⟨cl_shaped hx, cl_shaped hy, ?_⟩
  cases e : PyData.eqv x.dat y.dat with
  | true => exact h1 ((eqv_clean 6 hx hy).mp e)
  | false => exact h2 fun z => by rw [(eqv_clean 6 hx hy).mpr z] at e; cases e
/-- the same, as is known -/
theorem eqT {x y : X} {post : X → Prop} (hx : Cl x.dat) (h : x.dat = y.dat) (h1 : post (.fr (.bool true))) : wEq false x y post := eqC hx (by rw [← h]; exact hx) (fun _ => h1) (fun n => absurd h n)
theorem neT {x y : X} {post : X → Prop} (hx : Cl x.dat) (h : x.dat = y.dat) (h1 : post (.fr (.bool false))) : wEq true x y post := neC hx (by rw [← h]; exact hx) (fun _ => h1) (fun n => absurd h n)
/-- a comprehension with a test -/
theorem w_lcF {α : Type} {wi : WI} {wg : WG} {wt : WT} {we : WE} {vs : List Nat} {ρ : Ρ} {post : List D → Prop} (xs : List α) (g f : α → D) (keep : α → Bool) (hi : ∀ q : List D → Prop, q (xs.map g) → wi ρ q) (hl : xs.length < 100000)
    (he : ∀ a (q : X → Prop) (p : Prop), a ∈ xs → (keep a = true → q (.fr (f a))) → (keep a = false → p) → wg (g a) (wipeR ρ vs) fun ρ2 => wt ρ2 fun b => if b = true then we ρ2 q else p) (hp : post ((xs.filter keep).map f)) : wLc wi wg wt we vs ρ post := by
  refine hi _ ⟨by rw [List.length_map]; exact hl, fun i acc => acc = ((xs.take i).filter keep).map f, by simp, fun i d acc hd ha => ?_, fun acc ha => by rw [ha, List.length_map, List.take_length]; exact hp⟩
  rw [List.getElem?_map] at hd
  cases e : xs[i]? with
  | none => rw [e] at hd; cases hd
  | some a =>
    rw [e] at hd
    cases hd
    refine he a _ _ (List.mem_of_getElem? e) (fun hk => ?_) (fun hk => ?_)
    · refine ⟨_, rfl, ?_⟩
      show _ = List.map f ((xs.take (i + 1)).filter keep)
      rw [ha, List.take_add_one, e]
      show _ = List.map f ((xs.take i ++ [a]).filter keep)
      rw [List.filter_append, List.map_append, List.filter_cons, if_pos hk]
      rfl
    · show acc = List.map f ((xs.take (i + 1)).filter keep)
      rw [ha, List.take_add_one, e]
      show _ = List.map f ((xs.take i ++ [a]).filter keep)
      rw [List.filter_append, List.filter_cons, if_neg (by rw [hk]; exact fun z => nomatch z)]
      simp
theorem neB {a b : Bool} {post : X → Prop} (h : a = b) (p : post (.fr (.bool false))) : wEq true (.fr (.bool a)) (.fr (.bool b)) post := by
  subst h
  refine ⟨shaped_bool _, shaped_bool _, ?_⟩
  simp only [dat_fr, eqv_bool, BEq.rfl]
  exact p
theorem eqB {a b : Bool} {post : X → Prop} (p : post (.fr (.bool (a == b)))) : wEq false (.fr (.bool a)) (.fr (.bool b)) post := by
  refine ⟨shaped_bool _, shaped_bool _, ?_⟩
  simp only [dat_fr, eqv_bool]
  exact p
theorem w_ifT {wt : WT} {a b : WS} {W : WEnds} {ρ : Ρ} (ht : ∀ q : Bool → Prop, q true → wt ρ q) (h : a W ρ) : wsIf wt a b W ρ := ht (fun c => if c = true then a W ρ else b W ρ) (iteP rfl h)
theorem w_ifF {wt : WT} {a b : WS} {W : WEnds} {ρ : Ρ} (ht : ∀ q : Bool → Prop, q false → wt ρ q) (h : b W ρ) : wsIf wt a b W ρ := ht (fun c => if c = true then a W ρ else b W ρ) (iteQ (fun z => nomatch z) h)
/-- a comprehension over range(n), n drawn, whose elements are drawn -/
theorem w_lcGn {β : Type} {wi : WI} {wg : WG} {we : WE} {vs : List Nat} {ρ : Ρ} {post : List D → Prop} (N : Nat → Prop) (e : β → D) (C : β → Prop) (hi : ∀ q : List D → Prop, (∀ n, N n → q (rgD 0 n)) → wi ρ q) (hl : ∀ n, N n → n < 100000)
    (he : ∀ (i : Nat) (q : X → Prop), (∀ b, C b → q (.fr (e b))) → wg (.int (0 + (i : Int))) (wipeR ρ vs) fun ρ2 => we ρ2 q) (hp : ∀ bs : List β, N bs.length → (∀ b ∈ bs, C b) → post (bs.map e)) : wLc wi wg wYes we vs ρ post := by
  refine hi _ fun n hn => ⟨by rw [rgD_len]; exact hl n hn, fun i acc => ∃ bs : List β, acc = bs.map e ∧ bs.length = i ∧ ∀ b ∈ bs, C b, ⟨[], rfl, rfl, fun n h => nomatch h⟩, fun i d acc hd ha => ?_, fun acc ha => ?_⟩
  · have hi : i < n := by
      have := (List.getElem?_eq_some_iff.mp hd).1
      rw [rgD_len] at this
      exact this
    rw [rgD_get hi] at hd
    cases hd
    obtain ⟨bs, rfl, h1, h2⟩ := ha
    refine he i _ fun b hb => ⟨_, rfl, bs ++ [b], by simp, by simp [h1], fun z hz => ?_⟩
    rcases List.mem_append.mp hz with hz | hz
    · exact h2 z hz
    · rw [List.mem_singleton] at hz
      subst hz
      exact hb
  · obtain ⟨bs, rfl, h1, h2⟩ := ha
    rw [rgD_len] at h1
    exact hp bs (by rw [h1]; exact hn) h2
end DL

/-! That there is an answer; answers at written purses. -/
namespace FR
theorem least_ex {p : Nat → Prop} : ∀ n : Nat, p n → ∃ m, p m ∧ ∀ k, k < m → ¬ p k := by
  intro n
  induction n using Nat.strongRecOn with
  | ind n ih =>
    intro h
    by_cases c : ∃ k, k < n ∧ p k
    · obtain ⟨k, h1, h2⟩ := c
      exact ih k h1 h2
    · exact ⟨n, h, fun k h1 h2 => c ⟨k, h1, h2⟩⟩
theorem all_ex {cs ss : List Int} {r : Int} (hc : ∀ c ∈ cs, 0 < c) (h0 : 0 ≤ paidF cs ss r 0) : ∃ o, IsAll cs ss r o := by
  by_cases h : ∃ n : Nat, paidF cs ss r n ≤ n
  · obtain ⟨n, hn⟩ := h
    obtain ⟨m, h1, h2⟩ := least_ex (p := fun n : Nat => paidF cs ss r n ≤ n) n hn
    refine ⟨some m, by omega, ?_, fun k a b => ?_⟩
    · cases m with
      | zero =>
        have h1 : paidF cs ss r 0 ≤ 0 := h1
        show paidF cs ss r 0 = 0
        omega
      | succ m =>
        have g := h2 m (by omega)
        have := paid_mono hc (ss := ss) (r := r) (show (m : Int) ≤ ((m + 1 : Nat) : Int) by omega)
        omega
    · refine Int.not_lt.mp fun c => ?_
      exact h2 k.toNat (by omega) (by rw [Int.toNat_of_nonneg a]; exact b)
  · exact ⟨none, fun n a => by
      refine Int.not_le.mp fun c => h ⟨n.toNat, by rw [Int.toNat_of_nonneg a]; exact c⟩⟩
def chkSome (cs ss : List Int) (r : Int) (t : Nat) : Bool := decide (paidF cs ss r t = t) && (List.range t).all fun n => decide ((n : Int) < paidF cs ss r n)
theorem chk_some {cs ss : List Int} {r : Int} {t : Nat} (h : chkSome cs ss r t = true) : IsAll cs ss r (some (t : Int)) := by
  unfold chkSome at h
  rw [Bool.and_eq_true, List.all_eq_true] at h
  refine ⟨by omega, of_decide_eq_true h.1, fun n a b => ?_⟩
  refine Int.not_lt.mp fun c => ?_
  have := of_decide_eq_true (h.2 n.toNat (by rw [List.mem_range]; omega))
  rw [Int.toNat_of_nonneg a] at this
  omega
def chkNone (cs ss : List Int) (r : Int) : Bool := !decide (wears cs) && (List.range (per cs)).all fun n => decide ((n : Int) < paidF cs ss r n)
theorem chk_none {cs ss : List Int} {r : Int} (hc : ∀ c ∈ cs, 0 < c) (hl : ss.length = cs.length) (h : chkNone cs ss r = true) : IsAll cs ss r none := by
  unfold chkNone at h
  rw [Bool.and_eq_true, List.all_eq_true, Bool.not_eq_true'] at h
  refine first_per hc hl (of_decide_eq_false h.1) fun n a b => ?_
  have := of_decide_eq_true (h.2 n.toNat (by rw [List.mem_range]; omega))
  rw [Int.toNat_of_nonneg a] at this
  exact this
/-- the start of the greatest -/
def topF (cs ss : List Int) (r : Int) : Int := (paidF cs ss r 0 + cs.length) * per cs / (per cs - gain cs (per cs))
def chkGreat (cs ss : List Int) (r : Int) (g : Nat) : Bool := decide (wears cs) && decide (paidF cs ss r g = g) && (List.range ((topF cs ss r).toNat + 1)).all fun n => decide ((n : Int) ≤ paidF cs ss r n → n ≤ g)
theorem chk_great {cs ss : List Int} {r : Int} {g : Nat} (hc : ∀ c ∈ cs, 0 < c) (hl : ss.length = cs.length) (hs : ∀ s ∈ ss, 0 ≤ s) (h : chkGreat cs ss r g = true) : wears cs ∧ IsGreat cs ss r g := by
  unfold chkGreat at h
  rw [Bool.and_eq_true, Bool.and_eq_true, List.all_eq_true] at h
  have hw : wears cs := of_decide_eq_true h.1.1
  refine ⟨hw, by omega, of_decide_eq_true h.1.2, fun n a b => ?_⟩
  have ht := great_start hc hl hs hw a b
  have := of_decide_eq_true (h.2 n.toNat (by rw [List.mem_range]; unfold topF; omega))
  rw [Int.toNat_of_nonneg a] at this
  have := this b
  omega
end FR

/-! The laws' own reckoning: periods, deeds, going on till nothing is left. -/
namespace DL
open PySem PySem.Spec PyProof.Rows L2 FR
def wf_law_common : WFn := fun ds post => ∃ a b : Nat, ds = [.int a, .int b] ∧ post (.int (Nat.gcd a b : Nat))
def ws_law_common : WS := (wsSeq (wsWhile (wTest (wOp (wEq true) (wVar 1) (wC (.int 0)))) (wsPar 0 1 (wCons (wVar 1) (wCons (wOp wMod (wVar 0) (wVar 1)) wNil))))
  (wsRet (wVar 0)))
theorem len_law_common : ∀ ds post, wf_law_common ds post → ds.length = 2 := by
  rintro ds post ⟨a, b, rfl, _⟩
  rfl
theorem hd_law_common : ∀ ds post, wf_law_common ds post → ws_law_common { nx := fun _ => post .none, rt := post } (startR 2 ds) := fun ds post h => hd_common ds post h
def wf_law_whole : WFn := fun ds post => ∃ cs, ds = [tI cs] ∧ CardsOk cs ∧ post (.int (per cs : Nat))
def ws_law_whole : WS := (wsSeq (wsSet 1 (wC (.int 1)))
  (wsSeq (wsFor (wiTup (wVar 0)) (wName 2) (wsSet 1 (wOp wDiv (wOp wMul (wVar 1) (wVar 2)) (wFcall wf_law_common (wCons (wVar 1) (wCons (wVar 2) wNil))))))
  (wsRet (wVar 1))))
theorem len_law_whole : ∀ ds post, wf_law_whole ds post → ds.length = 1 := by
  rintro ds post ⟨cs, rfl, _⟩
  rfl
theorem hd_law_whole : ∀ ds post, wf_law_whole ds post → ws_law_whole { nx := fun _ => post .none, rt := post } (startR 3 ds) := fun ds post h => hd_period ds post h
def wf_law_wears : WFn := fun ds post => ∃ cs, ds = [tI cs] ∧ CardsOk cs ∧ post (.bool (decide (wears cs)))
def ws_law_wears : WS := (wsSeq (wsSet 1 (wFcall wf_law_whole (wCons (wVar 0) wNil)))
  (wsRet (wOp wLt (wCall wSum (wCons (wFrz (wLc (wiTup (wVar 0)) (wName 2) wYes (wOp wDiv (wVar 1) (wVar 2)) [2])) wNil)) (wVar 1))))
theorem len_law_wears : ∀ ds post, wf_law_wears ds post → ds.length = 1 := by
  rintro ds post ⟨cs, rfl, _⟩
  rfl
theorem hd_law_wears : ∀ ds post, wf_law_wears ds post → ws_law_wears { nx := fun _ => post .none, rt := post } (startR 3 ds) := fun ds post h => hd_wears_off ds post h
/-! ### a deed -/
/-- a ride (none), or a kind's full card; the purse behind it, none where it can't be done -/
def stepF (cs ss : List Int) (r : Int) : Option Nat → Option (Int × List Int)
  | none => if 0 < r then some (r - 1, ss.map (· + 1)) else none
  | some j => if ss.getD j 0 < cs.getD j 0 then none else some (r + 1, ss.set j (ss.getD j 0 - cs.getD j 0))
def stepD : Option (Int × List Int) → D
  | some p => pD p.1 p.2
  | none => .none
def deedD : Option Nat → D
  | none => .str (Str.ofString "ride")
  | some j => .int (j : Int)
theorem cl_ride : Cl (.str (Str.ofString "ride")) := by decide +kernel
theorem cl_deed (x : Option Nat) : Cl (deedD x) := by
  cases x
  · exact cl_ride
  · rfl
theorem deed_ride {x : Option Nat} : deedD x = .str (Str.ofString "ride") ↔ x = none := by
  cases x
  · simp [deedD]
  · simp [deedD]
theorem at_getD {ns : List Int} {j : Nat} (h : j < ns.length) : atI (ns.map PyData.int) (j : Int) = some (.int (ns.getD j 0)) := by
  rw [at_ints h, List.getD_eq_getElem?_getD, List.getElem?_eq_getElem h]
  rfl
theorem ixN_nat {n j : Nat} (h : j < n) : ixN n (j : Int) = some j := by
  unfold ixN
  rw [if_pos (by omega), if_pos (by omega)]
  rfl
def wf_law_step : WFn := fun ds post => ∃ cs r ss x, ds = [tI cs, pD r ss, deedD x] ∧ cs.length ≤ 3 ∧ ss.length = cs.length ∧ (∀ j, x = some j → j < cs.length) ∧ post (stepD (stepF cs ss r x))
def ws_law_step : WS := (wsSeq (wsParN 3 4 (wOp wIx (wVar 1) (wC (.int 0))) (wCallN wList (wCons (wOp wIx (wVar 1) (wC (.int 1))) wNil)))
  (wsSeq (wsIf (wTest (wOp (wEq false) (wVar 2) (wC (.str (Str.ofString "ride"))))) (wsFrz 4 (wsRet (wIf (wTest (wOp wGt (wVar 3) (wC (.int 0)))) (wTup (wCons (wOp wSub (wVar 3) (wC (.int 1))) (wCons (wCall wTuple (wCons (wFrz (wLc (wiLst (wVar 4)) (wName 5) wYes (wOp wAdd (wVar 5) (wC (.int 1))) [5])) wNil)) wNil))) (wC .none)))) wsNext)
  (wsSeq (wsIf (wTest (wOp wLt (wOp wIx (wVar 4) (wVar 2)) (wOp wIx (wVar 0) (wVar 2)))) (wsRet (wC .none)) wsNext)
  (wsSeq (wsSetI 4 (wVar 2) (wOp wSub (wOp wIx (wVar 4) (wVar 2)) (wOp wIx (wVar 0) (wVar 2))))
  (wsRet (wTup (wCons (wOp wAdd (wVar 3) (wC (.int 1))) (wCons (wCall wTuple (wCons (wVar 4) wNil)) wNil))))))))
theorem len_law_step : ∀ ds post, wf_law_step ds post → ds.length = 3 := by
  rintro ds post ⟨cs, r, ss, x, rfl, _⟩
  rfl
theorem hd_law_step : ∀ ds post, wf_law_step ds post → ws_law_step { nx := fun _ => post .none, rt := post } (startR 6 ds) := by
  rintro ds post ⟨cs, r, ss, x, rfl, hc, hl, hx, q⟩
  simp [ws_law_step, wsRet, wsRetN, wsSeq, wsNext, wsSet, wsAsg, wsPar, wsIf, wsExpr, wVar, wC, wOp, wUn, wCall, wNil, wCons, wI, wI0, wAdd, wSub, wMul, wDiv, wMod, wNeg, wLt, wLe, wGt, wGe, wIsN, isN_fr, isN_ow, isN_none, isN_int, isN_tup, isN_lst, wTest, wAnd, wOr, wNot, wAndV, wOrV, wNotV, wIf, wChain, wTup, wLst, wFrz, wLen, wMax, wMin, wIx, wIsi, plainD, isTy, wFcall, mapfr_nil, mapfr_cons, dat_fr, dat_ow, X.fr_inj, its_tup, its_lst, its_ow, itl_lst, itl_ow, atI_0, atI_1, atI_2, startR, wName, wNames, setAll, wipeR, and_assoc, wBag, wBag0, wBag1, wsBump, wsApp, wsSetN, wsFrz, wsParN, wsSetI, wsPar3, wRevT, wCallN, wList, pD]
  cases x with
  | none =>
    refine eqT cl_ride rfl ?_
    simp [wsRet, wsRetN, wsSeq, wsNext, wsSet, wsAsg, wsPar, wsIf, wsExpr, wVar, wC, wOp, wUn, wCall, wNil, wCons, wI, wI0, wAdd, wSub, wMul, wDiv, wMod, wNeg, wLt, wLe, wGt, wGe, wIsN, isN_fr, isN_ow, isN_none, isN_int, isN_tup, isN_lst, wTest, wAnd, wOr, wNot, wAndV, wOrV, wNotV, wIf, wChain, wTup, wLst, wFrz, wLen, wMax, wMin, wIx, wIsi, plainD, isTy, wFcall, mapfr_nil, mapfr_cons, dat_fr, dat_ow, X.fr_inj, its_tup, its_lst, its_ow, itl_lst, itl_ow, atI_0, atI_1, atI_2, startR, wName, wNames, setAll, wipeR, and_assoc, wBag, wBag0, wBag1, wsBump, wsApp, wsSetN, wsFrz, wsParN, wsSetI, wsPar3, wRevT]
    unfold stepF at q
    refine ite2 (fun h => ?_) (fun h => ?_)
    · rw [if_pos h] at q
      refine w_lcA ss PyData.int (fun s => .int (s + 1)) (fun q h => by simp [wiLst, wsRet, wsRetN, wsSeq, wsNext, wsSet, wsAsg, wsPar, wsIf, wsExpr, wVar, wC, wOp, wUn, wCall, wNil, wCons, wI, wI0, wAdd, wSub, wMul, wDiv, wMod, wNeg, wLt, wLe, wGt, wGe, wIsN, isN_fr, isN_ow, isN_none, isN_int, isN_tup, isN_lst, wTest, wAnd, wOr, wNot, wAndV, wOrV, wNotV, wIf, wChain, wTup, wLst, wFrz, wLen, wMax, wMin, wIx, wIsi, plainD, isTy, wFcall, mapfr_nil, mapfr_cons, dat_fr, dat_ow, X.fr_inj, its_tup, its_lst, its_ow, itl_lst, itl_ow, atI_0, atI_1, atI_2, startR, wName, wNames, setAll, wipeR, and_assoc, wBag, wBag0, wBag1, wsBump, wsApp, wsSetN, wsFrz, wsParN, wsSetI, wsPar3, wRevT]; exact h) (by omega) (fun s q m h => ?_) (w_tupleL ?_)
      · simp [wsRet, wsRetN, wsSeq, wsNext, wsSet, wsAsg, wsPar, wsIf, wsExpr, wVar, wC, wOp, wUn, wCall, wNil, wCons, wI, wI0, wAdd, wSub, wMul, wDiv, wMod, wNeg, wLt, wLe, wGt, wGe, wIsN, isN_fr, isN_ow, isN_none, isN_int, isN_tup, isN_lst, wTest, wAnd, wOr, wNot, wAndV, wOrV, wNotV, wIf, wChain, wTup, wLst, wFrz, wLen, wMax, wMin, wIx, wIsi, plainD, isTy, wFcall, mapfr_nil, mapfr_cons, dat_fr, dat_ow, X.fr_inj, its_tup, its_lst, its_ow, itl_lst, itl_ow, atI_0, atI_1, atI_2, startR, wName, wNames, setAll, wipeR, and_assoc, wBag, wBag0, wBag1, wsBump, wsApp, wsSetN, wsFrz, wsParN, wsSetI, wsPar3, wRevT]
        exact h
      · have e : ss.map (fun s => PyData.int (s + 1)) = (ss.map (· + 1)).map PyData.int := by rw [List.map_map]; rfl
        rw [e]
        exact ⟨_, ⟨_, rfl, rfl⟩, by simp, q⟩
    · rw [if_neg h] at q
      exact q
  | some j =>
    have hj := hx j rfl
    refine eqC rfl cl_ride (fun h => nomatch h) (fun _ => ?_)
    unfold stepF at q
    simp [wsRet, wsRetN, wsSeq, wsNext, wsSet, wsAsg, wsPar, wsIf, wsExpr, wVar, wC, wOp, wUn, wCall, wNil, wCons, wI, wI0, wAdd, wSub, wMul, wDiv, wMod, wNeg, wLt, wLe, wGt, wGe, wIsN, isN_fr, isN_ow, isN_none, isN_int, isN_tup, isN_lst, wTest, wAnd, wOr, wNot, wAndV, wOrV, wNotV, wIf, wChain, wTup, wLst, wFrz, wLen, wMax, wMin, wIx, wIsi, plainD, isTy, wFcall, mapfr_nil, mapfr_cons, dat_fr, dat_ow, X.fr_inj, its_tup, its_lst, its_ow, itl_lst, itl_ow, atI_0, atI_1, atI_2, startR, wName, wNames, setAll, wipeR, and_assoc, wBag, wBag0, wBag1, wsBump, wsApp, wsSetN, wsFrz, wsParN, wsSetI, wsPar3, wRevT, deedD]
    have e1 := at_getD (ns := ss) (j := j) (by omega)
    have e2 := at_getD hj
    refine ⟨_, e1, _, e2, _, rfl, _, rfl, ite2 (fun h => ?_) (fun h => ?_)⟩
    · have q : post (stepD (if ss.getD j 0 < cs.getD j 0 then none else some (r + 1, ss.set j (ss.getD j 0 - cs.getD j 0)))) := q
      rw [if_pos h] at q
      exact q
    · have q : post (stepD (if ss.getD j 0 < cs.getD j 0 then none else some (r + 1, ss.set j (ss.getD j 0 - cs.getD j 0)))) := q
      rw [if_neg h] at q
      refine ⟨_, e1, _, e2, _, rfl, _, rfl, _, ixN_nat (by omega), w_tupleO ?_⟩
      have e : (ss.map PyData.int).set j (.int (ss.getD j 0 - cs.getD j 0)) = (ss.set j (ss.getD j 0 - cs.getD j 0)).map PyData.int := List.map_set.symm
      rw [e]
      exact ⟨_, ⟨_, rfl, rfl⟩, by simp, q⟩
/-! ### till nothing is left -/
def onD (cs ss : List Int) : Option Int → D
  | some t => .tuple [.int t, tI (leftF cs ss t)]
  | none => .none
def wf_law_on : WFn := fun ds post => ∃ cs r ss most o, ds = [bagD, tI cs, pD r ss, .int most] ∧ CardsOk cs ∧ 0 ≤ r ∧ ss.length = cs.length ∧ (∀ s ∈ ss, 0 ≤ s) ∧ 0 ≤ most ∧ IsAll cs ss r o ∧ (∀ t, o = some t → t ≤ most) ∧ post (onD cs ss o)
def ws_law_on : WS := (wsSeq (wsPar 4 5 (wCons (wC (.int 0)) (wCons (wFrz (wLst (wCons (wC (.int 0)) wNil))) wNil)))
  (wsSeq (wsWhile (wTest (wOp (wEq true) (wVar 5) (wFrz (wLst wNil)))) (wsSeq (wsSet 5 (wFrz (wLc (wiLst (wFrz (wOpN wCat (wFrz (wLst (wCons (wC (.str (Str.ofString "ride"))) wNil))) (wFrz (wListR1 (wCall wLen (wCons (wVar 1) wNil))))))) (wName 6) (wTest (wOp (wIsN true) (wFcall wf_law_step (wCons (wVar 1) (wCons (wVar 2) (wCons (wVar 6) wNil)))) (wC .none))) (wVar 6) [6])))
  (wsIf (wTest (wOp (wEq true) (wVar 5) (wFrz (wLst wNil)))) (wsSeq (wsSet 6 (wOp wIx (wVar 5) (wFcall wf_law_take (wCons (wVar 0) (wCons (wCall wLen (wCons (wVar 5) wNil)) wNil)))))
  (wsSeq (wsSet 2 (wFcall wf_law_step (wCons (wVar 1) (wCons (wVar 2) (wCons (wVar 6) wNil)))))
  (wsSeq (wsSet 4 (wOp wAdd (wVar 4) (wCall wInt1 (wCons (wOp (wEq false) (wVar 6) (wC (.str (Str.ofString "ride")))) wNil))))
  (wsIf (wTest (wOp wGt (wVar 4) (wVar 3))) (wsRet (wC .none)) wsNext)))) wsNext)))
  (wsRet (wTup (wCons (wVar 4) (wCons (wOp wIx (wVar 2) (wC (.int 1))) wNil))))))
theorem len_law_on : ∀ ds post, wf_law_on ds post → ds.length = 4 := by
  rintro ds post ⟨cs, r, ss, most, o, rfl, _⟩
  rfl
/-- the deeds -/
def deeds (n : Nat) : List (Option Nat) := none :: (List.range n).map some
theorem deeds_in {n : Nat} {x : Option Nat} (h : x ∈ deeds n) : ∀ j, x = some j → j < n := by
  rintro j rfl
  unfold deeds at h
  rcases List.mem_cons.mp h with h | h
  · cases h
  · obtain ⟨i, hi, e⟩ := List.mem_map.mp h
    cases e
    exact List.mem_range.mp hi
theorem deeds_map (n : Nat) : (deeds n).map deedD = .str (Str.ofString "ride") :: rgD 0 n := by
  unfold deeds rgD
  rw [List.map_cons, List.map_map]
  congr 1
  apply List.map_congr_left
  intro i _
  show PyData.int (i : Int) = .int (0 + (i : Int))
  rw [Int.zero_add]
/-- those that can be done -/
def goesF (cs ss : List Int) (r : Int) : List (Option Nat) := (deeds cs.length).filter fun x => (stepF cs ss r x).isSome
theorem goes_nil {cs ss : List Int} {r : Int} (hr : 0 ≤ r) (hl : ss.length = cs.length) (h : goesF cs ss r = []) : r = 0 ∧ NoFull cs ss := by
  have no : ∀ x ∈ deeds cs.length, (stepF cs ss r x).isSome = false := fun x m => by
    cases e : (stepF cs ss r x).isSome with
    | false => rfl
    | true =>
      have : x ∈ goesF cs ss r := List.mem_filter.mpr ⟨m, e⟩
      rw [h] at this
      cases this
  constructor
  · have := no none List.mem_cons_self
    unfold stepF at this
    by_cases h : 0 < r
    · simp [h] at this
    · omega
  · intro j c s hj hs
    have hjl : j < cs.length := (List.getElem?_eq_some_iff.mp hj).1
    have := no (some j) (List.mem_cons_of_mem _ (List.mem_map.mpr ⟨j, List.mem_range.mpr hjl, rfl⟩))
    simp only [stepF, List.getD_eq_getElem?_getD, hj, hs, Option.getD_some] at this
    by_cases h : s < c
    · exact h
    · simp [h] at this
theorem sum_ride : ∀ ss : List Int, (ss.map (· + 1)).sum = ss.sum + ss.length
  | [] => rfl
  | s :: ss => by
    rw [List.map_cons, List.sum_cons, List.sum_cons, sum_ride ss, List.length_cons]
    omega
theorem sum_give : ∀ {ss : List Int} {j : Nat} {s x : Int}, ss[j]? = some s → (ss.set j x).sum = ss.sum - s + x
  | [], j, s, x, h => by simp at h
  | t :: ss, 0, s, x, h => by
    have e : t = s := by simpa using h
    subst e
    rw [List.set_cons_zero, List.sum_cons, List.sum_cons]
    omega
  | t :: ss, j + 1, s, x, h => by
    rw [List.set_cons_succ, List.sum_cons, List.sum_cons, sum_give (ss := ss) (s := s) (by simpa using h)]
    omega
theorem sum_nonneg : ∀ {ss : List Int}, (∀ s ∈ ss, 0 ≤ s) → 0 ≤ ss.sum
  | [], _ => by simp
  | t :: ss, h => by
    rw [List.sum_cons]
    have := sum_nonneg (ss := ss) fun s m => h s (List.mem_cons_of_mem _ m)
    have := h t List.mem_cons_self
    omega
/-- what is behind a deed that can be done -/
theorem step_sim {cs ss0 ss : List Int} {r0 n r : Int} (hc : CardsOk cs) (h : Sim cs ss0 r0 n r ss) {x : Option Nat} (hx : ∀ j, x = some j → j < cs.length) {p : Int × List Int} (hp : stepF cs ss r x = some p) :
    Sim cs ss0 r0 (n + if x = none then 1 else 0) p.1 p.2 ∧ p.2.sum < ss.sum + 4 * (if x = none then 1 else 0) := by
  cases x with
  | none =>
    simp only [stepF] at hp
    by_cases h0 : 0 < r
    · rw [if_pos h0] at hp
      cases hp
      refine ⟨h.ride hc.pos h0, ?_⟩
      show (ss.map (· + 1)).sum < _
      rw [sum_ride, h.len]
      have := hc.2.1
      simp
      omega
    · rw [if_neg h0] at hp
      cases hp
  | some j =>
    have hj := hx j rfl
    have e1 : cs[j]? = some (cs.getD j 0) := by rw [List.getD_eq_getElem?_getD, List.getElem?_eq_getElem hj]; rfl
    have e2 : ss[j]? = some (ss.getD j 0) := by rw [List.getD_eq_getElem?_getD, List.getElem?_eq_getElem (by rw [h.len]; exact hj)]; rfl
    simp only [stepF] at hp
    by_cases h0 : ss.getD j 0 < cs.getD j 0
    · rw [if_pos h0] at hp
      cases hp
    · rw [if_neg h0] at hp
      cases hp
      have := (hc.2.2 _ (List.mem_of_getElem? e1)).1
      refine ⟨?_, ?_⟩
      · simpa using h.give hc.pos e1 e2 (by omega)
      · show (ss.set j _).sum < ss.sum + 4 * (if some j = none then 1 else 0)
        rw [sum_give e2, if_neg (fun z => nomatch z)]
        omega
def InvOn (cs ss0 : List Int) (r0 most : Int) (m : Nat) (ρ : Ρ) : Prop := ∃ (n r : Int) (ss : List Int) (its : List D) (z : Sl), ρ = [some (.fr bagD), some (.fr (tI cs)), some (.fr (pD r ss)), some (.fr (.int most)), some (.fr (.int n)), some (.fr (.list its)), z] ∧ Sim cs ss0 r0 n r ss ∧ n ≤ most ∧ Cl (.list its) ∧
  (its = [] → r = 0 ∧ NoFull cs ss) ∧ m = if its = [] then 0 else ((most + 1 - n) * 4 + ss.sum).toNat + 1
theorem hd_law_on : ∀ ds post, wf_law_on ds post → ws_law_on { nx := fun _ => post .none, rt := post } (startR 7 ds) := by
  rintro ds post ⟨cs, r0, ss0, most, o, rfl, hc, hr, hl, hs, hm, ho, hmost, q⟩
  simp [ws_law_on, wsRet, wsRetN, wsSeq, wsNext, wsSet, wsAsg, wsPar, wsIf, wsExpr, wVar, wC, wOp, wUn, wCall, wNil, wCons, wI, wI0, wAdd, wSub, wMul, wDiv, wMod, wNeg, wLt, wLe, wGt, wGe, wIsN, isN_fr, isN_ow, isN_none, isN_int, isN_tup, isN_lst, wTest, wAnd, wOr, wNot, wAndV, wOrV, wNotV, wIf, wChain, wTup, wLst, wFrz, wLen, wMax, wMin, wIx, wIsi, plainD, isTy, wFcall, mapfr_nil, mapfr_cons, dat_fr, dat_ow, X.fr_inj, its_tup, its_lst, its_ow, itl_lst, itl_ow, atI_0, atI_1, atI_2, startR, wName, wNames, setAll, wipeR, and_assoc, wBag, wBag0, wBag1, wsBump, wsApp, wsSetN, wsFrz, wsParN, wsSetI, wsPar3, wRevT]
  refine w_while (InvOn cs ss0 r0 most) _ ⟨0, r0, ss0, [.int 0], none, rfl, Sim.start hr hl hs, hm, rfl, fun h => (nomatch h), rfl⟩ ?_
  rintro m ρ ⟨n, r, ss, its, z, rfl, S, hn, hcl, hend, rfl⟩
  simp [wsRet, wsRetN, wsSeq, wsNext, wsSet, wsAsg, wsPar, wsIf, wsExpr, wVar, wC, wOp, wUn, wCall, wNil, wCons, wI, wI0, wAdd, wSub, wMul, wDiv, wMod, wNeg, wLt, wLe, wGt, wGe, wIsN, isN_fr, isN_ow, isN_none, isN_int, isN_tup, isN_lst, wTest, wAnd, wOr, wNot, wAndV, wOrV, wNotV, wIf, wChain, wTup, wLst, wFrz, wLen, wMax, wMin, wIx, wIsi, plainD, isTy, wFcall, mapfr_nil, mapfr_cons, dat_fr, dat_ow, X.fr_inj, its_tup, its_lst, its_ow, itl_lst, itl_ow, atI_0, atI_1, atI_2, startR, wName, wNames, setAll, wipeR, and_assoc, wBag, wBag0, wBag1, wsBump, wsApp, wsSetN, wsFrz, wsParN, wsSetI, wsPar3, wRevT]
  refine neC hcl rfl (fun h => ?_) (fun h => ?_)
  · -- nothing is left
    obtain rfl : its = [] := by injection h
    obtain ⟨h0, hf⟩ := hend rfl
    obtain ⟨a1, a2⟩ := S.stop h0 hf
    obtain rfl := ho.uniq a1
    simp [wsRet, wsRetN, wsSeq, wsNext, wsSet, wsAsg, wsPar, wsIf, wsExpr, wVar, wC, wOp, wUn, wCall, wNil, wCons, wI, wI0, wAdd, wSub, wMul, wDiv, wMod, wNeg, wLt, wLe, wGt, wGe, wIsN, isN_fr, isN_ow, isN_none, isN_int, isN_tup, isN_lst, wTest, wAnd, wOr, wNot, wAndV, wOrV, wNotV, wIf, wChain, wTup, wLst, wFrz, wLen, wMax, wMin, wIx, wIsi, plainD, isTy, wFcall, mapfr_nil, mapfr_cons, dat_fr, dat_ow, X.fr_inj, its_tup, its_lst, its_ow, itl_lst, itl_ow, atI_0, atI_1, atI_2, startR, wName, wNames, setAll, wipeR, and_assoc, wBag, wBag0, wBag1, wsBump, wsApp, wsSetN, wsFrz, wsParN, wsSetI, wsPar3, wRevT, pD]
    rw [a2]
    exact q
  · have hne : its ≠ [] := fun z => h (by rw [z])
    simp [wsRet, wsRetN, wsSeq, wsNext, wsSet, wsAsg, wsPar, wsIf, wsExpr, wVar, wC, wOp, wUn, wCall, wNil, wCons, wI, wI0, wAdd, wSub, wMul, wDiv, wMod, wNeg, wLt, wLe, wGt, wGe, wIsN, isN_fr, isN_ow, isN_none, isN_int, isN_tup, isN_lst, wTest, wAnd, wOr, wNot, wAndV, wOrV, wNotV, wIf, wChain, wTup, wLst, wFrz, wLen, wMax, wMin, wIx, wIsi, plainD, isTy, wFcall, mapfr_nil, mapfr_cons, dat_fr, dat_ow, X.fr_inj, its_tup, its_lst, its_ow, itl_lst, itl_ow, atI_0, atI_1, atI_2, startR, wName, wNames, setAll, wipeR, and_assoc, wBag, wBag0, wBag1, wsBump, wsApp, wsSetN, wsFrz, wsParN, wsSetI, wsPar3, wRevT]
    refine w_lcF (deeds cs.length) deedD deedD (fun x => (stepF cs ss r x).isSome) (fun q h => ?_) ?_ (fun x q p m h1 h2 => ?_) ?_
    · simp [wiLst, wsRet, wsRetN, wsSeq, wsNext, wsSet, wsAsg, wsPar, wsIf, wsExpr, wVar, wC, wOp, wUn, wCall, wNil, wCons, wI, wI0, wAdd, wSub, wMul, wDiv, wMod, wNeg, wLt, wLe, wGt, wGe, wIsN, isN_fr, isN_ow, isN_none, isN_int, isN_tup, isN_lst, wTest, wAnd, wOr, wNot, wAndV, wOrV, wNotV, wIf, wChain, wTup, wLst, wFrz, wLen, wMax, wMin, wIx, wIsi, plainD, isTy, wFcall, mapfr_nil, mapfr_cons, dat_fr, dat_ow, X.fr_inj, its_tup, its_lst, its_ow, itl_lst, itl_ow, atI_0, atI_1, atI_2, startR, wName, wNames, setAll, wipeR, and_assoc, wBag, wBag0, wBag1, wsBump, wsApp, wsSetN, wsFrz, wsParN, wsSetI, wsPar3, wRevT, wOpN, wCat, wListR1]
      rw [deeds_map] at h
      have := hc.2.1
      exact ⟨by omega, by rw [rgD_len]; omega, h⟩
    · simp [deeds]
      have := hc.2.1
      omega
    · simp [wsRet, wsRetN, wsSeq, wsNext, wsSet, wsAsg, wsPar, wsIf, wsExpr, wVar, wC, wOp, wUn, wCall, wNil, wCons, wI, wI0, wAdd, wSub, wMul, wDiv, wMod, wNeg, wLt, wLe, wGt, wGe, wIsN, isN_fr, isN_ow, isN_none, isN_int, isN_tup, isN_lst, wTest, wAnd, wOr, wNot, wAndV, wOrV, wNotV, wIf, wChain, wTup, wLst, wFrz, wLen, wMax, wMin, wIx, wIsi, plainD, isTy, wFcall, mapfr_nil, mapfr_cons, dat_fr, dat_ow, X.fr_inj, its_tup, its_lst, its_ow, itl_lst, itl_ow, atI_0, atI_1, atI_2, startR, wName, wNames, setAll, wipeR, and_assoc, wBag, wBag0, wBag1, wsBump, wsApp, wsSetN, wsFrz, wsParN, wsSetI, wsPar3, wRevT]
      refine ⟨cs, r, ss, x, rfl, hc.2.1, S.len, deeds_in m, ?_⟩
      cases e : stepF cs ss r x with
      | none => exact .inl ⟨rfl, h2 (by rw [e]; rfl)⟩
      | some p => exact .inr ⟨rfl, h1 (by rw [e]; rfl)⟩
    · have hG : (deeds cs.length).filter (fun x => (stepF cs ss r x).isSome) = goesF cs ss r := rfl
      rw [hG]
      have hin : ∀ x ∈ goesF cs ss r, x ∈ deeds cs.length ∧ (stepF cs ss r x).isSome = true := fun x m => List.mem_filter.mp m
      have hgn : goesF cs ss r = [] → r = 0 ∧ NoFull cs ss := goes_nil S.rn S.len
      generalize goesF cs ss r = G at hin hgn
      show wEq true (X.fr (PyData.list (G.map deedD))) _ _
      have hclG : Cl (.list (G.map deedD)) := by
        show (G.map deedD).all (cleanN 5) = true
        rw [List.all_map, List.all_eq_true]
        intro x _
        cases x
        · show cleanN 5 (.str (Str.ofString "ride")) = true
          decide +kernel
        · rfl
      rw [if_neg hne]
      refine neC hclG rfl (fun h => ?_) (fun h => ?_)
      · left
        have hg : G = [] := by
          have : G.map deedD = [] := by
            have := h
            simp only [dat_fr] at this
            injection this
          exact List.map_eq_nil_iff.mp this
        refine ⟨rfl, 0, by omega, n, r, ss, [], z, by rw [hg]; rfl, S, hn, rfl, fun _ => hgn hg, rfl⟩
      · right
        have hg : G ≠ [] := fun z => h (by rw [z]; rfl)
        have hlg : 0 < G.length := List.length_pos_iff.mpr hg
        refine ⟨rfl, take_mk (by rw [List.length_map]; omega) fun i i0 i1 => ⟨_, i, rfl, rfl, ?_⟩⟩
        rw [List.length_map] at i1
        obtain ⟨j, rfl⟩ := Int.eq_ofNat_of_zero_le i0
        have hj : j < G.length := by omega
        refine ⟨deedD G[j], atI_nat (show (G.map deedD)[j]? = _ by rw [List.getElem?_map, List.getElem?_eq_getElem hj]; rfl), ?_⟩
        have hm := List.getElem_mem hj
        generalize G[j] = x at hm ⊢
        obtain ⟨m1, m2⟩ := hin x hm
        have hx := deeds_in m1
        refine ⟨cs, r, ss, x, rfl, hc.2.1, S.len, hx, ?_⟩
        cases e : stepF cs ss r x with
        | none => rw [e] at m2; cases m2
        | some p =>
          obtain ⟨S2, lt⟩ := step_sim hc S hx e
          have fin : ∀ k : Int, k = (if x = none then 1 else 0) → (if most < n + k then post PyData.none
                                else
                                  ∃ m',
                                    (m' < ((most + 1 - n) * 4 + ss.sum).toNat + 1) ∧
                                      InvOn cs ss0 r0 most m'
                                        [some (X.fr bagD), some (X.fr (tI cs)), some (X.fr (stepD (some p))),
                                          some (X.fr (PyData.int most)), some (X.fr (PyData.int (n + k))),
                                          some (X.fr (PyData.list (G.map deedD))), some (X.fr (deedD x))]) := fun k hk => by
            rw [← hk] at S2 lt
            refine ite2 (fun hh => ?_) (fun hh => ?_)
            · have := S2.far ho
              cases o with
              | none => exact q
              | some t =>
                have := this t rfl
                have := hmost t rfl
                omega
            · have h1 := sum_nonneg S.s0
              have h2 := sum_nonneg S2.s0
              refine ⟨((most + 1 - (n + k)) * 4 + p.2.sum).toNat + 1, by omega, n + k, p.1, p.2, _, some (X.fr (deedD x)), rfl, S2, by omega, hclG, fun h => absurd h (fun z => hg (List.map_eq_nil_iff.mp z)), ?_⟩
              rw [if_neg (fun z => hg (List.map_eq_nil_iff.mp z))]
          refine eqC (cl_deed x) cl_ride (fun h => ?_) (fun h => ?_)
          · have : x = none := deed_ride.mp h
            exact .inr ⟨true, rfl, _, rfl, fin 1 (by rw [if_pos this])⟩
          · have : x ≠ none := fun z => h (deed_ride.mpr z)
            exact .inr ⟨false, rfl, _, rfl, fin 0 (by rw [if_neg this])⟩
theorem cl_onD (cs ss : List Int) (o : Option Int) : Cl (onD cs ss o) := by
  cases o with
  | none => rfl
  | some t =>
    show (cleanN 5 (.int t) && (((leftF cs ss t).map PyData.int).all (cleanN 4) && true)) = true
    rw [cl_ints]
    rfl
theorem isN_onD (cs ss : List Int) (o : Option Int) : dIsN (onD cs ss o) = o.isNone := by cases o <;> rfl
theorem cl_leftD (cs ss : List Int) (o : Option Int) : Cl (leftD cs ss o) := by
  cases o with
  | none => rfl
  | some t => exact cl_tI _
theorem all_is {cs ss : List Int} {r : Int} {o : Option Int} {post : D → Prop} (hc : CardsOk cs) (hp : PurseOk cs r ss) (ho : IsAll cs ss r o) (h : post (oD o)) : wf_all_rides [tI cs, pD r ss] post := all_mk' hc hp fun o2 ho2 => by
  obtain rfl := ho.uniq ho2
  exact h
theorem left_is {cs ss : List Int} {r : Int} {o : Option Int} {post : D → Prop} (hc : CardsOk cs) (hp : PurseOk cs r ss) (ho : IsAll cs ss r o) (h : post (leftD cs ss o)) : wf_left [tI cs, pD r ss] post := left_mk hc hp fun o2 ho2 => by
  obtain rfl := ho.uniq ho2
  exact h
end DL

/-! What the program's defs do, on data: checks that refuse. -/
namespace DL
open PySem PySem.Spec PyProof.Rows L2 FR
/-- what comes of a check -/
def outc (o : Option Nat) (p : Prop) (xp : XV → Prop) : Prop := match o with
  | none => p
  | some i => xp ⟨i, none⟩
def dlen : D → Nat
  | .tuple ds => ds.length
  | _ => 0
def chkC (c : D) : Option Nat := if areCards c = true then none else some 0
def chkP (c p : D) : Option Nat := if areCards c = true then if isPurse (dlen c) p = true then none else some 1 else some 0
def chkS (c s : D) : Option Nat := if areCards c = true then if areStamps (dlen c) s = true then none else some 2 else some 0
theorem ints_of {lo hi : Int} : ∀ {ds : List D}, ds.all (isW lo hi) = true → ∃ ns : List Int, ds = ns.map PyData.int ∧ ∀ n ∈ ns, lo ≤ n ∧ n ≤ hi
  | [], _ => ⟨[], rfl, fun _ h => nomatch h⟩
  | d :: ds, h => by
    rw [List.all_cons, Bool.and_eq_true] at h
    obtain ⟨ns, rfl, hn⟩ := ints_of h.2
    cases d with
    | int i =>
      have h1 : (decide (lo ≤ i) && decide (i ≤ hi)) = true := h.1
      rw [Bool.and_eq_true, decide_eq_true_eq, decide_eq_true_eq] at h1
      exact ⟨i :: ns, rfl, fun n m => by
        rcases List.mem_cons.mp m with rfl | m
        · exact h1
        · exact hn n m⟩
    | _ => exact absurd h.1 (by simp [isW])
theorem cards_of {c : D} (h : areCards c = true) : ∃ cs, c = tI cs ∧ CardsOk cs := by
  cases c with
  | tuple ds =>
    have h : (decide (1 ≤ ds.length) && decide (ds.length ≤ 3) && ds.all (isW 2 20)) = true := h
    rw [Bool.and_eq_true, Bool.and_eq_true, decide_eq_true_eq, decide_eq_true_eq] at h
    obtain ⟨⟨h1, h2⟩, h3⟩ := h
    obtain ⟨ns, rfl, hn⟩ := ints_of h3
    rw [List.length_map] at h1 h2
    exact ⟨ns, rfl, h1, h2, hn⟩
  | _ => cases h
theorem dlen_tI (cs : List Int) : dlen (tI cs) = cs.length := by
  show (cs.map PyData.int).length = cs.length
  rw [List.length_map]
theorem stamps_of {n : Nat} {s : D} (h : areStamps n s = true) : ∃ ss, s = tI ss ∧ ss.length = n ∧ ∀ s ∈ ss, 0 ≤ s ∧ s ≤ 10 ^ 18 := by
  cases s with
  | tuple ds =>
    have h : (decide (ds.length = n) && ds.all (isW 0 (10 ^ 18))) = true := h
    rw [Bool.and_eq_true, decide_eq_true_eq] at h
    obtain ⟨ns, rfl, hn⟩ := ints_of h.2
    rw [List.length_map] at h
    exact ⟨ns, rfl, h.1, hn⟩
  | _ => cases h
theorem isW_of {lo hi : Int} {d : D} (h : isW lo hi d = true) : ∃ i, d = .int i ∧ lo ≤ i ∧ i ≤ hi := by
  cases d with
  | int i =>
    have h1 : (decide (lo ≤ i) && decide (i ≤ hi)) = true := h
    rw [Bool.and_eq_true, decide_eq_true_eq, decide_eq_true_eq] at h1
    exact ⟨i, rfl, h1⟩
  | _ => cases h
theorem purse_of {cs : List Int} {p : D} (h : isPurse cs.length p = true) : ∃ r ss, p = pD r ss ∧ PurseOk cs r ss := by
  unfold isPurse at h
  split at h
  · rw [Bool.and_eq_true] at h
    obtain ⟨r, rfl, hr⟩ := isW_of h.1
    obtain ⟨ss, rfl, hl, hs⟩ := stamps_of h.2
    exact ⟨r, ss, rfl, hr, hl, hs⟩
  · cases h
def wx_need_cards : WFnX := fun ds post xp => ∃ c, ds = [c] ∧ c.canLay0 = true ∧ outc (chkC c) (post .none) xp
def wsx_need_cards (xp : XV → Prop) : WS := (wsIf (wNot (wTest (wFcall wf_are_cards (wCons (wVar 0) wNil)))) (wsRaise xp 0) wsNext)
theorem lenx_need_cards : ∀ ds post xp, wx_need_cards ds post xp → ds.length = 1 := by
  rintro ds post xp ⟨c, rfl, _⟩
  rfl
theorem hdx_need_cards : ∀ ds post xp, wx_need_cards ds post xp → wsx_need_cards xp { nx := fun _ => post .none, rt := post } (startR 1 ds) := by
  rintro ds post xp ⟨c, rfl, hc, q⟩
  unfold chkC at q
  cases h : areCards c <;> rw [h] at q <;> simp [wsx_need_cards, wsRet, wsRetN, wsSeq, wsNext, wsSet, wsAsg, wsPar, wsIf, wsExpr, wVar, wC, wOp, wUn, wCall, wNil, wCons, wI, wI0, wAdd, wSub, wMul, wDiv, wMod, wNeg, wLt, wLe, wGt, wGe, wIsN, isN_fr, isN_ow, isN_none, isN_int, isN_tup, isN_lst, wTest, wAnd, wOr, wNot, wAndV, wOrV, wNotV, wIf, wChain, wTup, wLst, wFrz, wLen, wMax, wMin, wIx, wIsi, plainD, isTy, wFcall, mapfr_nil, mapfr_cons, dat_fr, dat_ow, X.fr_inj, its_tup, its_lst, its_ow, itl_lst, itl_ow, atI_0, atI_1, atI_2, startR, wName, wNames, setAll, wipeR, and_assoc, wBag, wBag0, wBag1, wsBump, wsApp, wsSetN, wsFrz, wsParN, wsSetI, wsPar3, wRevT, wsParO, wXcall, calm, wNcall, wf_are_cards, h, hc, wsRaise] <;> exact q
/-- need_cards passes, or all is over -/
theorem needC {c : D} {p : Prop} {xp : XV → Prop} {post : D → Prop} (hc : c.canLay0 = true) (o : outc (if areCards c = true then none else some 0) (post .none) xp) : wx_need_cards [c] post xp := ⟨c, rfl, hc, o⟩
def wx_need_purse : WFnX := fun ds post xp => ∃ c p, ds = [c, p] ∧ c.canLay0 = true ∧ p.canLay0 = true ∧ outc (chkP c p) (post .none) xp
def wsx_need_purse (xp : XV → Prop) : WS := (wsSeq (wsExpr (wXcall wx_need_cards xp (wCons (wVar 0) wNil)))
  (wsIf (wNot (wTest (wFcall wf_is_all_purse (wCons (wVar 0) (wCons (wVar 1) wNil))))) (wsRaise xp 1) wsNext))
theorem lenx_need_purse : ∀ ds post xp, wx_need_purse ds post xp → ds.length = 2 := by
  rintro ds post xp ⟨c, p, rfl, _⟩
  rfl
theorem hdx_need_purse : ∀ ds post xp, wx_need_purse ds post xp → wsx_need_purse xp { nx := fun _ => post .none, rt := post } (startR 2 ds) := by
  rintro ds post xp ⟨c, p, rfl, hc, hp, q⟩
  simp [wsx_need_purse, wsRet, wsRetN, wsSeq, wsNext, wsSet, wsAsg, wsPar, wsIf, wsExpr, wVar, wC, wOp, wUn, wCall, wNil, wCons, wI, wI0, wAdd, wSub, wMul, wDiv, wMod, wNeg, wLt, wLe, wGt, wGe, wIsN, isN_fr, isN_ow, isN_none, isN_int, isN_tup, isN_lst, wTest, wAnd, wOr, wNot, wAndV, wOrV, wNotV, wIf, wChain, wTup, wLst, wFrz, wLen, wMax, wMin, wIx, wIsi, plainD, isTy, wFcall, mapfr_nil, mapfr_cons, dat_fr, dat_ow, X.fr_inj, its_tup, its_lst, its_ow, itl_lst, itl_ow, atI_0, atI_1, atI_2, startR, wName, wNames, setAll, wipeR, and_assoc, wBag, wBag0, wBag1, wsBump, wsApp, wsSetN, wsFrz, wsParN, wsSetI, wsPar3, wRevT, wsParO, wXcall, calm, wNcall, wXcall]
  refine ⟨c, rfl, hc, ?_⟩
  unfold chkP at q
  unfold chkC
  cases h : areCards c with
  | false =>
    rw [h] at q
    exact q
  | true =>
    rw [h, if_pos rfl] at q
    rw [if_pos rfl]
    obtain ⟨cs, rfl, ok⟩ := cards_of h
    rw [dlen_tI] at q
    refine ⟨cs, p, rfl, ok, hp, ?_⟩
    cases h2 : isPurse cs.length p <;> rw [h2] at q <;> simp [wsRet, wsRetN, wsSeq, wsNext, wsSet, wsAsg, wsPar, wsIf, wsExpr, wVar, wC, wOp, wUn, wCall, wNil, wCons, wI, wI0, wAdd, wSub, wMul, wDiv, wMod, wNeg, wLt, wLe, wGt, wGe, wIsN, isN_fr, isN_ow, isN_none, isN_int, isN_tup, isN_lst, wTest, wAnd, wOr, wNot, wAndV, wOrV, wNotV, wIf, wChain, wTup, wLst, wFrz, wLen, wMax, wMin, wIx, wIsi, plainD, isTy, wFcall, mapfr_nil, mapfr_cons, dat_fr, dat_ow, X.fr_inj, its_tup, its_lst, its_ow, itl_lst, itl_ow, atI_0, atI_1, atI_2, startR, wName, wNames, setAll, wipeR, and_assoc, wBag, wBag0, wBag1, wsBump, wsApp, wsSetN, wsFrz, wsParN, wsSetI, wsPar3, wRevT, wsParO, wXcall, calm, wNcall, wsRaise] <;> exact q
def wx_need_stamps : WFnX := fun ds post xp => ∃ c p, ds = [c, p] ∧ c.canLay0 = true ∧ p.canLay0 = true ∧ outc (chkS c p) (post .none) xp
def wsx_need_stamps (xp : XV → Prop) : WS := (wsSeq (wsExpr (wXcall wx_need_cards xp (wCons (wVar 0) wNil)))
  (wsIf (wNot (wTest (wFcall wf_are_stamps (wCons (wVar 0) (wCons (wVar 1) wNil))))) (wsRaise xp 2) wsNext))
theorem lenx_need_stamps : ∀ ds post xp, wx_need_stamps ds post xp → ds.length = 2 := by
  rintro ds post xp ⟨c, p, rfl, _⟩
  rfl
theorem hdx_need_stamps : ∀ ds post xp, wx_need_stamps ds post xp → wsx_need_stamps xp { nx := fun _ => post .none, rt := post } (startR 2 ds) := by
  rintro ds post xp ⟨c, p, rfl, hc, hp, q⟩
  simp [wsx_need_stamps, wsRet, wsRetN, wsSeq, wsNext, wsSet, wsAsg, wsPar, wsIf, wsExpr, wVar, wC, wOp, wUn, wCall, wNil, wCons, wI, wI0, wAdd, wSub, wMul, wDiv, wMod, wNeg, wLt, wLe, wGt, wGe, wIsN, isN_fr, isN_ow, isN_none, isN_int, isN_tup, isN_lst, wTest, wAnd, wOr, wNot, wAndV, wOrV, wNotV, wIf, wChain, wTup, wLst, wFrz, wLen, wMax, wMin, wIx, wIsi, plainD, isTy, wFcall, mapfr_nil, mapfr_cons, dat_fr, dat_ow, X.fr_inj, its_tup, its_lst, its_ow, itl_lst, itl_ow, atI_0, atI_1, atI_2, startR, wName, wNames, setAll, wipeR, and_assoc, wBag, wBag0, wBag1, wsBump, wsApp, wsSetN, wsFrz, wsParN, wsSetI, wsPar3, wRevT, wsParO, wXcall, calm, wNcall, wXcall]
  refine ⟨c, rfl, hc, ?_⟩
  unfold chkS at q
  unfold chkC
  cases h : areCards c with
  | false =>
    rw [h] at q
    exact q
  | true =>
    rw [h, if_pos rfl] at q
    rw [if_pos rfl]
    obtain ⟨cs, rfl, ok⟩ := cards_of h
    rw [dlen_tI] at q
    refine ⟨cs, p, rfl, ok, hp, ?_⟩
    cases h2 : areStamps cs.length p <;> rw [h2] at q <;> simp [wsRet, wsRetN, wsSeq, wsNext, wsSet, wsAsg, wsPar, wsIf, wsExpr, wVar, wC, wOp, wUn, wCall, wNil, wCons, wI, wI0, wAdd, wSub, wMul, wDiv, wMod, wNeg, wLt, wLe, wGt, wGe, wIsN, isN_fr, isN_ow, isN_none, isN_int, isN_tup, isN_lst, wTest, wAnd, wOr, wNot, wAndV, wOrV, wNotV, wIf, wChain, wTup, wLst, wFrz, wLen, wMax, wMin, wIx, wIsi, plainD, isTy, wFcall, mapfr_nil, mapfr_cons, dat_fr, dat_ow, X.fr_inj, its_tup, its_lst, its_ow, itl_lst, itl_ow, atI_0, atI_1, atI_2, startR, wName, wNames, setAll, wipeR, and_assoc, wBag, wBag0, wBag1, wsBump, wsApp, wsSetN, wsFrz, wsParN, wsSetI, wsPar3, wRevT, wsParO, wXcall, calm, wNcall, wsRaise] <;> exact q
def wx_need_number : WFnX := fun ds post xp => ∃ n, ds = [n] ∧ n.canLay0 = true ∧ outc (if isW 0 (10 ^ 18) n = true then none else some 4) (post .none) xp
def wsx_need_number (xp : XV → Prop) : WS := (wsIf (wNot (wTest (wFcall wf_is_within (wCons (wVar 0) (wCons (wC (.int 0)) (wCons (wC (.int 1000000000000000000)) wNil)))))) (wsRaise xp 4) wsNext)
theorem lenx_need_number : ∀ ds post xp, wx_need_number ds post xp → ds.length = 1 := by
  rintro ds post xp ⟨c, rfl, _⟩
  rfl
theorem hdx_need_number : ∀ ds post xp, wx_need_number ds post xp → wsx_need_number xp { nx := fun _ => post .none, rt := post } (startR 1 ds) := by
  rintro ds post xp ⟨n, rfl, hn, q⟩
  simp [wsx_need_number, wsRet, wsRetN, wsSeq, wsNext, wsSet, wsAsg, wsPar, wsIf, wsExpr, wVar, wC, wOp, wUn, wCall, wNil, wCons, wI, wI0, wAdd, wSub, wMul, wDiv, wMod, wNeg, wLt, wLe, wGt, wGe, wIsN, isN_fr, isN_ow, isN_none, isN_int, isN_tup, isN_lst, wTest, wAnd, wOr, wNot, wAndV, wOrV, wNotV, wIf, wChain, wTup, wLst, wFrz, wLen, wMax, wMin, wIx, wIsi, plainD, isTy, wFcall, mapfr_nil, mapfr_cons, dat_fr, dat_ow, X.fr_inj, its_tup, its_lst, its_ow, itl_lst, itl_ow, atI_0, atI_1, atI_2, startR, wName, wNames, setAll, wipeR, and_assoc, wBag, wBag0, wBag1, wsBump, wsApp, wsSetN, wsFrz, wsParN, wsSetI, wsPar3, wRevT, wsParO, wXcall, calm, wNcall]
  refine ⟨_, _, _, rfl, plain_of hn, ?_⟩
  rw [show (1000000000000000000 : Int) = 10 ^ 18 by decide]
  cases h : isW 0 (10 ^ 18) n <;> rw [h] at q <;> simp [wsRaise] <;> exact q
/-! ### rows of deeds -/
def isDeed (n : Nat) (d : D) : Bool := match d with
  | .str s => s == Str.ofString "ride"
  | .int i => decide (0 ≤ i) && decide (i ≤ (n : Int) - 1)
  | _ => false
def wf_is_deed : WFn := fun ds post => ∃ cs d, ds = [tI cs, d] ∧ d.canLay0 = true ∧ post (.bool (isDeed cs.length d))
def ws_is_deed : WS := (wsRet (wOrV (wAndV (wIsi "str" (wVar 1)) (wOp (wEq false) (wVar 1) (wC (.str (Str.ofString "ride"))))) (wFcall wf_is_within (wCons (wVar 1) (wCons (wC (.int 0)) (wCons (wOp wSub (wCall wLen (wCons (wVar 0) wNil)) (wC (.int 1))) wNil))))))
theorem len_is_deed : ∀ ds post, wf_is_deed ds post → ds.length = 2 := by
  rintro ds post ⟨cs, d, rfl, _⟩
  rfl
theorem shaped_str {s : Str} (h : (PyData.str s).canLay0 = true) : SeqAt.shaped (.str s) = true := by
  simp only [SeqAt.shaped, h, PyData.depth]
  rfl
theorem eqv_str (a b : Str) : PyData.eqv (.str a) (.str b) = (a == b) := by rw [PyData.eqv]
theorem hd_is_deed : ∀ ds post, wf_is_deed ds post → ws_is_deed { nx := fun _ => post .none, rt := post } (startR 2 ds) := by
  rintro ds post ⟨cs, d, rfl, hd, q⟩
  have hq := plain_of hd
  have key : isW 0 ((cs.length : Int) - 1) d = isDeed cs.length d → wf_is_within [d, .int 0, .int ((cs.length : Int) - 1)] fun d => post d := fun e => ⟨d, _, _, rfl, hq, by rw [e]; exact q⟩
  cases d with
  | str s =>
    simp [ws_is_deed, wsRet, wsRetN, wsSeq, wsNext, wsSet, wsAsg, wsPar, wsIf, wsExpr, wVar, wC, wOp, wUn, wCall, wNil, wCons, wI, wI0, wAdd, wSub, wMul, wDiv, wMod, wNeg, wLt, wLe, wGt, wGe, wIsN, isN_fr, isN_ow, isN_none, isN_int, isN_tup, isN_lst, wTest, wAnd, wOr, wNot, wAndV, wOrV, wNotV, wIf, wChain, wTup, wLst, wFrz, wLen, wMax, wMin, wIx, wIsi, plainD, isTy, wFcall, mapfr_nil, mapfr_cons, dat_fr, dat_ow, X.fr_inj, its_tup, its_lst, its_ow, itl_lst, itl_ow, atI_0, atI_1, atI_2, startR, wName, wNames, setAll, wipeR, and_assoc, wBag, wBag0, wBag1, wsBump, wsApp, wsSetN, wsFrz, wsParN, wsSetI, wsPar3, wRevT, wsParO, wXcall, calm, wNcall]
    refine ⟨shaped_str hd, cl_shaped cl_ride, ?_⟩
    have e := eqv_str s (Str.ofString "ride")
    by_cases h : s = Str.ofString "ride"
    · have q : post (.bool (s == Str.ofString "ride")) := q
      rw [beq_iff_eq.mpr h] at q e
      exact .inr ⟨congrArg (fun b => X.fr (.bool b)) e, q⟩
    · have hb : (s == Str.ofString "ride") = false := beq_eq_false_iff_ne.mpr h
      rw [hb] at e
      exact .inl ⟨congrArg (fun b => X.fr (.bool b)) e, key (by show false = (s == Str.ofString "ride"); rw [hb])⟩
  | dict _ => cases hq
  | int i =>
    simp [ws_is_deed, wsRet, wsRetN, wsSeq, wsNext, wsSet, wsAsg, wsPar, wsIf, wsExpr, wVar, wC, wOp, wUn, wCall, wNil, wCons, wI, wI0, wAdd, wSub, wMul, wDiv, wMod, wNeg, wLt, wLe, wGt, wGe, wIsN, isN_fr, isN_ow, isN_none, isN_int, isN_tup, isN_lst, wTest, wAnd, wOr, wNot, wAndV, wOrV, wNotV, wIf, wChain, wTup, wLst, wFrz, wLen, wMax, wMin, wIx, wIsi, plainD, isTy, wFcall, mapfr_nil, mapfr_cons, dat_fr, dat_ow, X.fr_inj, its_tup, its_lst, its_ow, itl_lst, itl_ow, atI_0, atI_1, atI_2, startR, wName, wNames, setAll, wipeR, and_assoc, wBag, wBag0, wBag1, wsBump, wsApp, wsSetN, wsFrz, wsParN, wsSetI, wsPar3, wRevT, wsParO, wXcall, calm, wNcall]
    exact key rfl
  | _ =>
    simp [ws_is_deed, wsRet, wsRetN, wsSeq, wsNext, wsSet, wsAsg, wsPar, wsIf, wsExpr, wVar, wC, wOp, wUn, wCall, wNil, wCons, wI, wI0, wAdd, wSub, wMul, wDiv, wMod, wNeg, wLt, wLe, wGt, wGe, wIsN, isN_fr, isN_ow, isN_none, isN_int, isN_tup, isN_lst, wTest, wAnd, wOr, wNot, wAndV, wOrV, wNotV, wIf, wChain, wTup, wLst, wFrz, wLen, wMax, wMin, wIx, wIsi, plainD, isTy, wFcall, mapfr_nil, mapfr_cons, dat_fr, dat_ow, X.fr_inj, its_tup, its_lst, its_ow, itl_lst, itl_ow, atI_0, atI_1, atI_2, startR, wName, wNames, setAll, wipeR, and_assoc, wBag, wBag0, wBag1, wsBump, wsApp, wsSetN, wsFrz, wsParN, wsSetI, wsPar3, wRevT, wsParO, wXcall, calm, wNcall]
    exact key rfl
def wx_is_purse : WFnX := fun ds post xp => ∃ c p, ds = [c, p] ∧ c.canLay0 = true ∧ p.canLay0 = true ∧ outc (chkC c) (post (.bool (isPurse (dlen c) p))) xp
def wsx_is_purse (xp : XV → Prop) : WS := (wsSeq (wsExpr (wXcall wx_need_cards xp (wCons (wVar 0) wNil)))
  (wsRet (wFcall wf_is_all_purse (wCons (wVar 0) (wCons (wVar 1) wNil)))))
theorem lenx_is_purse : ∀ ds post xp, wx_is_purse ds post xp → ds.length = 2 := by
  rintro ds post xp ⟨c, p, rfl, _⟩
  rfl
theorem hdx_is_purse : ∀ ds post xp, wx_is_purse ds post xp → wsx_is_purse xp { nx := fun _ => post .none, rt := post } (startR 2 ds) := by
  rintro ds post xp ⟨c, p, rfl, hc, hp, q⟩
  simp [wsx_is_purse, wsRet, wsRetN, wsSeq, wsNext, wsSet, wsAsg, wsPar, wsIf, wsExpr, wVar, wC, wOp, wUn, wCall, wNil, wCons, wI, wI0, wAdd, wSub, wMul, wDiv, wMod, wNeg, wLt, wLe, wGt, wGe, wIsN, isN_fr, isN_ow, isN_none, isN_int, isN_tup, isN_lst, wTest, wAnd, wOr, wNot, wAndV, wOrV, wNotV, wIf, wChain, wTup, wLst, wFrz, wLen, wMax, wMin, wIx, wIsi, plainD, isTy, wFcall, mapfr_nil, mapfr_cons, dat_fr, dat_ow, X.fr_inj, its_tup, its_lst, its_ow, itl_lst, itl_ow, atI_0, atI_1, atI_2, startR, wName, wNames, setAll, wipeR, and_assoc, wBag, wBag0, wBag1, wsBump, wsApp, wsSetN, wsFrz, wsParN, wsSetI, wsPar3, wRevT, wsParO, wXcall, calm, wNcall, wXcall]
  refine ⟨c, rfl, hc, ?_⟩
  unfold chkC at q ⊢
  cases h : areCards c with
  | false =>
    rw [h] at q
    exact q
  | true =>
    rw [h, if_pos rfl] at q
    obtain ⟨cs, rfl, ok⟩ := cards_of h
    rw [dlen_tI] at q
    exact ⟨cs, p, rfl, ok, hp, q⟩
/-! ### a deed done -/
def wf_done : WFn := fun ds post => ∃ cs r ss x, ds = [tI cs, pD r ss, deedD x] ∧ cs.length ≤ 3 ∧ ss.length = cs.length ∧ (∀ j, x = some j → j < cs.length) ∧ post (stepD (stepF cs ss r x))
def ws_done : WS := (wsSeq (wsAsg (wVar 1) (wNames [3, 4]))
  (wsSeq (wsIf (wTest (wOp (wEq false) (wVar 2) (wC (.str (Str.ofString "ride"))))) (wsRet (wIf (wTest (wOp wGt (wVar 3) (wC (.int 0)))) (wTup (wCons (wOp wSub (wVar 3) (wC (.int 1))) (wCons (wCall wTuple (wCons (wFrz (wLc (wiTup (wVar 4)) (wName 5) wYes (wOp wAdd (wVar 5) (wC (.int 1))) [5])) wNil)) wNil))) (wC .none))) wsNext)
  (wsSeq (wsIf (wTest (wOp wLt (wOp wIx (wVar 4) (wVar 2)) (wOp wIx (wVar 0) (wVar 2)))) (wsRet (wC .none)) wsNext)
  (wsRet (wTup (wCons (wOp wAdd (wVar 3) (wC (.int 1))) (wCons (wOp wCatT (wOp wCatT (wSlT (wVar 4) wNoPart (wPart (wVar 2))) (wTup (wCons (wOp wSub (wOp wIx (wVar 4) (wVar 2)) (wOp wIx (wVar 0) (wVar 2))) wNil))) (wSlT (wVar 4) (wPart (wOp wAdd (wVar 2) (wC (.int 1)))) wNoPart)) wNil)))))))
theorem len_done : ∀ ds post, wf_done ds post → ds.length = 3 := by
  rintro ds post ⟨cs, r, ss, x, rfl, _⟩
  rfl
theorem cut_set {ss : List Int} {j : Nat} (h : j < ss.length) (v : Int) : (ss.map PyData.int).take j ++ [PyData.int v] ++ (ss.map PyData.int).drop (j + 1) = (ss.set j v).map PyData.int := by
  rw [List.set_eq_take_append_cons_drop, if_pos h, List.map_append, List.map_cons, List.map_take, List.map_drop, List.append_assoc]
  rfl
theorem hd_done : ∀ ds post, wf_done ds post → ws_done { nx := fun _ => post .none, rt := post } (startR 6 ds) := by
  rintro ds post ⟨cs, r, ss, x, rfl, hc, hl, hx, q⟩
  simp [ws_done, wsRet, wsRetN, wsSeq, wsNext, wsSet, wsAsg, wsPar, wsIf, wsExpr, wVar, wC, wOp, wUn, wCall, wNil, wCons, wI, wI0, wAdd, wSub, wMul, wDiv, wMod, wNeg, wLt, wLe, wGt, wGe, wIsN, isN_fr, isN_ow, isN_none, isN_int, isN_tup, isN_lst, wTest, wAnd, wOr, wNot, wAndV, wOrV, wNotV, wIf, wChain, wTup, wLst, wFrz, wLen, wMax, wMin, wIx, wIsi, plainD, isTy, wFcall, mapfr_nil, mapfr_cons, dat_fr, dat_ow, X.fr_inj, its_tup, its_lst, its_ow, itl_lst, itl_ow, atI_0, atI_1, atI_2, startR, wName, wNames, setAll, wipeR, and_assoc, wBag, wBag0, wBag1, wsBump, wsApp, wsSetN, wsFrz, wsParN, wsSetI, wsPar3, wRevT, wsParO, wXcall, calm, wNcall, pD]
  cases x with
  | none =>
    refine eqT cl_ride rfl (.inr ⟨rfl, ?_⟩)
    unfold stepF at q
    refine ite2 (fun h => ?_) (fun h => ?_)
    · rw [if_pos h] at q
      refine w_lcA ss PyData.int (fun s => .int (s + 1)) (fun q h => by simp [wiTup, wsRet, wsRetN, wsSeq, wsNext, wsSet, wsAsg, wsPar, wsIf, wsExpr, wVar, wC, wOp, wUn, wCall, wNil, wCons, wI, wI0, wAdd, wSub, wMul, wDiv, wMod, wNeg, wLt, wLe, wGt, wGe, wIsN, isN_fr, isN_ow, isN_none, isN_int, isN_tup, isN_lst, wTest, wAnd, wOr, wNot, wAndV, wOrV, wNotV, wIf, wChain, wTup, wLst, wFrz, wLen, wMax, wMin, wIx, wIsi, plainD, isTy, wFcall, mapfr_nil, mapfr_cons, dat_fr, dat_ow, X.fr_inj, its_tup, its_lst, its_ow, itl_lst, itl_ow, atI_0, atI_1, atI_2, startR, wName, wNames, setAll, wipeR, and_assoc, wBag, wBag0, wBag1, wsBump, wsApp, wsSetN, wsFrz, wsParN, wsSetI, wsPar3, wRevT, wsParO, wXcall, calm, wNcall]; exact h) (by omega) (fun s q m h => ?_) (w_tupleL ?_)
      · simp [wsRet, wsRetN, wsSeq, wsNext, wsSet, wsAsg, wsPar, wsIf, wsExpr, wVar, wC, wOp, wUn, wCall, wNil, wCons, wI, wI0, wAdd, wSub, wMul, wDiv, wMod, wNeg, wLt, wLe, wGt, wGe, wIsN, isN_fr, isN_ow, isN_none, isN_int, isN_tup, isN_lst, wTest, wAnd, wOr, wNot, wAndV, wOrV, wNotV, wIf, wChain, wTup, wLst, wFrz, wLen, wMax, wMin, wIx, wIsi, plainD, isTy, wFcall, mapfr_nil, mapfr_cons, dat_fr, dat_ow, X.fr_inj, its_tup, its_lst, its_ow, itl_lst, itl_ow, atI_0, atI_1, atI_2, startR, wName, wNames, setAll, wipeR, and_assoc, wBag, wBag0, wBag1, wsBump, wsApp, wsSetN, wsFrz, wsParN, wsSetI, wsPar3, wRevT, wsParO, wXcall, calm, wNcall]
        exact h
      · have e : ss.map (fun s => PyData.int (s + 1)) = (ss.map (· + 1)).map PyData.int := by rw [List.map_map]; rfl
        rw [e]
        exact ⟨_, ⟨_, rfl, rfl⟩, by simp, q⟩
    · rw [if_neg h] at q
      exact q
  | some j =>
    have hj := hx j rfl
    refine eqC rfl cl_ride (fun h => nomatch h) (fun _ => .inl ⟨rfl, ?_⟩)
    unfold stepF at q
    have e1 := at_getD (ns := ss) (j := j) (by omega)
    have e2 := at_getD hj
    refine ⟨_, _, rfl, rfl, _, e1, _, _, rfl, rfl, _, e2, _, rfl, _, rfl, ite2 (fun h => ?_) (fun h => ?_)⟩
    · have q : post (stepD (if ss.getD j 0 < cs.getD j 0 then none else some (r + 1, ss.set j (ss.getD j 0 - cs.getD j 0)))) := q
      rw [if_pos h] at q
      exact q
    · have q : post (stepD (if ss.getD j 0 < cs.getD j 0 then none else some (r + 1, ss.set j (ss.getD j 0 - cs.getD j 0)))) := q
      rw [if_neg h] at q
      simp [wSlT, wNoPart, wPart, wVar, deedD]
      refine ⟨_, e1, _, e2, _, rfl, _, rfl, ?_⟩
      rw [cut_to]
      refine ⟨_, _, rfl, rfl, by simp; omega, ?_⟩
      simp [wOp, wVar, wC, wI0]
      have ej : (j : Int) + 1 = ((j + 1 : Nat) : Int) := by omega
      rw [ej, cut_from]
      refine ⟨_, _, rfl, rfl, by simp; omega, [.int (r + 1), _], ⟨_, rfl, rfl⟩, by simp, ?_⟩
      rw [cut_set (by omega)]
      simp only [List.getD_eq_getElem?_getD] at q
      exact q
/-! ### a row of deeds -/
def chkR (n : Nat) (row : D) : Option Nat := match row with
  | .list ds => if (decide (ds.length ≤ 100) && ds.all (isDeed n)) = true then none else some 3
  | _ => some 3
def deedOf : D → Option Nat
  | .int i => some i.toNat
  | _ => none
def run1 (cs : List Int) (o : Option (Int × List Int)) (x : Option Nat) : Option (Int × List Int) := o.bind fun p => stepF cs p.2 p.1 x
theorem deed_of {n : Nat} {d : D} (h : isDeed n d = true) : d = deedD (deedOf d) ∧ ∀ j, deedOf d = some j → j < n := by
  cases d with
  | str s =>
    have h : (s == Str.ofString "ride") = true := h
    rw [beq_iff_eq] at h
    subst h
    exact ⟨rfl, fun j e => nomatch e⟩
  | int i =>
    have h : (decide (0 ≤ i) && decide (i ≤ (n : Int) - 1)) = true := h
    rw [Bool.and_eq_true, decide_eq_true_eq, decide_eq_true_eq] at h
    refine ⟨?_, fun j e => ?_⟩
    · show PyData.int i = .int ((i.toNat : Nat) : Int)
      rw [Int.toNat_of_nonneg h.1]
    · have e : some i.toNat = some j := e
      cases e
      omega
  | _ => cases h
theorem stepF_len {cs ss : List Int} {r : Int} {x : Option Nat} (h : ss.length = cs.length) {p : Int × List Int} (e : stepF cs ss r x = some p) : p.2.length = cs.length := by
  cases x with
  | none =>
    have e : (if 0 < r then some (r - 1, ss.map (· + 1)) else none) = some p := e
    by_cases c : 0 < r
    · rw [if_pos c] at e
      cases e
      simpa using h
    · rw [if_neg c] at e
      cases e
  | some j =>
    have e : (if ss.getD j 0 < cs.getD j 0 then none else some (r + 1, ss.set j (ss.getD j 0 - cs.getD j 0))) = some p := e
    by_cases c : ss.getD j 0 < cs.getD j 0
    · rw [if_pos c] at e
      cases e
    · rw [if_neg c] at e
      cases e
      simpa using h
def invB (cs : List Int) (es : List D) (st : Option (Int × List Int)) (i : Nat) (ρ : Ρ) : Prop := ∃ o z, (∀ p, o = some p → p.2.length = cs.length) ∧ o = ((es.take i).map deedOf).foldl (run1 cs) st ∧ ρ = [some (.fr (tI cs)), some (.fr (stepD o)), some (.fr (.list es)), z]
def wx_behind : WFnX := fun ds post xp => ∃ c p row, ds = [c, p, row] ∧ c.canLay0 = true ∧ p.canLay0 = true ∧ row.canLay0 = true ∧ (∀ i, chkP c p = some i → xp ⟨i, none⟩) ∧
  ∀ cs r ss, c = tI cs → p = pD r ss → CardsOk cs → PurseOk cs r ss → outc (chkR cs.length row) (∀ es, row = .list es → post (stepD ((es.map deedOf).foldl (run1 cs) (some (r, ss))))) xp
def wsx_behind (xp : XV → Prop) : WS := (wsSeq (wsExpr (wXcall wx_need_purse xp (wCons (wVar 0) (wCons (wVar 1) wNil))))
  (wsSeq (wsIf (wOr (wNot (wTest (wIsi "list" (wVar 2)))) (wOr (wTest (wOp wGt (wCall wLen (wCons (wVar 2) wNil)) (wC (.int 100)))) (wNot (wTest (wCall wAll (wCons (wFrz (wLc (wiLst (wVar 2)) (wName 3) wYes (wFcall wf_is_deed (wCons (wVar 0) (wCons (wVar 3) wNil))) [3])) wNil)))))) (wsRaise xp 3) wsNext)
  (wsSeq (wsFor (wiLst (wVar 2)) (wName 3) (wsIf (wTest (wOp (wIsN true) (wVar 1) (wC .none))) (wsSet 1 (wFcall wf_done (wCons (wVar 0) (wCons (wVar 1) (wCons (wVar 3) wNil))))) wsNext))
  (wsRet (wVar 1)))))
theorem lenx_behind : ∀ ds post xp, wx_behind ds post xp → ds.length = 3 := by
  rintro ds post xp ⟨c, p, row, rfl, _⟩
  rfl
theorem hdx_behind : ∀ ds post xp, wx_behind ds post xp → wsx_behind xp { nx := fun _ => post .none, rt := post } (startR 4 ds) := by
  rintro ds post xp ⟨c, p, row, rfl, hc, hp, hr, q1, q2⟩
  simp [wsx_behind, wsRet, wsRetN, wsSeq, wsNext, wsSet, wsAsg, wsPar, wsIf, wsExpr, wVar, wC, wOp, wUn, wCall, wNil, wCons, wI, wI0, wAdd, wSub, wMul, wDiv, wMod, wNeg, wLt, wLe, wGt, wGe, wIsN, isN_fr, isN_ow, isN_none, isN_int, isN_tup, isN_lst, wTest, wAnd, wOr, wNot, wAndV, wOrV, wNotV, wIf, wChain, wTup, wLst, wFrz, wLen, wMax, wMin, wIx, wIsi, plainD, isTy, wFcall, mapfr_nil, mapfr_cons, dat_fr, dat_ow, X.fr_inj, its_tup, its_lst, its_ow, itl_lst, itl_ow, atI_0, atI_1, atI_2, startR, wName, wNames, setAll, wipeR, and_assoc, wBag, wBag0, wBag1, wsBump, wsApp, wsSetN, wsFrz, wsParN, wsSetI, wsPar3, wRevT, wsParO, wXcall, calm, wNcall, wXcall]
  refine ⟨c, p, rfl, hc, hp, ?_⟩
  cases hk : chkP c p with
  | some i => exact q1 i hk
  | none =>
    obtain ⟨cs, r, ss, rfl, rfl, ok, po⟩ : ∃ cs r ss, c = tI cs ∧ p = pD r ss ∧ CardsOk cs ∧ PurseOk cs r ss := by
      unfold chkP at hk
      cases h : areCards c with
      | false => rw [h] at hk; cases hk
      | true =>
        obtain ⟨cs, rfl, ok⟩ := cards_of h
        rw [h, if_pos rfl, dlen_tI] at hk
        cases h2 : isPurse cs.length p with
        | false => rw [h2] at hk; cases hk
        | true =>
          obtain ⟨r, ss, rfl, po⟩ := purse_of h2
          exact ⟨cs, r, ss, rfl, rfl, ok, po⟩
    have q := q2 cs r ss rfl rfl ok po
    clear q1 q2 hk
    have hq := plain_of hr
    show outc none _ _
    have no : ∀ W ρ, chkR cs.length row = some 3 → wsRaise xp 3 W ρ := fun W ρ e => by
      rw [e] at q
      exact q
    cases row with
    | list es =>
      simp [outc, wsRet, wsRetN, wsSeq, wsNext, wsSet, wsAsg, wsPar, wsIf, wsExpr, wVar, wC, wOp, wUn, wCall, wNil, wCons, wI, wI0, wAdd, wSub, wMul, wDiv, wMod, wNeg, wLt, wLe, wGt, wGe, wIsN, isN_fr, isN_ow, isN_none, isN_int, isN_tup, isN_lst, wTest, wAnd, wOr, wNot, wAndV, wOrV, wNotV, wIf, wChain, wTup, wLst, wFrz, wLen, wMax, wMin, wIx, wIsi, plainD, isTy, wFcall, mapfr_nil, mapfr_cons, dat_fr, dat_ow, X.fr_inj, its_tup, its_lst, its_ow, itl_lst, itl_ow, atI_0, atI_1, atI_2, startR, wName, wNames, setAll, wipeR, and_assoc, wBag, wBag0, wBag1, wsBump, wsApp, wsSetN, wsFrz, wsParN, wsSetI, wsPar3, wRevT, wsParO, wXcall, calm, wNcall]
      have hes : ∀ d ∈ es, d.canLay0 = true := fun d m => lay_mem (by simpa [PyData.canLay0] using hr) m
      refine ite2 (fun h => no _ _ ?_) (fun h => ?_)
      · show (if (decide (es.length ≤ 100) && _) = true then none else some 3) = some 3
        rw [decide_eq_false (by omega), Bool.false_and, if_neg Bool.false_ne_true]
      refine w_lcM es (fun d => .bool (isDeed cs.length d)) (fun q h => by simp [wiLst, wsRet, wsRetN, wsSeq, wsNext, wsSet, wsAsg, wsPar, wsIf, wsExpr, wVar, wC, wOp, wUn, wCall, wNil, wCons, wI, wI0, wAdd, wSub, wMul, wDiv, wMod, wNeg, wLt, wLe, wGt, wGe, wIsN, isN_fr, isN_ow, isN_none, isN_int, isN_tup, isN_lst, wTest, wAnd, wOr, wNot, wAndV, wOrV, wNotV, wIf, wChain, wTup, wLst, wFrz, wLen, wMax, wMin, wIx, wIsi, plainD, isTy, wFcall, mapfr_nil, mapfr_cons, dat_fr, dat_ow, X.fr_inj, its_tup, its_lst, its_ow, itl_lst, itl_ow, atI_0, atI_1, atI_2, startR, wName, wNames, setAll, wipeR, and_assoc, wBag, wBag0, wBag1, wsBump, wsApp, wsSetN, wsFrz, wsParN, wsSetI, wsPar3, wRevT, wsParO, wXcall, calm, wNcall]; exact h) (by omega) (fun d q m h => ?_) (w_all ?_)
      · simp [wsRet, wsRetN, wsSeq, wsNext, wsSet, wsAsg, wsPar, wsIf, wsExpr, wVar, wC, wOp, wUn, wCall, wNil, wCons, wI, wI0, wAdd, wSub, wMul, wDiv, wMod, wNeg, wLt, wLe, wGt, wGe, wIsN, isN_fr, isN_ow, isN_none, isN_int, isN_tup, isN_lst, wTest, wAnd, wOr, wNot, wAndV, wOrV, wNotV, wIf, wChain, wTup, wLst, wFrz, wLen, wMax, wMin, wIx, wIsi, plainD, isTy, wFcall, mapfr_nil, mapfr_cons, dat_fr, dat_ow, X.fr_inj, its_tup, its_lst, its_ow, itl_lst, itl_ow, atI_0, atI_1, atI_2, startR, wName, wNames, setAll, wipeR, and_assoc, wBag, wBag0, wBag1, wsBump, wsApp, wsSetN, wsFrz, wsParN, wsSetI, wsPar3, wRevT, wsParO, wXcall, calm, wNcall]
        exact ⟨cs, d, rfl, hes d m, h⟩
      · cases hall : es.all (isDeed cs.length) with
        | false =>
          refine .inl ⟨rfl, no _ _ ?_⟩
          show (if (decide (es.length ≤ 100) && es.all _) = true then none else some 3) = some 3
          rw [hall, Bool.and_false, if_neg Bool.false_ne_true]
        | true =>
          refine .inr ⟨rfl, ?_⟩
          have e0 : chkR cs.length (.list es) = none := by
            show (if (decide (es.length ≤ 100) && es.all _) = true then none else some 3) = none
            rw [hall, decide_eq_true (by omega), Bool.true_and, if_pos rfl]
          rw [e0] at q
          have q := q es rfl
          have hd : ∀ d ∈ es, isDeed cs.length d = true := List.all_eq_true.mp hall
          refine w_for es (fun d => d) (fun q h => by simp [wiLst, wsRet, wsRetN, wsSeq, wsNext, wsSet, wsAsg, wsPar, wsIf, wsExpr, wVar, wC, wOp, wUn, wCall, wNil, wCons, wI, wI0, wAdd, wSub, wMul, wDiv, wMod, wNeg, wLt, wLe, wGt, wGe, wIsN, isN_fr, isN_ow, isN_none, isN_int, isN_tup, isN_lst, wTest, wAnd, wOr, wNot, wAndV, wOrV, wNotV, wIf, wChain, wTup, wLst, wFrz, wLen, wMax, wMin, wIx, wIsi, plainD, isTy, wFcall, mapfr_nil, mapfr_cons, dat_fr, dat_ow, X.fr_inj, its_tup, its_lst, its_ow, itl_lst, itl_ow, atI_0, atI_1, atI_2, startR, wName, wNames, setAll, wipeR, and_assoc, wBag, wBag0, wBag1, wsBump, wsApp, wsSetN, wsFrz, wsParN, wsSetI, wsPar3, wRevT, wsParO, wXcall, calm, wNcall]; simpa using h) (invB cs es (some (r, ss)))
            ⟨some (r, ss), none, fun p e => by cases e; exact po.2.1, rfl, rfl⟩ (fun i a ρ ha inv => ?_) fun ρ inv => ?_
          · obtain ⟨o, z, ho, e, rfl⟩ := inv
            obtain ⟨ea, hj⟩ := deed_of (hd a (List.mem_of_getElem? ha))
            have en : ((es.take (i + 1)).map deedOf).foldl (run1 cs) (some (r, ss)) = run1 cs o (deedOf a) := by
              rw [List.take_add_one, ha, e]
              simp
            cases o with
            | none =>
              simp [wsRet, wsRetN, wsSeq, wsNext, wsSet, wsAsg, wsPar, wsIf, wsExpr, wVar, wC, wOp, wUn, wCall, wNil, wCons, wI, wI0, wAdd, wSub, wMul, wDiv, wMod, wNeg, wLt, wLe, wGt, wGe, wIsN, isN_fr, isN_ow, isN_none, isN_int, isN_tup, isN_lst, wTest, wAnd, wOr, wNot, wAndV, wOrV, wNotV, wIf, wChain, wTup, wLst, wFrz, wLen, wMax, wMin, wIx, wIsi, plainD, isTy, wFcall, mapfr_nil, mapfr_cons, dat_fr, dat_ow, X.fr_inj, its_tup, its_lst, its_ow, itl_lst, itl_ow, atI_0, atI_1, atI_2, startR, wName, wNames, setAll, wipeR, and_assoc, wBag, wBag0, wBag1, wsBump, wsApp, wsSetN, wsFrz, wsParN, wsSetI, wsPar3, wRevT, wsParO, wXcall, calm, wNcall, stepD]
              exact ⟨none, _, fun p e => (nomatch e), by rw [en]; rfl, rfl⟩
            | some p =>
              simp [wsRet, wsRetN, wsSeq, wsNext, wsSet, wsAsg, wsPar, wsIf, wsExpr, wVar, wC, wOp, wUn, wCall, wNil, wCons, wI, wI0, wAdd, wSub, wMul, wDiv, wMod, wNeg, wLt, wLe, wGt, wGe, wIsN, isN_fr, isN_ow, isN_none, isN_int, isN_tup, isN_lst, wTest, wAnd, wOr, wNot, wAndV, wOrV, wNotV, wIf, wChain, wTup, wLst, wFrz, wLen, wMax, wMin, wIx, wIsi, plainD, isTy, wFcall, mapfr_nil, mapfr_cons, dat_fr, dat_ow, X.fr_inj, its_tup, its_lst, its_ow, itl_lst, itl_ow, atI_0, atI_1, atI_2, startR, wName, wNames, setAll, wipeR, and_assoc, wBag, wBag0, wBag1, wsBump, wsApp, wsSetN, wsFrz, wsParN, wsSetI, wsPar3, wRevT, wsParO, wXcall, calm, wNcall, stepD]
              refine ⟨cs, p.1, p.2, deedOf a, by rw [← ea], ok.2.1, ho p rfl, hj, ?_⟩
              exact ⟨stepF cs p.2 p.1 (deedOf a), _, fun p' e' => stepF_len (ho p rfl) e', by rw [en]; rfl, rfl⟩
          · obtain ⟨o, z, _, e, rfl⟩ := inv
            rw [List.take_length] at e
            rw [← e] at q
            simp [wsRet, wsRetN, wsSeq, wsNext, wsSet, wsAsg, wsPar, wsIf, wsExpr, wVar, wC, wOp, wUn, wCall, wNil, wCons, wI, wI0, wAdd, wSub, wMul, wDiv, wMod, wNeg, wLt, wLe, wGt, wGe, wIsN, isN_fr, isN_ow, isN_none, isN_int, isN_tup, isN_lst, wTest, wAnd, wOr, wNot, wAndV, wOrV, wNotV, wIf, wChain, wTup, wLst, wFrz, wLen, wMax, wMin, wIx, wIsi, plainD, isTy, wFcall, mapfr_nil, mapfr_cons, dat_fr, dat_ow, X.fr_inj, its_tup, its_lst, its_ow, itl_lst, itl_ow, atI_0, atI_1, atI_2, startR, wName, wNames, setAll, wipeR, and_assoc, wBag, wBag0, wBag1, wsBump, wsApp, wsSetN, wsFrz, wsParN, wsSetI, wsPar3, wRevT, wsParO, wXcall, calm, wNcall]
            exact q
    | dict _ => cases hq
    | _ =>
      simp [outc, wsRet, wsRetN, wsSeq, wsNext, wsSet, wsAsg, wsPar, wsIf, wsExpr, wVar, wC, wOp, wUn, wCall, wNil, wCons, wI, wI0, wAdd, wSub, wMul, wDiv, wMod, wNeg, wLt, wLe, wGt, wGe, wIsN, isN_fr, isN_ow, isN_none, isN_int, isN_tup, isN_lst, wTest, wAnd, wOr, wNot, wAndV, wOrV, wNotV, wIf, wChain, wTup, wLst, wFrz, wLen, wMax, wMin, wIx, wIsi, plainD, isTy, wFcall, mapfr_nil, mapfr_cons, dat_fr, dat_ow, X.fr_inj, its_tup, its_lst, its_ow, itl_lst, itl_ow, atI_0, atI_1, atI_2, startR, wName, wNames, setAll, wipeR, and_assoc, wBag, wBag0, wBag1, wsBump, wsApp, wsSetN, wsFrz, wsParN, wsSetI, wsPar3, wRevT, wsParO, wXcall, calm, wNcall]
      exact no _ _ rfl
end DL

/-! Loans: all full cards given at once. -/
namespace FR
theorem paid_cash : ∀ {cs ss : List Int} {j : Nat} {c s : Int}, 0 < c → cs[j]? = some c → ss[j]? = some s → ∀ r k : Int, paidF cs (ss.set j (s % c)) (r + s / c) k = paidF cs ss r k
  | [], ss, j, c, s, _, h, _, r, k => by simp at h
  | b :: cs, [], j, c, s, _, _, h, r, k => by simp at h
  | b :: cs, t :: ss, 0, c, s, h0, h, g, r, k => by
    have e : b = c := by simpa using h
    have e2 : t = s := by simpa using g
    subst e e2
    have e3 : (t + k) / b = t / b + (t % b + k) / b := by
      have e := Int.emod_add_mul_ediv t b
      rw [show t + k = (t % b + k) + t / b * b by rw [Int.mul_comm]; omega, Int.add_mul_ediv_right _ _ (by omega)]
      omega
    rw [List.set_cons_zero, paid_cons, paid_cons, paid_r cs ss (r + t / b), paid_r cs ss r]
    omega
  | b :: cs, t :: ss, j + 1, c, s, h0, h, g, r, k => by
    rw [List.set_cons_succ, paid_cons, paid_cons, paid_cash (cs := cs) (ss := ss) h0 (by simpa using h) (by simpa using g) r k]
theorem left_cash : ∀ {cs ss : List Int} {j : Nat} {c s : Int}, cs[j]? = some c → ss[j]? = some s → ∀ k : Int, leftF cs (ss.set j (s % c)) k = leftF cs ss k
  | [], ss, j, c, s, h, _, k => by simp at h
  | b :: cs, [], j, c, s, _, h, k => by simp at h
  | b :: cs, t :: ss, 0, c, s, h, g, k => by
    have e : b = c := by simpa using h
    have e2 : t = s := by simpa using g
    subst e e2
    rw [List.set_cons_zero, left_cons, left_cons, Int.emod_add_emod]
  | b :: cs, t :: ss, j + 1, c, s, h, g, k => by
    rw [List.set_cons_succ, left_cons, left_cons, left_cash (cs := cs) (ss := ss) (by simpa using h) (by simpa using g) k]
section
variable {cs ss0 ss : List Int} {r0 n r : Int}
theorem Sim.cash (hc : ∀ c ∈ cs, 0 < c) (h : Sim cs ss0 r0 n r ss) {j : Nat} {c s : Int} (hj : cs[j]? = some c) (hs : ss[j]? = some s) : Sim cs ss0 r0 n (r + s / c) (ss.set j (s % c)) := by
  have c0 := hc c (List.mem_of_getElem? hj)
  have s0 := h.s0 s (List.mem_of_getElem? hs)
  have q0 := Int.ediv_nonneg s0 (Int.le_of_lt c0)
  refine ⟨h.n0, by have := h.rn; omega, by rw [List.length_set]; exact h.len, fun t m => ?_, fun k => ?_, fun k => ?_, h.be⟩
  · rcases List.mem_or_eq_of_mem_set m with m | rfl
    · exact h.s0 t m
    · exact Int.emod_nonneg _ (by omega)
  · rw [paid_cash c0 hj hs]
    exact h.pd k
  · rw [left_cash hj hs]
    exact h.lf k
/-- the rides in hand, no full card -/
theorem Sim.hand (h : Sim cs ss0 r0 n r ss) (hf : NoFull cs ss) : r + n = paidF cs ss0 r0 n := by
  have h1 := h.pd 0
  rw [paid_end h.s0 hf, Int.add_zero] at h1
  exact h1
end
/-- so many rides can be had with the loan, and it is paid back -/
def LentOk (cs ss : List Int) (r n l : Int) : Prop := (∀ m, 0 ≤ m → m < n → m < paidF cs ss (r + l) m) ∧ n ≤ paidF cs ss r n
end FR

/-! Law k12 on data: the kept purse. -/
namespace DL
open PySem PySem.Spec PyProof.Rows L2 FR
/-! ### the state of a kept purse -/
structure KS where
  r : Int
  ss : List Int
  rd : Int
  le : Int
def kD (s : KS) : D := .tuple [pD s.r s.ss, .int s.rd, .int s.le]
structure GoodK (cs : List Int) (s : KS) : Prop where
  len : s.ss.length = cs.length
  r0 : 0 ≤ s.r
  s0 : ∀ x ∈ s.ss, 0 ≤ x
structure Kst (cs : List Int) (s : KS) (k : KO) : Prop where
  cs_ : k.cs = tI cs
  last : atI k.past (-1) = some (kD s)
  good : GoodK cs s
theorem at_last (l : List D) (d : D) : atI (l ++ [d]) (-1) = some d := by
  unfold atI ixN
  rw [if_neg (by decide), if_pos (by simp; omega)]
  simp
  rw [show (-1 + ((l.length : Int) + 1)).toNat = l.length by omega, List.getElem?_append_right (by simp)]
  simp
theorem OS.put_put {S : OS} {a : Addr} {k k' : KO} : (S.put a k).put a k' = S.put a k' := by
  funext b
  unfold OS.put
  split <;> rfl
theorem OS.put_self {S : OS} {a : Addr} {k : KO} (h : S a = some k) : S.put a k = S := by
  funext b
  unfold OS.put
  split
  · rename_i e
    rw [e, h]
  · rfl
theorem w_unpack {i j1 j2 j3 : Nat} {u : WS2} {W : WEnds2} {S : OS} {ρ : Ρ} {a : Addr} {k : KO} {s : KS} (hi : ρ[i]? = some (some (.fr (hD a)))) (hS : S a = some k) (hl : atI k.past (-1) = some (kD s)) (h : u W S (setAll ρ [j1, j2, j3] [pD s.r s.ss, .int s.rd, .int s.le])) :
    wsSeq2 (wsAsg2 (wPast i) (wNames [j1, j2, j3])) u W S ρ := ⟨a, k, _, hi, hS, hl, _, rfl, _, rfl, rfl, h⟩
def intOf : D → Int
  | .int i => i
  | _ => 0
/-- a deed done: 0 a ride, 1 a full card, 2 a loan, 3 paying back -/
def doneK (cs : List Int) (s : KS) (n : D) : Nat → Except XV KS
  | 0 => if 0 < s.r then .ok ⟨s.r - 1, s.ss.map (· + 1), s.rd + 1, s.le⟩ else .error ⟨7, none⟩
  | 1 => if isW 0 ((cs.length : Int) - 1) n = true then if s.ss.getD (intOf n).toNat 0 < cs.getD (intOf n).toNat 0 then .error ⟨11, some n⟩ else .ok ⟨s.r + 1, s.ss.set (intOf n).toNat (s.ss.getD (intOf n).toNat 0 - cs.getD (intOf n).toNat 0), s.rd, s.le⟩ else .error ⟨8, none⟩
  | 2 => if isW 1 (10 ^ 18) n = true then .ok ⟨s.r + intOf n, s.ss, s.rd, s.le + intOf n⟩ else .error ⟨4, none⟩
  | _ => if isW 1 (10 ^ 18) n = true then if s.le < intOf n then .error ⟨9, none⟩ else if s.r < intOf n then .error ⟨7, none⟩ else .ok ⟨s.r - intOf n, s.ss, s.rd, s.le - intOf n⟩ else .error ⟨4, none⟩
def outK (o : Except XV KS) (S : OS) (a : Addr) (k : KO) (post : OS → D → Prop) (xp : OS → XV → Prop) : Prop := match o with
  | .ok s => post (S.put a { k with past := k.past ++ [kD s] }) .none
  | .error x => xp S x
def backK (S : OS) (a : Addr) (k : KO) (post : OS → D → Prop) (xp : OS → XV → Prop) : Prop := if k.past.length = 1 then xp S ⟨10, none⟩ else post (S.put a { k with past := k.past.dropLast }) .none
/-! ### its methods -/
def wm_Kept_purse : WFn2 := fun ds S post xp => ∃ a k cs s, ds = [hD a] ∧ S a = some k ∧ Kst cs s k ∧ post S (pD s.r s.ss)
def ws_Kept_purse (xp : OS → XV → Prop) : WS2 := (wsRet2 (wOp2 wIx (wPast 0) (lE (wC (.int 0)))))
theorem len_Kept_purse : ∀ ds S post xp, wm_Kept_purse ds S post xp → ds.length = 1 := by
  rintro ds S post xp ⟨a, k, cs, s, rfl, _⟩
  rfl
theorem hd_Kept_purse : ∀ ds S post xp, wm_Kept_purse ds S post xp → ws_Kept_purse xp { nx := fun S _ => post S .none, rt := post } S (startR 1 ds) := by
  rintro ds S post xp ⟨a, k, cs, s, rfl, hS, h, q⟩
  simp [ws_Kept_purse, wsRet, wsRetN, wsSeq, wsNext, wsSet, wsAsg, wsPar, wsIf, wsExpr, wVar, wC, wOp, wUn, wCall, wNil, wCons, wI, wI0, wAdd, wSub, wMul, wDiv, wMod, wNeg, wLt, wLe, wGt, wGe, wIsN, isN_fr, isN_ow, isN_none, isN_int, isN_tup, isN_lst, wTest, wAnd, wOr, wNot, wAndV, wOrV, wNotV, wIf, wChain, wTup, wLst, wFrz, wLen, wMax, wMin, wIx, wIsi, plainD, isTy, wFcall, mapfr_nil, mapfr_cons, dat_fr, dat_ow, X.fr_inj, its_tup, its_lst, its_ow, itl_lst, itl_ow, atI_0, atI_1, atI_2, startR, wName, wNames, setAll, wipeR, and_assoc, wBag, wBag0, wBag1, wsBump, wsApp, wsSetN, wsFrz, wsParN, wsSetI, wsPar3, wRevT, lE, lT, lA, lS, lI, WEnds2.at_, wOp2, wTest2, wAnd2, wOr2, wNot2, wNil2, wCons2, wTup2, wFcall2, wCal2, wMeth2, wMake2, wCall2, wsSeq2, wsNext2, wsSet2, wsAsg2, wsRet2, wsExpr2, wsIf2, wCards, wPast, wsPush, wNames, setAll, wsNever, wsRaise2, wsRaiseK2, wLenP, wsPop, wAndV2, wIf2, wsPar32, wLenK2, wEqK2, wIsK, wXcal2]
  exact ⟨a, rfl, k, hS, _, h.last, _, .tup _, _, atI_0, q⟩
def wm_Kept_ridden : WFn2 := fun ds S post xp => ∃ a k cs s, ds = [hD a] ∧ S a = some k ∧ Kst cs s k ∧ post S (.int s.rd)
def ws_Kept_ridden (xp : OS → XV → Prop) : WS2 := (wsRet2 (wOp2 wIx (wPast 0) (lE (wC (.int 1)))))
theorem len_Kept_ridden : ∀ ds S post xp, wm_Kept_ridden ds S post xp → ds.length = 1 := by
  rintro ds S post xp ⟨a, k, cs, s, rfl, _⟩
  rfl
theorem hd_Kept_ridden : ∀ ds S post xp, wm_Kept_ridden ds S post xp → ws_Kept_ridden xp { nx := fun S _ => post S .none, rt := post } S (startR 1 ds) := by
  rintro ds S post xp ⟨a, k, cs, s, rfl, hS, h, q⟩
  simp [ws_Kept_ridden, wsRet, wsRetN, wsSeq, wsNext, wsSet, wsAsg, wsPar, wsIf, wsExpr, wVar, wC, wOp, wUn, wCall, wNil, wCons, wI, wI0, wAdd, wSub, wMul, wDiv, wMod, wNeg, wLt, wLe, wGt, wGe, wIsN, isN_fr, isN_ow, isN_none, isN_int, isN_tup, isN_lst, wTest, wAnd, wOr, wNot, wAndV, wOrV, wNotV, wIf, wChain, wTup, wLst, wFrz, wLen, wMax, wMin, wIx, wIsi, plainD, isTy, wFcall, mapfr_nil, mapfr_cons, dat_fr, dat_ow, X.fr_inj, its_tup, its_lst, its_ow, itl_lst, itl_ow, atI_0, atI_1, atI_2, startR, wName, wNames, setAll, wipeR, and_assoc, wBag, wBag0, wBag1, wsBump, wsApp, wsSetN, wsFrz, wsParN, wsSetI, wsPar3, wRevT, lE, lT, lA, lS, lI, WEnds2.at_, wOp2, wTest2, wAnd2, wOr2, wNot2, wNil2, wCons2, wTup2, wFcall2, wCal2, wMeth2, wMake2, wCall2, wsSeq2, wsNext2, wsSet2, wsAsg2, wsRet2, wsExpr2, wsIf2, wCards, wPast, wsPush, wNames, setAll, wsNever, wsRaise2, wsRaiseK2, wLenP, wsPop, wAndV2, wIf2, wsPar32, wLenK2, wEqK2, wIsK, wXcal2]
  exact ⟨a, rfl, k, hS, _, h.last, _, .tup _, _, atI_1, q⟩
def wm_Kept_lent : WFn2 := fun ds S post xp => ∃ a k cs s, ds = [hD a] ∧ S a = some k ∧ Kst cs s k ∧ post S (.int s.le)
def ws_Kept_lent (xp : OS → XV → Prop) : WS2 := (wsRet2 (wOp2 wIx (wPast 0) (lE (wC (.int 2)))))
theorem len_Kept_lent : ∀ ds S post xp, wm_Kept_lent ds S post xp → ds.length = 1 := by
  rintro ds S post xp ⟨a, k, cs, s, rfl, _⟩
  rfl
theorem hd_Kept_lent : ∀ ds S post xp, wm_Kept_lent ds S post xp → ws_Kept_lent xp { nx := fun S _ => post S .none, rt := post } S (startR 1 ds) := by
  rintro ds S post xp ⟨a, k, cs, s, rfl, hS, h, q⟩
  simp [ws_Kept_lent, wsRet, wsRetN, wsSeq, wsNext, wsSet, wsAsg, wsPar, wsIf, wsExpr, wVar, wC, wOp, wUn, wCall, wNil, wCons, wI, wI0, wAdd, wSub, wMul, wDiv, wMod, wNeg, wLt, wLe, wGt, wGe, wIsN, isN_fr, isN_ow, isN_none, isN_int, isN_tup, isN_lst, wTest, wAnd, wOr, wNot, wAndV, wOrV, wNotV, wIf, wChain, wTup, wLst, wFrz, wLen, wMax, wMin, wIx, wIsi, plainD, isTy, wFcall, mapfr_nil, mapfr_cons, dat_fr, dat_ow, X.fr_inj, its_tup, its_lst, its_ow, itl_lst, itl_ow, atI_0, atI_1, atI_2, startR, wName, wNames, setAll, wipeR, and_assoc, wBag, wBag0, wBag1, wsBump, wsApp, wsSetN, wsFrz, wsParN, wsSetI, wsPar3, wRevT, lE, lT, lA, lS, lI, WEnds2.at_, wOp2, wTest2, wAnd2, wOr2, wNot2, wNil2, wCons2, wTup2, wFcall2, wCal2, wMeth2, wMake2, wCall2, wsSeq2, wsNext2, wsSet2, wsAsg2, wsRet2, wsExpr2, wsIf2, wCards, wPast, wsPush, wNames, setAll, wsNever, wsRaise2, wsRaiseK2, wLenP, wsPop, wAndV2, wIf2, wsPar32, wLenK2, wEqK2, wIsK, wXcal2]
  exact ⟨a, rfl, k, hS, _, h.last, _, .tup _, _, atI_2, q⟩
def wm_Kept_still : WFn2 := fun ds S post xp => ∃ a k cs s, ds = [hD a] ∧ S a = some k ∧ Kst cs s k ∧ CardsOk cs ∧ ∀ o, IsAll cs s.ss s.r o → post S (oD o)
def ws_Kept_still (xp : OS → XV → Prop) : WS2 := (wsRet2 (wFcall2 wf_in_all (wCons2 (wCards 0) (wCons2 (wOp2 wIx (wPast 0) (lE (wC (.int 0)))) wNil2))))
theorem len_Kept_still : ∀ ds S post xp, wm_Kept_still ds S post xp → ds.length = 1 := by
  rintro ds S post xp ⟨a, k, cs, s, rfl, _⟩
  rfl
theorem hd_Kept_still : ∀ ds S post xp, wm_Kept_still ds S post xp → ws_Kept_still xp { nx := fun S _ => post S .none, rt := post } S (startR 1 ds) := by
  rintro ds S post xp ⟨a, k, cs, s, rfl, hS, h, ok, q⟩
  simp [ws_Kept_still, wsRet, wsRetN, wsSeq, wsNext, wsSet, wsAsg, wsPar, wsIf, wsExpr, wVar, wC, wOp, wUn, wCall, wNil, wCons, wI, wI0, wAdd, wSub, wMul, wDiv, wMod, wNeg, wLt, wLe, wGt, wGe, wIsN, isN_fr, isN_ow, isN_none, isN_int, isN_tup, isN_lst, wTest, wAnd, wOr, wNot, wAndV, wOrV, wNotV, wIf, wChain, wTup, wLst, wFrz, wLen, wMax, wMin, wIx, wIsi, plainD, isTy, wFcall, mapfr_nil, mapfr_cons, dat_fr, dat_ow, X.fr_inj, its_tup, its_lst, its_ow, itl_lst, itl_ow, atI_0, atI_1, atI_2, startR, wName, wNames, setAll, wipeR, and_assoc, wBag, wBag0, wBag1, wsBump, wsApp, wsSetN, wsFrz, wsParN, wsSetI, wsPar3, wRevT, lE, lT, lA, lS, lI, WEnds2.at_, wOp2, wTest2, wAnd2, wOr2, wNot2, wNil2, wCons2, wTup2, wFcall2, wCal2, wMeth2, wMake2, wCall2, wsSeq2, wsNext2, wsSet2, wsAsg2, wsRet2, wsExpr2, wsIf2, wCards, wPast, wsPush, wNames, setAll, wsNever, wsRaise2, wsRaiseK2, wLenP, wsPop, wAndV2, wIf2, wsPar32, wLenK2, wEqK2, wIsK, wXcal2]
  exact ⟨a, rfl, k, hS, a, rfl, k, hS, _, h.last, _, .tup _, _, atI_0, cs, s.r, s.ss, by rw [h.cs_], ok, h.good.r0, h.good.len, h.good.s0, q⟩
def wm_Kept_len : WFn2 := fun ds S post xp => ∃ a k cs, ds = [hD a] ∧ S a = some k ∧ k.cs = tI cs ∧ post S (.int (cs.length : Nat))
def ws_Kept_len (xp : OS → XV → Prop) : WS2 := (wsRet2 (wCall2 wLen (wCons2 (wCards 0) wNil2)))
theorem len_Kept_len : ∀ ds S post xp, wm_Kept_len ds S post xp → ds.length = 1 := by
  rintro ds S post xp ⟨a, k, cs, rfl, _⟩
  rfl
theorem hd_Kept_len : ∀ ds S post xp, wm_Kept_len ds S post xp → ws_Kept_len xp { nx := fun S _ => post S .none, rt := post } S (startR 1 ds) := by
  rintro ds S post xp ⟨a, k, cs, rfl, hS, e, q⟩
  simp [ws_Kept_len, wsRet, wsRetN, wsSeq, wsNext, wsSet, wsAsg, wsPar, wsIf, wsExpr, wVar, wC, wOp, wUn, wCall, wNil, wCons, wI, wI0, wAdd, wSub, wMul, wDiv, wMod, wNeg, wLt, wLe, wGt, wGe, wIsN, isN_fr, isN_ow, isN_none, isN_int, isN_tup, isN_lst, wTest, wAnd, wOr, wNot, wAndV, wOrV, wNotV, wIf, wChain, wTup, wLst, wFrz, wLen, wMax, wMin, wIx, wIsi, plainD, isTy, wFcall, mapfr_nil, mapfr_cons, dat_fr, dat_ow, X.fr_inj, its_tup, its_lst, its_ow, itl_lst, itl_ow, atI_0, atI_1, atI_2, startR, wName, wNames, setAll, wipeR, and_assoc, wBag, wBag0, wBag1, wsBump, wsApp, wsSetN, wsFrz, wsParN, wsSetI, wsPar3, wRevT, lE, lT, lA, lS, lI, WEnds2.at_, wOp2, wTest2, wAnd2, wOr2, wNot2, wNil2, wCons2, wTup2, wFcall2, wCal2, wMeth2, wMake2, wCall2, wsSeq2, wsNext2, wsSet2, wsAsg2, wsRet2, wsExpr2, wsIf2, wCards, wPast, wsPush, wNames, setAll, wsNever, wsRaise2, wsRaiseK2, wLenP, wsPop, wAndV2, wIf2, wsPar32, wLenK2, wEqK2, wIsK, wXcal2]
  exact ⟨a, rfl, k, hS, cs.map PyData.int, by rw [e]; exact .tup _, by rw [List.length_map]; exact q⟩
theorem cl_kD (s : KS) : Cl (kD s) := by
  show (cleanN 5 (pD s.r s.ss) && (cleanN 5 (.int s.rd) && (cleanN 5 (.int s.le) && true))) = true
  have : cleanN 5 (pD s.r s.ss) = true := by
    show (cleanN 4 (.int s.r) && ((s.ss.map PyData.int).all (cleanN 3) && true)) = true
    rw [cl_ints]
    rfl
  rw [this]
  rfl
def wm_Kept_eq : WFn2 := fun ds S post xp => (∃ a k cs s b l s', ds = [hD a, hD b] ∧ S a = some k ∧ S b = some l ∧ Kst cs s k ∧ Kst cs s' l ∧ (kD s = kD s' → post S (.bool true)) ∧ (kD s ≠ kD s' → post S (.bool false))) ∨
  ∃ a k es, ds = [hD a, .tuple es] ∧ S a = some k ∧ post S (.bool false)
def ws_Kept_eq (xp : OS → XV → Prop) : WS2 := (wsRet2 (wAndV2 (wIsK 1) (wAndV2 (wOp2 (wEq false) (wCards 0) (wCards 1)) (wOp2 (wEq false) (wPast 0) (wPast 1)))))
theorem len_Kept_eq : ∀ ds S post xp, wm_Kept_eq ds S post xp → ds.length = 2 := by
  rintro ds S post xp (⟨a, k, cs, s, b, l, s', rfl, _⟩ | ⟨a, k, es, rfl, _⟩) <;> rfl
theorem hd_Kept_eq : ∀ ds S post xp, wm_Kept_eq ds S post xp → ws_Kept_eq xp { nx := fun S _ => post S .none, rt := post } S (startR 2 ds) := by
  rintro ds S post xp (⟨a, k, cs, s, b, l, s', rfl, h1, h2, h3, h4, q1, q2⟩ | ⟨a, k, es, rfl, hS, q⟩)
  · refine ⟨_, rfl, .inl ⟨b, l, rfl, h2, true, rfl, iteP rfl ?_⟩⟩
    refine ⟨a, k, rfl, h1, b, l, rfl, h2, ?_⟩
    rw [h3.cs_, h4.cs_]
    refine eqT (cl_tI cs) rfl ⟨true, rfl, iteP rfl ?_⟩
    exact ⟨a, k, _, rfl, h1, h3.last, b, l, _, rfl, h2, h4.last, eqC (cl_kD s) (cl_kD s') (fun e => ⟨_, rfl, q1 e⟩) fun e => ⟨_, rfl, q2 e⟩⟩
  · exact ⟨_, rfl, .inr ⟨es, rfl, false, rfl, iteQ Bool.false_ne_true ⟨_, rfl, q⟩⟩⟩
def wm_Kept_ride : WFn2 := fun ds S post xp => ∃ a k cs s, ds = [hD a] ∧ S a = some k ∧ Kst cs s k ∧ cs.length ≤ 3 ∧ k.past.length < 100000 ∧ outK (doneK cs s .none 0) S a k post xp
def ws_Kept_ride (xp : OS → XV → Prop) : WS2 := (wsSeq2 (wsAsg2 (wPast 0) (wNames [1, 2, 3]))
  (wsSeq2 (wsIf2 (lT (wTest (wOp (wEq false) (wOp wIx (wVar 1) (wC (.int 0))) (wC (.int 0))))) (wsRaise2 xp 7) wsNext2)
  (wsPush 0 (wTup2 (wCons2 (wFcall2 wf_done (wCons2 (wCards 0) (wCons2 (lE (wVar 1)) (wCons2 (lE (wC (.str (Str.ofString "ride")))) wNil2)))) (wCons2 (lE (wOp wAdd (wVar 2) (wC (.int 1)))) (wCons2 (lE (wVar 3)) wNil2)))))))
theorem len_Kept_ride : ∀ ds S post xp, wm_Kept_ride ds S post xp → ds.length = 1 := by
  rintro ds S post xp ⟨a, k, cs, s, rfl, _⟩
  rfl
theorem hd_Kept_ride : ∀ ds S post xp, wm_Kept_ride ds S post xp → ws_Kept_ride xp { nx := fun S _ => post S .none, rt := post } S (startR 4 ds) := by
  rintro ds S post xp ⟨a, k, cs, s, rfl, hS, h, hc, hl, q⟩
  have r0 := h.good.r0
  unfold ws_Kept_ride
  refine w_unpack (a := a) (k := k) (s := s) rfl hS h.last ?_
  simp [wsRet, wsRetN, wsSeq, wsNext, wsSet, wsAsg, wsPar, wsIf, wsExpr, wVar, wC, wOp, wUn, wCall, wNil, wCons, wI, wI0, wAdd, wSub, wMul, wDiv, wMod, wNeg, wLt, wLe, wGt, wGe, wIsN, isN_fr, isN_ow, isN_none, isN_int, isN_tup, isN_lst, wTest, wAnd, wOr, wNot, wAndV, wOrV, wNotV, wIf, wChain, wTup, wLst, wFrz, wLen, wMax, wMin, wIx, wIsi, plainD, isTy, wFcall, mapfr_nil, mapfr_cons, dat_fr, dat_ow, X.fr_inj, its_tup, its_lst, its_ow, itl_lst, itl_ow, atI_0, atI_1, atI_2, startR, wName, wNames, setAll, wipeR, and_assoc, wBag, wBag0, wBag1, wsBump, wsApp, wsSetN, wsFrz, wsParN, wsSetI, wsPar3, wRevT, lE, lT, lA, lS, lI, WEnds2.at_, wOp2, wTest2, wAnd2, wOr2, wNot2, wNil2, wCons2, wTup2, wFcall2, wCal2, wMeth2, wMake2, wCall2, wsSeq2, wsNext2, wsSet2, wsAsg2, wsRet2, wsExpr2, wsIf2, wCards, wPast, wsPush, wNames, setAll, wsNever, wsRaise2, wsRaiseK2, wLenP, wsPop, wAndV2, wIf2, wsPar32, wLenK2, wEqK2, wIsK, wXcal2, startR]
  refine eqC (cl_int _) (cl_int _) (fun e => ?_) (fun e => ?_)
  · injection e with e
    have q : outK (if 0 < s.r then _ else _) S a k post xp := q
    rw [if_neg (by omega)] at q
    exact .inr ⟨rfl, q⟩
  · have hr : 0 < s.r := by
      have : s.r ≠ 0 := fun z => e (by show PyData.int s.r = .int 0; rw [z])
      omega
    have q : outK (if 0 < s.r then _ else _) S a k post xp := q
    rw [if_pos hr] at q
    refine .inl ⟨rfl, a, rfl, ⟨k, hS⟩, a, rfl, k, hS, cs, s.r, s.ss, none, by rw [h.cs_]; rfl, hc, h.good.len, (fun j e => nomatch e), ?_⟩
    unfold stepF
    rw [if_pos hr]
    exact ⟨k, hS, hl, q⟩
theorem isW_18 (lo : Int) (n : D) : isW lo (10 ^ 18) n = isW lo 1000000000000000000 n := by
  rw [show (10 : Int) ^ 18 = 1000000000000000000 by decide]
def wm_Kept_give : WFn2 := fun ds S post xp => ∃ a k cs s n, ds = [hD a, n] ∧ S a = some k ∧ Kst cs s k ∧ cs.length ≤ 3 ∧ plainD n = true ∧ k.past.length < 100000 ∧ outK (doneK cs s n 1) S a k post xp
def ws_Kept_give (xp : OS → XV → Prop) : WS2 := (wsSeq2 (wsAsg2 (wPast 0) (wNames [2, 3, 4]))
  (wsSeq2 (wsIf2 (wNot2 (wTest2 (wFcall2 wf_is_within (wCons2 (lE (wVar 1)) (wCons2 (lE (wC (.int 0))) (wCons2 (wOp2 wSub (wCall2 wLen (wCons2 (wCards 0) wNil2)) (lE (wC (.int 1)))) wNil2)))))) (wsRaise2 xp 8) wsNext2)
  (wsSeq2 (wsIf2 (wTest2 (wOp2 wLt (lE (wOp wIx (wOp wIx (wVar 2) (wC (.int 1))) (wVar 1))) (wOp2 wIx (wCards 0) (lE (wVar 1))))) (wsRaiseK2 xp (wVar 1)) wsNext2)
  (wsPush 0 (wTup2 (wCons2 (wFcall2 wf_done (wCons2 (wCards 0) (wCons2 (lE (wVar 2)) (wCons2 (lE (wVar 1)) wNil2)))) (wCons2 (lE (wVar 3)) (wCons2 (lE (wVar 4)) wNil2))))))))
theorem len_Kept_give : ∀ ds S post xp, wm_Kept_give ds S post xp → ds.length = 2 := by
  rintro ds S post xp ⟨a, k, cs, s, j, rfl, _⟩
  rfl
theorem hd_Kept_give : ∀ ds S post xp, wm_Kept_give ds S post xp → ws_Kept_give xp { nx := fun S _ => post S .none, rt := post } S (startR 5 ds) := by
  rintro ds S post xp ⟨a, k, cs, s, n, rfl, hS, h, hc, hp, hl, q⟩
  unfold ws_Kept_give
  refine w_unpack (a := a) (k := k) (s := s) rfl hS h.last ?_
  simp [wsRet, wsRetN, wsSeq, wsNext, wsSet, wsAsg, wsPar, wsIf, wsExpr, wVar, wC, wOp, wUn, wCall, wNil, wCons, wI, wI0, wAdd, wSub, wMul, wDiv, wMod, wNeg, wLt, wLe, wGt, wGe, wIsN, isN_fr, isN_ow, isN_none, isN_int, isN_tup, isN_lst, wTest, wAnd, wOr, wNot, wAndV, wOrV, wNotV, wIf, wChain, wTup, wLst, wFrz, wLen, wMax, wMin, wIx, wIsi, plainD, isTy, wFcall, mapfr_nil, mapfr_cons, dat_fr, dat_ow, X.fr_inj, its_tup, its_lst, its_ow, itl_lst, itl_ow, atI_0, atI_1, atI_2, startR, wName, wNames, setAll, wipeR, and_assoc, wBag, wBag0, wBag1, wsBump, wsApp, wsSetN, wsFrz, wsParN, wsSetI, wsPar3, wRevT, lE, lT, lA, lS, lI, WEnds2.at_, wOp2, wTest2, wAnd2, wOr2, wNot2, wNil2, wCons2, wTup2, wFcall2, wCal2, wMeth2, wMake2, wCall2, wsSeq2, wsNext2, wsSet2, wsAsg2, wsRet2, wsExpr2, wsIf2, wCards, wPast, wsPush, wNames, setAll, wsNever, wsRaise2, wsRaiseK2, wLenP, wsPop, wAndV2, wIf2, wsPar32, wLenK2, wEqK2, wIsK, wXcal2, startR]
  refine ⟨a, rfl, k, hS, _, by rw [h.cs_]; exact .tup _, n, _, _, rfl, hp, ?_⟩
  rw [List.length_map]
  have q : outK (if isW 0 ((cs.length : Int) - 1) n = true then _ else _) S a k post xp := q
  cases hw : isW 0 ((cs.length : Int) - 1) n with
  | false =>
    rw [hw, if_neg Bool.false_ne_true] at q
    simp
    exact q
  | true =>
    rw [hw, if_pos rfl] at q
    obtain ⟨j, rfl, j0, j1⟩ := isW_of hw
    obtain ⟨j, rfl⟩ := Int.eq_ofNat_of_zero_le j0
    have hj : j < cs.length := by omega
    have e1 := at_getD (ns := s.ss) (j := j) (by rw [h.good.len]; exact hj)
    have e2 := at_getD hj
    simp
    have q : outK (if s.ss.getD j 0 < cs.getD j 0 then _ else _) S a k post xp := q
    refine ⟨_, e1, a, rfl, k, hS, _, by rw [h.cs_]; exact .tup _, _, e2, _, rfl, _, rfl, ?_⟩
    by_cases hf : s.ss.getD j 0 < cs.getD j 0
    · rw [if_pos hf] at q
      rw [if_pos hf]
      exact q
    · rw [if_neg hf] at q
      rw [if_neg hf]
      refine ⟨a, rfl, ⟨k, hS⟩, a, rfl, k, hS, cs, s.r, s.ss, some j, by rw [h.cs_]; rfl, hc, h.good.len, (fun i e => by cases e; exact hj), ?_⟩
      unfold stepF
      show ∃ x, S a = some x ∧ x.past.length < 100000 ∧ post (S.put a { cs := x.cs, past := x.past ++ [.tuple [stepD (if s.ss.getD j 0 < cs.getD j 0 then none else some (s.r + 1, s.ss.set j (s.ss.getD j 0 - cs.getD j 0))), .int s.rd, .int s.le]], pl := x.pl }) .none
      rw [if_neg hf]
      exact ⟨k, hS, hl, q⟩
def wm_Kept_lend : WFn2 := fun ds S post xp => ∃ a k cs s n, ds = [hD a, n] ∧ S a = some k ∧ Kst cs s k ∧ plainD n = true ∧ k.past.length < 100000 ∧ outK (doneK cs s n 2) S a k post xp
def ws_Kept_lend (xp : OS → XV → Prop) : WS2 := (wsSeq2 (wsAsg2 (wPast 0) (wNames [2, 3, 4]))
  (wsSeq2 (wsIf2 (lT (wNot (wTest (wFcall wf_is_within (wCons (wVar 1) (wCons (wC (.int 1)) (wCons (wC (.int 1000000000000000000)) wNil))))))) (wsRaise2 xp 4) wsNext2)
  (wsPush 0 (lE (wTup (wCons (wTup (wCons (wOp wAdd (wOp wIx (wVar 2) (wC (.int 0))) (wVar 1)) (wCons (wOp wIx (wVar 2) (wC (.int 1))) wNil))) (wCons (wVar 3) (wCons (wOp wAdd (wVar 4) (wVar 1)) wNil))))))))
theorem len_Kept_lend : ∀ ds S post xp, wm_Kept_lend ds S post xp → ds.length = 2 := by
  rintro ds S post xp ⟨a, k, cs, s, n, rfl, _⟩
  rfl
theorem hd_Kept_lend : ∀ ds S post xp, wm_Kept_lend ds S post xp → ws_Kept_lend xp { nx := fun S _ => post S .none, rt := post } S (startR 5 ds) := by
  rintro ds S post xp ⟨a, k, cs, s, n, rfl, hS, h, hp, hl, q⟩
  unfold ws_Kept_lend
  refine w_unpack (a := a) (k := k) (s := s) rfl hS h.last ?_
  simp [wsRet, wsRetN, wsSeq, wsNext, wsSet, wsAsg, wsPar, wsIf, wsExpr, wVar, wC, wOp, wUn, wCall, wNil, wCons, wI, wI0, wAdd, wSub, wMul, wDiv, wMod, wNeg, wLt, wLe, wGt, wGe, wIsN, isN_fr, isN_ow, isN_none, isN_int, isN_tup, isN_lst, wTest, wAnd, wOr, wNot, wAndV, wOrV, wNotV, wIf, wChain, wTup, wLst, wFrz, wLen, wMax, wMin, wIx, wIsi, plainD, isTy, wFcall, mapfr_nil, mapfr_cons, dat_fr, dat_ow, X.fr_inj, its_tup, its_lst, its_ow, itl_lst, itl_ow, atI_0, atI_1, atI_2, startR, wName, wNames, setAll, wipeR, and_assoc, wBag, wBag0, wBag1, wsBump, wsApp, wsSetN, wsFrz, wsParN, wsSetI, wsPar3, wRevT, lE, lT, lA, lS, lI, WEnds2.at_, wOp2, wTest2, wAnd2, wOr2, wNot2, wNil2, wCons2, wTup2, wFcall2, wCal2, wMeth2, wMake2, wCall2, wsSeq2, wsNext2, wsSet2, wsAsg2, wsRet2, wsExpr2, wsIf2, wCards, wPast, wsPush, wNames, setAll, wsNever, wsRaise2, wsRaiseK2, wLenP, wsPop, wAndV2, wIf2, wsPar32, wLenK2, wEqK2, wIsK, wXcal2, startR]
  refine ⟨n, _, _, rfl, hp, ?_⟩
  have q : outK (if isW 1 (10 ^ 18) n = true then _ else _) S a k post xp := q
  rw [isW_18] at q
  cases hw : isW 1 1000000000000000000 n with
  | false =>
    rw [hw, if_neg Bool.false_ne_true] at q
    simp
    exact q
  | true =>
    rw [hw, if_pos rfl] at q
    obtain ⟨j, rfl, j0, j1⟩ := isW_of hw
    simp
    exact ⟨a, rfl, ⟨k, hS⟩, k, hS, hl, q⟩
def wm_Kept_pay : WFn2 := fun ds S post xp => ∃ a k cs s n, ds = [hD a, n] ∧ S a = some k ∧ Kst cs s k ∧ plainD n = true ∧ k.past.length < 100000 ∧ outK (doneK cs s n 3) S a k post xp
def ws_Kept_pay (xp : OS → XV → Prop) : WS2 := (wsSeq2 (wsAsg2 (wPast 0) (wNames [2, 3, 4]))
  (wsSeq2 (wsIf2 (lT (wNot (wTest (wFcall wf_is_within (wCons (wVar 1) (wCons (wC (.int 1)) (wCons (wC (.int 1000000000000000000)) wNil))))))) (wsRaise2 xp 4) wsNext2)
  (wsSeq2 (wsIf2 (lT (wTest (wOp wGt (wVar 1) (wVar 4)))) (wsRaise2 xp 9) wsNext2)
  (wsSeq2 (wsIf2 (lT (wTest (wOp wGt (wVar 1) (wOp wIx (wVar 2) (wC (.int 0)))))) (wsRaise2 xp 7) wsNext2)
  (wsPush 0 (lE (wTup (wCons (wTup (wCons (wOp wSub (wOp wIx (wVar 2) (wC (.int 0))) (wVar 1)) (wCons (wOp wIx (wVar 2) (wC (.int 1))) wNil))) (wCons (wVar 3) (wCons (wOp wSub (wVar 4) (wVar 1)) wNil))))))))))
theorem len_Kept_pay : ∀ ds S post xp, wm_Kept_pay ds S post xp → ds.length = 2 := by
  rintro ds S post xp ⟨a, k, cs, s, n, rfl, _⟩
  rfl
theorem hd_Kept_pay : ∀ ds S post xp, wm_Kept_pay ds S post xp → ws_Kept_pay xp { nx := fun S _ => post S .none, rt := post } S (startR 5 ds) := by
  rintro ds S post xp ⟨a, k, cs, s, n, rfl, hS, h, hp, hl, q⟩
  unfold ws_Kept_pay
  refine w_unpack (a := a) (k := k) (s := s) rfl hS h.last ?_
  simp [wsRet, wsRetN, wsSeq, wsNext, wsSet, wsAsg, wsPar, wsIf, wsExpr, wVar, wC, wOp, wUn, wCall, wNil, wCons, wI, wI0, wAdd, wSub, wMul, wDiv, wMod, wNeg, wLt, wLe, wGt, wGe, wIsN, isN_fr, isN_ow, isN_none, isN_int, isN_tup, isN_lst, wTest, wAnd, wOr, wNot, wAndV, wOrV, wNotV, wIf, wChain, wTup, wLst, wFrz, wLen, wMax, wMin, wIx, wIsi, plainD, isTy, wFcall, mapfr_nil, mapfr_cons, dat_fr, dat_ow, X.fr_inj, its_tup, its_lst, its_ow, itl_lst, itl_ow, atI_0, atI_1, atI_2, startR, wName, wNames, setAll, wipeR, and_assoc, wBag, wBag0, wBag1, wsBump, wsApp, wsSetN, wsFrz, wsParN, wsSetI, wsPar3, wRevT, lE, lT, lA, lS, lI, WEnds2.at_, wOp2, wTest2, wAnd2, wOr2, wNot2, wNil2, wCons2, wTup2, wFcall2, wCal2, wMeth2, wMake2, wCall2, wsSeq2, wsNext2, wsSet2, wsAsg2, wsRet2, wsExpr2, wsIf2, wCards, wPast, wsPush, wNames, setAll, wsNever, wsRaise2, wsRaiseK2, wLenP, wsPop, wAndV2, wIf2, wsPar32, wLenK2, wEqK2, wIsK, wXcal2, startR]
  refine ⟨n, _, _, rfl, hp, ?_⟩
  have q : outK (if isW 1 (10 ^ 18) n = true then _ else _) S a k post xp := q
  rw [isW_18] at q
  cases hw : isW 1 1000000000000000000 n with
  | false =>
    rw [hw, if_neg Bool.false_ne_true] at q
    simp
    exact q
  | true =>
    rw [hw, if_pos rfl] at q
    obtain ⟨j, rfl, j0, j1⟩ := isW_of hw
    simp
    have q : outK (if s.le < j then _ else if s.r < j then _ else _) S a k post xp := q
    by_cases h1 : s.le < j
    · rw [if_pos h1] at q
      rw [if_pos h1]
      exact q
    · rw [if_neg h1] at q
      rw [if_neg h1]
      by_cases h2 : s.r < j
      · rw [if_pos h2] at q
        rw [if_pos h2]
        exact q
      · rw [if_neg h2] at q
        rw [if_neg h2]
        exact ⟨a, rfl, ⟨k, hS⟩, k, hS, hl, q⟩
def wm_Kept_back : WFn2 := fun ds S post xp => ∃ a k, ds = [hD a] ∧ S a = some k ∧ 0 < k.past.length ∧ backK S a k post xp
def ws_Kept_back (xp : OS → XV → Prop) : WS2 := (wsSeq2 (wsIf2 (wTest2 (wOp2 (wEq false) (wLenP 0) (lE (wC (.int 1))))) (wsRaise2 xp 10) wsNext2)
  (wsPop 0))
theorem len_Kept_back : ∀ ds S post xp, wm_Kept_back ds S post xp → ds.length = 1 := by
  rintro ds S post xp ⟨a, k, rfl, _⟩
  rfl
theorem hd_Kept_back : ∀ ds S post xp, wm_Kept_back ds S post xp → ws_Kept_back xp { nx := fun S _ => post S .none, rt := post } S (startR 1 ds) := by
  rintro ds S post xp ⟨a, k, rfl, hS, hl, q⟩
  simp [ws_Kept_back, wsRet, wsRetN, wsSeq, wsNext, wsSet, wsAsg, wsPar, wsIf, wsExpr, wVar, wC, wOp, wUn, wCall, wNil, wCons, wI, wI0, wAdd, wSub, wMul, wDiv, wMod, wNeg, wLt, wLe, wGt, wGe, wIsN, isN_fr, isN_ow, isN_none, isN_int, isN_tup, isN_lst, wTest, wAnd, wOr, wNot, wAndV, wOrV, wNotV, wIf, wChain, wTup, wLst, wFrz, wLen, wMax, wMin, wIx, wIsi, plainD, isTy, wFcall, mapfr_nil, mapfr_cons, dat_fr, dat_ow, X.fr_inj, its_tup, its_lst, its_ow, itl_lst, itl_ow, atI_0, atI_1, atI_2, startR, wName, wNames, setAll, wipeR, and_assoc, wBag, wBag0, wBag1, wsBump, wsApp, wsSetN, wsFrz, wsParN, wsSetI, wsPar3, wRevT, lE, lT, lA, lS, lI, WEnds2.at_, wOp2, wTest2, wAnd2, wOr2, wNot2, wNil2, wCons2, wTup2, wFcall2, wCal2, wMeth2, wMake2, wCall2, wsSeq2, wsNext2, wsSet2, wsAsg2, wsRet2, wsExpr2, wsIf2, wCards, wPast, wsPush, wNames, setAll, wsNever, wsRaise2, wsRaiseK2, wLenP, wsPop, wAndV2, wIf2, wsPar32, wLenK2, wEqK2, wIsK, wXcal2]
  unfold backK at q
  refine ⟨a, rfl, k, hS, eqC (cl_int _) (cl_int _) (fun e => ?_) fun e => ?_⟩
  · injection e with e
    rw [if_pos (by omega)] at q
    exact .inr ⟨rfl, q⟩
  · rw [if_neg (fun z => e (by show PyData.int (k.past.length : Int) = .int 1; rw [z]; rfl))] at q
    exact .inl ⟨rfl, a, rfl, k, hS, hl, q⟩
end DL

/-! What is paid, by the law. -/
namespace DL
open PySem PySem.Spec PyProof.Rows L2 FR
def wf_law_paid : WFn := fun ds post => ∃ cs r ss n, ds = [tI cs, pD r ss, .int n] ∧ CardsOk cs ∧ post (.int (paidF cs ss r n))
def ws_law_paid : WS := (wsSeq (wsSet 3 (wOp wIx (wVar 1) (wC (.int 0))))
  (wsSeq (wsFor (wiZipT (wCons (wOp wIx (wVar 1) (wC (.int 1))) (wCons (wVar 0) wNil))) (wNames [4, 5]) (wsSet 3 (wOp wAdd (wVar 3) (wOp wDiv (wOp wAdd (wVar 4) (wVar 2)) (wVar 5)))))
  (wsRet (wVar 3))))
theorem len_law_paid : ∀ ds post, wf_law_paid ds post → ds.length = 3 := by
  rintro ds post ⟨cs, r, ss, n, rfl, _⟩
  rfl
def InvPaid (cs ss : List Int) (r n : Int) (i : Nat) (ρ : Ρ) : Prop := ∃ (y z : Option X), ρ = [some (.fr (tI cs)), some (.fr (pD r ss)), some (.fr (.int n)), some (.fr (.int (r + (((ss.zip cs).take i).map fun q => (q.1 + n) / q.2).sum))), y, z]
theorem hd_law_paid : ∀ ds post, wf_law_paid ds post → ws_law_paid { nx := fun _ => post .none, rt := post } (startR 6 ds) := by
  rintro ds post ⟨cs, r, ss, n, rfl, hc, q⟩
  simp [ws_law_paid, wsRet, wsRetN, wsSeq, wsNext, wsSet, wsAsg, wsPar, wsIf, wsExpr, wVar, wC, wOp, wUn, wCall, wNil, wCons, wI, wI0, wAdd, wSub, wMul, wDiv, wMod, wNeg, wLt, wLe, wGt, wGe, wIsN, isN_fr, isN_ow, isN_none, isN_int, isN_tup, isN_lst, wTest, wAnd, wOr, wNot, wAndV, wOrV, wNotV, wIf, wChain, wTup, wLst, wFrz, wLen, wMax, wMin, wIx, wIsi, plainD, isTy, wFcall, mapfr_nil, mapfr_cons, dat_fr, dat_ow, X.fr_inj, its_tup, its_lst, its_ow, itl_lst, itl_ow, atI_0, atI_1, atI_2, startR, wName, wNames, setAll, wipeR, and_assoc, wBag, wBag0, wBag1, wsBump, wsApp, wsSetN, wsFrz, wsParN, wsSetI, wsPar3, wRevT, pD]
  refine w_for (ss.zip cs) (fun q => .tuple [.int q.1, .int q.2]) (fun q h => ?_) (InvPaid cs ss r n) ⟨none, none, by simp [pD]⟩ ?_ ?_
  · simp [wiZipT, wsRet, wsRetN, wsSeq, wsNext, wsSet, wsAsg, wsPar, wsIf, wsExpr, wVar, wC, wOp, wUn, wCall, wNil, wCons, wI, wI0, wAdd, wSub, wMul, wDiv, wMod, wNeg, wLt, wLe, wGt, wGe, wIsN, isN_fr, isN_ow, isN_none, isN_int, isN_tup, isN_lst, wTest, wAnd, wOr, wNot, wAndV, wOrV, wNotV, wIf, wChain, wTup, wLst, wFrz, wLen, wMax, wMin, wIx, wIsi, plainD, isTy, wFcall, mapfr_nil, mapfr_cons, dat_fr, dat_ow, X.fr_inj, its_tup, its_lst, its_ow, itl_lst, itl_ow, atI_0, atI_1, atI_2, startR, wName, wNames, setAll, wipeR, and_assoc, wBag, wBag0, wBag1, wsBump, wsApp, wsSetN, wsFrz, wsParN, wsSetI, wsPar3, wRevT]
    rw [show (List.map PyData.int ss).zip (List.map PyData.int cs) = (ss.zip cs).map (fun q => (.int q.1, .int q.2)) by rw [List.zip_map]; rfl, List.map_map]
    exact h
  · rintro i a ρ hi ⟨y, z, rfl⟩
    have hm := hc.2.2 a.2 (List.of_mem_zip (List.mem_of_getElem? hi)).2
    simp [wsRet, wsRetN, wsSeq, wsNext, wsSet, wsAsg, wsPar, wsIf, wsExpr, wVar, wC, wOp, wUn, wCall, wNil, wCons, wI, wI0, wAdd, wSub, wMul, wDiv, wMod, wNeg, wLt, wLe, wGt, wGe, wIsN, isN_fr, isN_ow, isN_none, isN_int, isN_tup, isN_lst, wTest, wAnd, wOr, wNot, wAndV, wOrV, wNotV, wIf, wChain, wTup, wLst, wFrz, wLen, wMax, wMin, wIx, wIsi, plainD, isTy, wFcall, mapfr_nil, mapfr_cons, dat_fr, dat_ow, X.fr_inj, its_tup, its_lst, its_ow, itl_lst, itl_ow, atI_0, atI_1, atI_2, startR, wName, wNames, setAll, wipeR, and_assoc, wBag, wBag0, wBag1, wsBump, wsApp, wsSetN, wsFrz, wsParN, wsSetI, wsPar3, wRevT, CDiv]
    refine ⟨by omega, by omega, some (.fr (.int a.1)), some (.fr (.int a.2)), ?_⟩
    rw [List.take_add_one, hi]
    simp
    omega
  · rintro ρ ⟨y, z, rfl⟩
    rw [List.take_length]
    exact ⟨_, rfl, q⟩
def wf_law_no_fewer : WFn := fun ds post => ∃ a b, ds = [oD a, oD b] ∧ post (.bool (noFewer a b))
def ws_law_no_fewer : WS := (wsRet (wOrV (wOp (wIsN false) (wVar 0) (wC .none)) (wAndV (wOp (wIsN true) (wVar 1) (wC .none)) (wOp wGe (wVar 0) (wVar 1)))))
theorem len_law_no_fewer : ∀ ds post, wf_law_no_fewer ds post → ds.length = 2 := by
  rintro ds post ⟨a, b, rfl, _⟩
  rfl
theorem hd_law_no_fewer : ∀ ds post, wf_law_no_fewer ds post → ws_law_no_fewer { nx := fun _ => post .none, rt := post } (startR 2 ds) := by
  rintro ds post ⟨a, b, rfl, q⟩
  cases a <;> cases b <;> simp [ws_law_no_fewer, wsRet, wsRetN, wsSeq, wsNext, wsSet, wsAsg, wsPar, wsIf, wsExpr, wVar, wC, wOp, wUn, wCall, wNil, wCons, wI, wI0, wAdd, wSub, wMul, wDiv, wMod, wNeg, wLt, wLe, wGt, wGe, wIsN, isN_fr, isN_ow, isN_none, isN_int, isN_tup, isN_lst, wTest, wAnd, wOr, wNot, wAndV, wOrV, wNotV, wIf, wChain, wTup, wLst, wFrz, wLen, wMax, wMin, wIx, wIsi, plainD, isTy, wFcall, mapfr_nil, mapfr_cons, dat_fr, dat_ow, X.fr_inj, its_tup, its_lst, its_ow, itl_lst, itl_ow, atI_0, atI_1, atI_2, startR, wName, wNames, setAll, wipeR, and_assoc, wBag, wBag0, wBag1, wsBump, wsApp, wsSetN, wsFrz, wsParN, wsSetI, wsPar3, wRevT, oD] <;> exact q
end DL

/-! Law k12 on data: the law's own readings. -/
namespace DL
open PySem PySem.Spec PyProof.Rows L2 FR
def wordS : Nat → Str
  | 0 => Str.ofString "ride"
  | 1 => Str.ofString "give"
  | 2 => Str.ofString "lend"
  | 3 => Str.ofString "pay"
  | _ => Str.ofString "back"
theorem cl_word (i : Nat) : Cl (.str (wordS i)) := by
  unfold wordS
  split <;> decide +kernel
theorem word_inj : ∀ i, i ≤ 4 → ∀ j, j ≤ 4 → wordS i = wordS j → i = j := by decide +kernel
theorem word_eq {i j : Nat} (hi : i ≤ 4) (hj : j ≤ 4) {post : DL.X → Prop} (h1 : i = j → post (.fr (.bool true))) (h2 : i ≠ j → post (.fr (.bool false))) : wEq false (.fr (.str (wordS i))) (.fr (.str (wordS j))) post :=
  eqC (cl_word i) (cl_word j) (fun e => h1 (word_inj i hi j hj (by injection e))) fun ne => h2 fun e => ne (by rw [e])
theorem word_ne {i j : Nat} (hi : i ≤ 4) (hj : j ≤ 4) {post : DL.X → Prop} (h1 : i = j → post (.fr (.bool false))) (h2 : i ≠ j → post (.fr (.bool true))) : wEq true (.fr (.str (wordS i))) (.fr (.str (wordS j))) post :=
  neC (cl_word i) (cl_word j) (fun e => h1 (word_inj i hi j hj (by injection e))) fun ne => h2 fun e => ne (by rw [e])
theorem w_word {i j x : Nat} {ρ : Ρ} {post : Bool → Prop} (hx : ρ[x]? = some (some (.fr (.str (wordS i))))) (hi : i ≤ 4) (hj : j ≤ 4) (h1 : i = j → post true) (h2 : i ≠ j → post false) : wTest (wOp (wEq false) (wVar x) (wC (.str (wordS j)))) ρ post := by
  refine ⟨_, hx, ?_⟩
  show wEq false (X.fr (.str (wordS i))) (X.fr (.str (wordS j))) (fun x => ∃ b, x = X.fr (.bool b) ∧ post b)
  exact word_eq hi hj (fun e => ⟨true, rfl, h1 e⟩) fun e => ⟨false, rfl, h2 e⟩
/-! ### a deed is done -/
def doK (cs : List Int) (s : KS) (n : D) (i : Nat) (S : OS) (a : Addr) (k : KO) (post : OS → D → Prop) (xp : OS → XV → Prop) : Prop := if i = 4 then backK S a k post xp else outK (doneK cs s n i) S a k post xp
def wx_law_do : WFn2 := fun ds S post xp => ∃ a k cs s n i, ds = [hD a, .tuple [.str (wordS i), n]] ∧ i ≤ 4 ∧ S a = some k ∧ Kst cs s k ∧ cs.length ≤ 3 ∧ plainD n = true ∧ 0 < k.past.length ∧ k.past.length < 100000 ∧ doK cs s n i S a k post xp
def ws_law_do (xp : OS → XV → Prop) : WS2 := (wsSeq2 (lS (wsAsg (wVar 1) (wNames [2, 3])))
  (wsSeq2 (wsIf2 (lT (wTest (wOp (wEq false) (wVar 2) (wC (.str (Str.ofString "ride")))))) (wsRet2 (wMeth2 wm_Kept_ride xp (lE (wVar 0)) wNil2)) wsNext2)
  (wsSeq2 (wsIf2 (lT (wTest (wOp (wEq false) (wVar 2) (wC (.str (Str.ofString "give")))))) (wsRet2 (wMeth2 wm_Kept_give xp (lE (wVar 0)) (lA (wCons (wVar 3) wNil)))) wsNext2)
  (wsSeq2 (wsIf2 (lT (wTest (wOp (wEq false) (wVar 2) (wC (.str (Str.ofString "lend")))))) (wsRet2 (wMeth2 wm_Kept_lend xp (lE (wVar 0)) (lA (wCons (wVar 3) wNil)))) wsNext2)
  (wsRet2 (wIf2 (lT (wTest (wOp (wEq false) (wVar 2) (wC (.str (Str.ofString "back")))))) (wMeth2 wm_Kept_back xp (lE (wVar 0)) wNil2) (wMeth2 wm_Kept_pay xp (lE (wVar 0)) (lA (wCons (wVar 3) wNil)))))))))
theorem len_law_do : ∀ ds S post xp, wx_law_do ds S post xp → ds.length = 2 := by
  rintro ds S post xp ⟨a, k, cs, s, n, i, rfl, _⟩
  rfl
theorem outK.imp {o : Except XV KS} {S : OS} {a : Addr} {k : KO} {p p' : OS → D → Prop} {xp : OS → XV → Prop} (h : outK o S a k p xp) (i : ∀ S d, p S d → p' S d) : outK o S a k p' xp := by
  cases o with
  | ok s => exact i _ _ h
  | error x => exact h
theorem backK.imp {S : OS} {a : Addr} {k : KO} {p p' : OS → D → Prop} {xp : OS → XV → Prop} (h : backK S a k p xp) (i : ∀ S d, p S d → p' S d) : backK S a k p' xp := by
  unfold backK at *
  split
  · rename_i e
    rw [if_pos e] at h
    exact h
  · rename_i e
    rw [if_neg e] at h
    exact i _ _ h
theorem w_unpackL {i j1 j2 : Nat} {d1 d2 : D} {u : WS2} {W : WEnds2} {S : OS} {ρ : Ρ} (hi : ρ[i]? = some (some (.fr (.tuple [d1, d2])))) (h : u W S (setAll ρ [j1, j2] [d1, d2])) : wsSeq2 (lS (wsAsg (wVar i) (wNames [j1, j2]))) u W S ρ := ⟨_, hi, _, rfl, _, rfl, rfl, h⟩
theorem hd_law_do : ∀ ds S post xp, wx_law_do ds S post xp → ws_law_do xp { nx := fun S _ => post S .none, rt := post } S (startR 4 ds) := by
  rintro ds S post xp ⟨a, k, cs, s, n, i, rfl, hi, hS, h, hc, hp, h0, hl, q⟩
  refine w_unpackL rfl ?_
  obtain ⟨ρ, r0, r2, r3, er⟩ : ∃ ρ : Ρ, ρ[0]? = some (some (.fr (hD a))) ∧ ρ[2]? = some (some (.fr (.str (wordS i)))) ∧ ρ[3]? = some (some (.fr n)) ∧ setAll (startR 4 [hD a, .tuple [.str (wordS i), n]]) [2, 3] [.str (wordS i), n] = ρ := ⟨_, rfl, rfl, rfl, rfl⟩
  rw [er]
  unfold doK at q
  have key : ∀ (j : Nat) {t u : WS2} (W : WEnds2), j ≤ 3 → (i = j → t { W with nx := u W } S ρ) → (i ≠ j → u W S ρ) → wsSeq2 (wsIf2 (lT (wTest (wOp (wEq false) (wVar 2) (wC (.str (wordS j)))))) t wsNext2) u W S ρ := fun j t u W hj h1 h2 =>
    w_word r2 hi (by omega) (fun e => iteP rfl (h1 e)) fun e => iteQ Bool.false_ne_true (h2 e)
  refine key 0 _ (by decide) (fun e => ?_) (fun n0 => key 1 _ (by decide) (fun e => ?_) fun n1 => key 2 _ (by decide) (fun e => ?_) fun n2 => ?_)
  · subst e
    rw [if_neg (by decide)] at q
    exact ⟨_, r0, a, k, rfl, hS, [], rfl, a, k, cs, s, rfl, hS, h, hc, hl, q.imp fun S d z => ⟨d, rfl, z⟩⟩
  · subst e
    rw [if_neg (by decide)] at q
    exact ⟨_, r0, a, k, rfl, hS, _, r3, [n], rfl, a, k, cs, s, n, rfl, hS, h, hc, hp, hl, q.imp fun S d z => ⟨d, rfl, z⟩⟩
  · subst e
    rw [if_neg (by decide)] at q
    exact ⟨_, r0, a, k, rfl, hS, _, r3, [n], rfl, a, k, cs, s, n, rfl, hS, h, hp, hl, q.imp fun S d z => ⟨d, rfl, z⟩⟩
  · refine w_word (j := 4) r2 hi (by omega) (fun e => iteP rfl ?_) (fun e => iteQ Bool.false_ne_true ?_)
    · rw [if_pos e] at q
      exact ⟨_, r0, a, k, rfl, hS, [], rfl, a, k, rfl, hS, h0, q.imp fun S d z => ⟨d, rfl, z⟩⟩
    · rw [if_neg e] at q
      have e3 : i = 3 := by omega
      subst e3
      exact ⟨_, r0, a, k, rfl, hS, _, r3, [n], rfl, a, k, cs, s, n, rfl, hS, h, hp, hl, q.imp fun S d z => ⟨d, rfl, z⟩⟩
/-! ### the lambdas; what is refused -/
def wl_lam_law_0 : WFn2 := fun ds S post xp => ∃ a b c, ds = [a, b, c] ∧ wx_law_do [a, b] S post xp
def wl_lam_law_1 : WFn2 := fun ds S post xp => ∃ a b c, ds = [a, b, c] ∧ wm_Kept_back [a] S post xp
abbrev fx_lam_law_0 : Nat := 0
abbrev fx_lam_law_1 : Nat := 1
def wsl_lam_law_0 (xp : OS → XV → Prop) : WE2 := (wXcal2 wx_law_do xp (lA (wCons (wVar 0) (wCons (wVar 1) wNil))))
def wsl_lam_law_1 (xp : OS → XV → Prop) : WE2 := (wMeth2 wm_Kept_back xp (lE (wVar 0)) wNil2)
theorem lenl_lam_law_0 : ∀ ds S post xp, wl_lam_law_0 ds S post xp → ds.length = 3 := by
  rintro ds S post xp ⟨a, b, c, rfl, _⟩
  rfl
theorem lenl_lam_law_1 : ∀ ds S post xp, wl_lam_law_1 ds S post xp → ds.length = 3 := by
  rintro ds S post xp ⟨a, b, c, rfl, _⟩
  rfl
theorem hdl_lam_law_0 : ∀ ds S post xp, wl_lam_law_0 ds S post xp → wsl_lam_law_0 xp S (startR 3 ds) fun S' x => ∃ d, x = .fr d ∧ post S' d := by
  rintro ds S post xp ⟨a, b, c, rfl, q⟩
  obtain ⟨a', k, cs, s, n, i, e, hi, hS, h, hc, hp, h0, hl, q⟩ := q
  refine ⟨_, rfl, _, rfl, _, rfl, a', k, cs, s, n, i, e, hi, hS, h, hc, hp, h0, hl, ?_⟩
  unfold doK at *
  split
  · rename_i e
    rw [if_pos e] at q
    exact q.imp fun S d z => ⟨d, rfl, z⟩
  · rename_i e
    rw [if_neg e] at q
    exact q.imp fun S d z => ⟨d, rfl, z⟩
theorem hdl_lam_law_1 : ∀ ds S post xp, wl_lam_law_1 ds S post xp → wsl_lam_law_1 xp S (startR 3 ds) fun S' x => ∃ d, x = .fr d ∧ post S' d := by
  rintro ds S post xp ⟨a, b, c, rfl, q⟩
  obtain ⟨a', k, e, hS, hl, q⟩ := q
  cases e
  exact ⟨_, rfl, a', k, rfl, hS, [], rfl, a', k, rfl, hS, hl, q.imp fun S d z => ⟨d, rfl, z⟩⟩
def Sx2 : Nat → WFn2
  | 0 => wl_lam_law_0
  | 1 => wl_lam_law_1
  | _ => fun _ _ _ _ => False
abbrev liveK : Nat → Prop := liveL [4, 7, 8, 9, 10, 11]
abbrev wc_law_refused : WFc2 := wc_refused Sx2 liveK
/-! ### what is due -/
def dueD : Except XV KS → D
  | .ok s => kD s
  | .error x => .list (kinD x)
def wf_law_from : WFn := fun ds post => ∃ d lo hi, ds = [d, .int lo, .int hi] ∧ plainD d = true ∧ post (.bool (isW lo hi d))
def ws_law_from : WS := (wsRet (wAndV (wIsi "int" (wVar 0)) (wAndV (wNotV (wIsi "bool" (wVar 0))) (wAndV (wOp wLe (wVar 1) (wVar 0)) (wOp wLe (wVar 0) (wVar 2))))))
theorem len_law_from : ∀ ds post, wf_law_from ds post → ds.length = 3 := by
  rintro ds post ⟨d, lo, hi, rfl, _⟩
  rfl
theorem hd_law_from : ∀ ds post, wf_law_from ds post → ws_law_from { nx := fun _ => post .none, rt := post } (startR 3 ds) := by
  rintro ds post ⟨d, lo, hi, rfl, hp, q⟩
  cases d <;> simp [ws_law_from, wsRet, wsRetN, wsSeq, wsNext, wsSet, wsAsg, wsPar, wsIf, wsExpr, wVar, wC, wOp, wUn, wCall, wNil, wCons, wI, wI0, wAdd, wSub, wMul, wDiv, wMod, wNeg, wLt, wLe, wGt, wGe, wIsN, isN_fr, isN_ow, isN_none, isN_int, isN_tup, isN_lst, wTest, wAnd, wOr, wNot, wAndV, wOrV, wNotV, wIf, wChain, wTup, wLst, wFrz, wLen, wMax, wMin, wIx, wIsi, plainD, isTy, wFcall, mapfr_nil, mapfr_cons, dat_fr, dat_ow, X.fr_inj, its_tup, its_lst, its_ow, itl_lst, itl_ow, atI_0, atI_1, atI_2, startR, wName, wNames, setAll, wipeR, and_assoc, wBag, wBag0, wBag1, wsBump, wsApp, wsSetN, wsFrz, wsParN, wsSetI, wsPar3, wRevT, wsParO, wXcall, calm, wNcall] at hp ⊢ <;> simp [isW] at q
  all_goals first | exact q | (split <;> simp_all)
def wf_law_after : WFn := fun ds post => ∃ cs s n i, ds = [tI cs, kD s, .tuple [.str (wordS i), n]] ∧ i ≤ 3 ∧ CardsOk cs ∧ GoodK cs s ∧ plainD n = true ∧ post (dueD (doneK cs s n i))
def ws_law_after : WS := (wsSeq (wsAsg (wVar 2) (wNames [3, 4]))
  (wsSeq (wsAsg (wVar 1) (wNames [5, 6, 7]))
  (wsSeq (wsIf (wTest (wOp (wEq false) (wVar 3) (wC (.str (Str.ofString "ride"))))) (wsSeq (wsSet 8 (wFcall wf_law_step (wCons (wVar 0) (wCons (wVar 5) (wCons (wC (.str (Str.ofString "ride"))) wNil)))))
  (wsRet (wIf (wTest (wOp (wIsN true) (wVar 8) (wC .none))) (wTup (wCons (wVar 8) (wCons (wOp wAdd (wVar 6) (wC (.int 1))) (wCons (wVar 7) wNil)))) (wFrz (wLst (wCons (wC (.str (Str.ofString "NoRide"))) (wCons (wC (.bool true)) wNil))))))) wsNext)
  (wsSeq (wsIf (wTest (wOp (wEq false) (wVar 3) (wC (.str (Str.ofString "give"))))) (wsSeq (wsIf (wNot (wTest (wFcall wf_law_from (wCons (wVar 4) (wCons (wC (.int 0)) (wCons (wOp wSub (wCall wLen (wCons (wVar 0) wNil)) (wC (.int 1))) wNil)))))) (wsRet (wFrz (wLst (wCons (wC (.str (Str.ofString "NoKind"))) (wCons (wC (.bool true)) wNil))))) wsNext)
  (wsSeq (wsSet 8 (wFcall wf_law_step (wCons (wVar 0) (wCons (wVar 5) (wCons (wVar 4) wNil)))))
  (wsRet (wIf (wTest (wOp (wIsN true) (wVar 8) (wC .none))) (wTup (wCons (wVar 8) (wCons (wVar 6) (wCons (wVar 7) wNil)))) (wFrz (wLst (wCons (wC (.str (Str.ofString "TooFew"))) (wCons (wVar 4) (wCons (wC (.bool true)) wNil))))))))) wsNext)
  (wsSeq (wsIf (wNot (wTest (wFcall wf_law_from (wCons (wVar 4) (wCons (wC (.int 1)) (wCons (wOp wPow (wC (.int 10)) (wC (.int 18))) wNil)))))) (wsRet (wFrz (wLst (wCons (wC (.str (Str.ofString "NoNumber"))) (wCons (wC (.bool true)) wNil))))) wsNext)
  (wsSeq (wsIf (wTest (wOp (wEq false) (wVar 3) (wC (.str (Str.ofString "lend"))))) (wsRet (wTup (wCons (wTup (wCons (wOp wAdd (wOp wIx (wVar 5) (wC (.int 0))) (wVar 4)) (wCons (wOp wIx (wVar 5) (wC (.int 1))) wNil))) (wCons (wVar 6) (wCons (wOp wAdd (wVar 7) (wVar 4)) wNil))))) wsNext)
  (wsSeq (wsIf (wTest (wOp wGt (wVar 4) (wVar 7))) (wsRet (wFrz (wLst (wCons (wC (.str (Str.ofString "NoLoan"))) (wCons (wC (.bool true)) wNil))))) wsNext)
  (wsRet (wIf (wTest (wOp wLe (wVar 4) (wOp wIx (wVar 5) (wC (.int 0))))) (wTup (wCons (wTup (wCons (wOp wSub (wOp wIx (wVar 5) (wC (.int 0))) (wVar 4)) (wCons (wOp wIx (wVar 5) (wC (.int 1))) wNil))) (wCons (wVar 6) (wCons (wOp wSub (wVar 7) (wVar 4)) wNil)))) (wFrz (wLst (wCons (wC (.str (Str.ofString "NoRide"))) (wCons (wC (.bool true)) wNil)))))))))))))
theorem len_law_after : ∀ ds post, wf_law_after ds post → ds.length = 3 := by
  rintro ds post ⟨cs, s, n, i, rfl, _⟩
  rfl
theorem hd_law_after : ∀ ds post, wf_law_after ds post → ws_law_after { nx := fun _ => post .none, rt := post } (startR 9 ds) := by
  rintro ds post ⟨cs, s, n, i, rfl, hi, ok, g, hp, q⟩
  refine ⟨_, rfl, _, rfl, _, rfl, rfl, _, rfl, _, rfl, _, rfl, rfl, ?_⟩
  show wsSeq _ _ _ [some (.fr (tI cs)), some (.fr (kD s)), some (.fr (.tuple [.str (wordS i), n])), some (.fr (.str (wordS i))), some (.fr n), some (.fr (pD s.r s.ss)), some (.fr (.int s.rd)), some (.fr (.int s.le)), none]
  obtain ⟨ρ, r0, r3, r4, r5, r6, r7, er⟩ : ∃ ρ : Ρ, ρ[0]? = some (some (.fr (tI cs))) ∧ ρ[3]? = some (some (.fr (.str (wordS i)))) ∧ ρ[4]? = some (some (.fr n)) ∧ ρ[5]? = some (some (.fr (pD s.r s.ss))) ∧ ρ[6]? = some (some (.fr (.int s.rd))) ∧ ρ[7]? = some (some (.fr (.int s.le))) ∧ ρ = [some (.fr (tI cs)), some (.fr (kD s)), some (.fr (.tuple [.str (wordS i), n])), some (.fr (.str (wordS i))), some (.fr n), some (.fr (pD s.r s.ss)), some (.fr (.int s.rd)), some (.fr (.int s.le)), none] := ⟨_, rfl, rfl, rfl, rfl, rfl, rfl, rfl⟩
  rw [← er]
  have key : ∀ (j : Nat) {t u : WS} (W : WEnds), j ≤ 3 → (i = j → t { W with nx := u W } ρ) → (i ≠ j → u W ρ) → wsSeq (wsIf (wTest (wOp (wEq false) (wVar 3) (wC (.str (wordS j))))) t wsNext) u W ρ := fun j t u W hj h1 h2 =>
    w_word r3 (Nat.le_trans hi (by decide)) (Nat.le_trans hj (by decide)) (fun e => iteP rfl (h1 e)) fun e => iteQ Bool.false_ne_true (h2 e)
  refine key 0 _ (by decide) (fun e => ?_) (fun n0 => key 1 _ (by decide) (fun e => ?_) fun n1 => ?_)
  · subst e
    rw [er]
    simp [wsRet, wsRetN, wsSeq, wsNext, wsSet, wsAsg, wsPar, wsIf, wsExpr, wVar, wC, wOp, wUn, wCall, wNil, wCons, wI, wI0, wAdd, wSub, wMul, wDiv, wMod, wNeg, wLt, wLe, wGt, wGe, wIsN, isN_fr, isN_ow, isN_none, isN_int, isN_tup, isN_lst, wTest, wAnd, wOr, wNot, wAndV, wOrV, wNotV, wIf, wChain, wTup, wLst, wFrz, wLen, wMax, wMin, wIx, wIsi, plainD, isTy, wFcall, mapfr_nil, mapfr_cons, dat_fr, dat_ow, X.fr_inj, its_tup, its_lst, its_ow, itl_lst, itl_ow, atI_0, atI_1, atI_2, startR, wName, wNames, setAll, wipeR, and_assoc, wBag, wBag0, wBag1, wsBump, wsApp, wsSetN, wsFrz, wsParN, wsSetI, wsPar3, wRevT, wsParO, wXcall, calm, wNcall]
    refine ⟨cs, s.r, s.ss, none, rfl, ok.2.1, g.len, (fun j e => nomatch e), ?_⟩
    have q : post (dueD (if 0 < s.r then .ok ⟨s.r - 1, s.ss.map (· + 1), s.rd + 1, s.le⟩ else .error ⟨7, none⟩)) := q
    unfold stepF
    by_cases h : 0 < s.r
    · rw [if_pos h] at q ⊢
      exact .inr ⟨rfl, q⟩
    · rw [if_neg h] at q ⊢
      exact .inl ⟨rfl, q⟩
  · subst e
    rw [er]
    simp [wsRet, wsRetN, wsSeq, wsNext, wsSet, wsAsg, wsPar, wsIf, wsExpr, wVar, wC, wOp, wUn, wCall, wNil, wCons, wI, wI0, wAdd, wSub, wMul, wDiv, wMod, wNeg, wLt, wLe, wGt, wGe, wIsN, isN_fr, isN_ow, isN_none, isN_int, isN_tup, isN_lst, wTest, wAnd, wOr, wNot, wAndV, wOrV, wNotV, wIf, wChain, wTup, wLst, wFrz, wLen, wMax, wMin, wIx, wIsi, plainD, isTy, wFcall, mapfr_nil, mapfr_cons, dat_fr, dat_ow, X.fr_inj, its_tup, its_lst, its_ow, itl_lst, itl_ow, atI_0, atI_1, atI_2, startR, wName, wNames, setAll, wipeR, and_assoc, wBag, wBag0, wBag1, wsBump, wsApp, wsSetN, wsFrz, wsParN, wsSetI, wsPar3, wRevT, wsParO, wXcall, calm, wNcall]
    refine ⟨n, _, _, rfl, hp, ?_⟩
    have q : post (dueD (if isW 0 ((cs.length : Int) - 1) n = true then _ else _)) := q
    cases hw : isW 0 ((cs.length : Int) - 1) n with
    | false =>
      rw [hw, if_neg Bool.false_ne_true] at q
      exact .inl ⟨rfl, q⟩
    | true =>
      rw [hw, if_pos rfl] at q
      obtain ⟨j, rfl, j0, j1⟩ := isW_of hw
      obtain ⟨j, rfl⟩ := Int.eq_ofNat_of_zero_le j0
      have hj : j < cs.length := by omega
      refine .inr ⟨rfl, cs, s.r, s.ss, some j, rfl, ok.2.1, g.len, (fun i e => by cases e; exact hj), ?_⟩
      have q : post (dueD (if s.ss.getD j 0 < cs.getD j 0 then .error ⟨11, some (.int j)⟩ else .ok ⟨s.r + 1, s.ss.set j (s.ss.getD j 0 - cs.getD j 0), s.rd, s.le⟩)) := q
      show dIsN (stepD (if s.ss.getD j 0 < cs.getD j 0 then none else some (s.r + 1, s.ss.set j (s.ss.getD j 0 - cs.getD j 0)))) = true ∧ _ ∨ _
      by_cases h : s.ss.getD j 0 < cs.getD j 0
      · rw [if_pos h] at q ⊢
        exact .inl ⟨rfl, q⟩
      · have e : ∀ x : D, stepD (if s.ss.getD j 0 < cs.getD j 0 then none else some (s.r + 1, s.ss.set j (s.ss.getD j 0 - cs.getD j 0))) = pD (s.r + 1) (s.ss.set j (s.ss.getD j 0 - cs.getD j 0)) := fun _ => by rw [if_neg h]; rfl
        rw [if_neg h] at q
        refine .inr ?_
        show dIsN (stepD (if s.ss.getD j 0 < cs.getD j 0 then none else some (s.r + 1, s.ss.set j (s.ss.getD j 0 - cs.getD j 0)))) = false ∧ post (.tuple [stepD (if s.ss.getD j 0 < cs.getD j 0 then none else some (s.r + 1, s.ss.set j (s.ss.getD j 0 - cs.getD j 0))), _, _])
        rw [e .none]
        exact ⟨rfl, q⟩
  · rw [er]
    simp [wsRet, wsRetN, wsSeq, wsNext, wsSet, wsAsg, wsPar, wsIf, wsExpr, wVar, wC, wOp, wUn, wCall, wNil, wCons, wI, wI0, wAdd, wSub, wMul, wDiv, wMod, wNeg, wLt, wLe, wGt, wGe, wIsN, isN_fr, isN_ow, isN_none, isN_int, isN_tup, isN_lst, wTest, wAnd, wOr, wNot, wAndV, wOrV, wNotV, wIf, wChain, wTup, wLst, wFrz, wLen, wMax, wMin, wIx, wIsi, plainD, isTy, wFcall, mapfr_nil, mapfr_cons, dat_fr, dat_ow, X.fr_inj, its_tup, its_lst, its_ow, itl_lst, itl_ow, atI_0, atI_1, atI_2, startR, wName, wNames, setAll, wipeR, and_assoc, wBag, wBag0, wBag1, wsBump, wsApp, wsSetN, wsFrz, wsParN, wsSetI, wsPar3, wRevT, wsParO, wXcall, calm, wNcall]
    refine ⟨by unfold CPow; decide, n, _, _, rfl, hp, ?_⟩
    cases hw : isW 1 1000000000000000000 n with
    | false =>
      refine .inl ⟨rfl, ?_⟩
      have e : doneK cs s n i = .error ⟨4, none⟩ := by
        have hw2 := hw
        rw [← isW_18] at hw2
        match i, n0, n1 with
        | 2, _, _ => show (if isW 1 (10 ^ 18) n = true then _ else _) = _; rw [hw2]; rfl
        | i + 3, _, _ => show (if isW 1 (10 ^ 18) n = true then _ else _) = _; rw [hw2]; rfl
      rw [e] at q
      exact q
    | true =>
      obtain ⟨j, rfl, j0, j1⟩ := isW_of hw
      have hw2 := hw
      rw [← isW_18] at hw2
      refine .inr ⟨rfl, word_eq (j := 2) (by omega) (by decide) (fun e => .inr ⟨rfl, j, rfl, j, rfl, ?_⟩) fun e => .inl ⟨rfl, j, rfl, ?_⟩⟩
      · subst e
        have q : post (dueD (if isW 1 (10 ^ 18) (.int j) = true then _ else _)) := q
        rw [hw2, if_pos rfl] at q
        exact q
      · have e3 : i = 3 := by omega
        subst e3
        have q : post (dueD (if isW 1 (10 ^ 18) (.int j) = true then if s.le < j then _ else if s.r < j then _ else _ else _)) := q
        rw [hw2, if_pos rfl] at q
        by_cases h1 : s.le < j
        · rw [if_pos h1] at q ⊢
          exact q
        · rw [if_neg h1] at q ⊢
          refine ⟨j, rfl, ?_⟩
          by_cases h2 : s.r < j
          · rw [if_pos h2] at q
            rw [if_neg (by omega)]
            exact q
          · rw [if_neg h2] at q
            rw [if_pos (by omega)]
            exact ⟨j, rfl, j, rfl, q⟩
/-! ### how many rides one would still have -/
def wf_law_rest : WFn := fun ds post => ∃ cs r ss, ds = [tI cs, pD r ss] ∧ CardsOk cs ∧ 0 ≤ r ∧ ss.length = cs.length ∧ (∀ s ∈ ss, 0 ≤ s) ∧ ∀ o, IsAll cs ss r o → post (oD o)
def ws_law_rest : WS := (wsSeq (wsPar 2 3 (wCons (wC (.int 0)) (wCons (wFcall wf_law_paid (wCons (wVar 0) (wCons (wVar 1) (wCons (wC (.int 0)) wNil)))) wNil)))
  (wsSeq (wsWhile (wTest (wOp wGt (wVar 3) (wVar 2))) (wsSeq (wsIf (wAnd (wNot (wTest (wFcall wf_law_wears (wCons (wVar 0) wNil)))) (wTest (wOp wGe (wVar 3) (wFcall wf_law_whole (wCons (wVar 0) wNil))))) (wsRet (wC .none)) wsNext)
  (wsPar 2 3 (wCons (wVar 3) (wCons (wFcall wf_law_paid (wCons (wVar 0) (wCons (wVar 1) (wCons (wVar 3) wNil)))) wNil)))))
  (wsRet (wVar 2))))
theorem len_law_rest : ∀ ds post, wf_law_rest ds post → ds.length = 2 := by
  rintro ds post ⟨cs, r, ss, rfl, _⟩
  rfl
theorem hd_law_rest : ∀ ds post, wf_law_rest ds post → ws_law_rest { nx := fun _ => post .none, rt := post } (startR 4 ds) := by
  rintro ds post ⟨cs, r, ss, rfl, hc, hr, hl, hs, q⟩
  simp [ws_law_rest, wsRet, wsRetN, wsSeq, wsNext, wsSet, wsAsg, wsPar, wsIf, wsExpr, wVar, wC, wOp, wUn, wCall, wNil, wCons, wI, wI0, wAdd, wSub, wMul, wDiv, wMod, wNeg, wLt, wLe, wGt, wGe, wIsN, isN_fr, isN_ow, isN_none, isN_int, isN_tup, isN_lst, wTest, wAnd, wOr, wNot, wAndV, wOrV, wNotV, wIf, wChain, wTup, wLst, wFrz, wLen, wMax, wMin, wIx, wIsi, plainD, isTy, wFcall, mapfr_nil, mapfr_cons, dat_fr, dat_ow, X.fr_inj, its_tup, its_lst, its_ow, itl_lst, itl_ow, atI_0, atI_1, atI_2, startR, wName, wNames, setAll, wipeR, and_assoc, wBag, wBag0, wBag1, wsBump, wsApp, wsSetN, wsFrz, wsParN, wsSetI, wsPar3, wRevT, wsParO, wXcall, calm, wNcall]
  refine ⟨cs, r, ss, 0, rfl, hc, ?_⟩
  have mono : ∀ {a b : Int}, a ≤ b → paidF cs ss r a ≤ paidF cs ss r b := fun h => paid_mono hc.pos h
  have p0 := paid_nonneg hc.pos (r := r) hs (Int.le_refl 0)
  obtain ⟨N, hN⟩ : ∃ N : Int, ∀ x, 0 ≤ x → (∀ n, 0 ≤ n → paidF cs ss r n ≤ n → x ≤ n) → ¬ (¬ wears cs ∧ (per cs : Int) ≤ paidF cs ss r x) → paidF cs ss r x ≤ N := by
    by_cases hw : wears cs
    · obtain ⟨n0, h0, h1⟩ := ends_of_wears (r := r) hc.pos hl (by omega) hw
      exact ⟨n0, fun x _ hx _ => by
        have := mono (hx n0 h0 h1)
        omega⟩
    · exact ⟨per cs, fun x _ _ h => by
        have : ¬ (per cs : Int) ≤ paidF cs ss r x := fun z => h ⟨hw, z⟩
        omega⟩
  refine w_while (fun m ρ => ∃ x : Int, ρ = [some (.fr (tI cs)), some (.fr (pD r ss)), some (.fr (.int x)), some (.fr (.int (paidF cs ss r x)))] ∧ 0 ≤ x ∧ x ≤ paidF cs ss r x ∧ (∀ n, 0 ≤ n → paidF cs ss r n ≤ n → x ≤ n) ∧ m = (N - x).toNat) (N - 0).toNat ⟨0, rfl, by omega, by omega, fun n h _ => h, rfl⟩ ?_
  rintro m ρ ⟨x, rfl, hx, hp, hl2, hm⟩
  simp [wsRet, wsRetN, wsSeq, wsNext, wsSet, wsAsg, wsPar, wsIf, wsExpr, wVar, wC, wOp, wUn, wCall, wNil, wCons, wI, wI0, wAdd, wSub, wMul, wDiv, wMod, wNeg, wLt, wLe, wGt, wGe, wIsN, isN_fr, isN_ow, isN_none, isN_int, isN_tup, isN_lst, wTest, wAnd, wOr, wNot, wAndV, wOrV, wNotV, wIf, wChain, wTup, wLst, wFrz, wLen, wMax, wMin, wIx, wIsi, plainD, isTy, wFcall, mapfr_nil, mapfr_cons, dat_fr, dat_ow, X.fr_inj, its_tup, its_lst, its_ow, itl_lst, itl_ow, atI_0, atI_1, atI_2, startR, wName, wNames, setAll, wipeR, and_assoc, wBag, wBag0, wBag1, wsBump, wsApp, wsSetN, wsFrz, wsParN, wsSetI, wsPar3, wRevT, wsParO, wXcall, calm, wNcall]
  by_cases hlt : x < paidF cs ss r x
  · rw [if_pos hlt]
    have go : ¬ (¬ wears cs ∧ (per cs : Int) ≤ paidF cs ss r x) → ∀ {p : D → Prop}, p (.int (paidF cs ss r (paidF cs ss r x))) → (∀ {q : Prop}, (((N - paidF cs ss r x).toNat < m ∧ paidF cs ss r x ≤ paidF cs ss r (paidF cs ss r x) ∧ ∀ n, 0 ≤ n → paidF cs ss r n ≤ n → paidF cs ss r x ≤ n) → q) → q) := fun h p _ q k => by
      have h1 := hN x hx hl2 h
      exact k ⟨by omega, mono hp, fun n a b => by have := mono (hl2 n a b); omega⟩
    refine ⟨cs, rfl, hc, ?_⟩
    by_cases hw : wears cs
    · refine .inr ⟨by rw [decide_eq_true hw], cs, r, ss, _, rfl, hc, ?_⟩
      obtain ⟨h1, h2, h3⟩ := go (fun z => z.1 hw) (p := fun _ => True) trivial id
      exact ⟨_, h1, rfl, by omega, h2, h3, rfl⟩
    · refine .inl ⟨by rw [decide_eq_false hw], cs, rfl, hc, _, rfl, ?_⟩
      by_cases hb : (per cs : Int) ≤ paidF cs ss r x
      · rw [if_pos hb]
        refine q none (first_per hc.pos hl hw fun n a b => Classical.byContradiction fun z => ?_)
        have := mono (hl2 n a (by omega))
        omega
      · rw [if_neg hb]
        refine ⟨cs, r, ss, _, rfl, hc, ?_⟩
        obtain ⟨h1, h2, h3⟩ := go (fun z => hb z.2) (p := fun _ => True) trivial id
        exact ⟨_, h1, rfl, by omega, h2, h3, rfl⟩
  · rw [if_neg hlt]
    exact q (some x) ⟨hx, by omega, hl2⟩
end DL

/-! Law k12 on data. -/
namespace DL
open PySem PySem.Spec PyProof.Rows L2 FR
def wi_Kept_init : WFI2 := wiK fun ds post _ => wf_need_purse ds post
def wc_law : WFc2 := fun ds S post => ∃ ns : List Int, ds = [scrD ns] ∧ ∀ S', post S' (.bool true)
def ws_law : WS2 := (wsSeq2 (wsFor2 (lI (wiLst (wFcall wf_law_bags (wCons (wVar 0) (wCons (wC (.int 6)) wNil))))) (wName 1) (wsSeq2 (lS (wsSet 2 (wFcall wf_law_kinds (wCons (wVar 1) (wCons (wOp wIx (wFrz (wLst (wCons (wC (.int 4)) (wCons (wC (.int 20)) wNil)))) (wFcall wf_law_take (wCons (wVar 1) (wCons (wC (.int 2)) wNil)))) wNil)))))
  (wsSeq2 (lS (wsSet 3 (wFcall wf_law_had (wCons (wVar 1) (wCons (wVar 2) (wCons (wC (.int 20)) wNil))))))
  (wsSeq2 (wsPar32 4 5 6 (wCons2 (wMake2 wi_Kept_init (fun _ _ => False) (lA (wCons (wVar 2) (wCons (wVar 3) wNil)))) (wCons2 (wMake2 wi_Kept_init (fun _ _ => False) (lA (wCons (wVar 2) (wCons (wVar 3) wNil)))) (wCons2 (lE (wFrz (wLst (wCons (wTup (wCons (wVar 3) (wCons (wC (.int 0)) (wCons (wC (.int 0)) wNil)))) wNil)))) wNil2))))
  (wsSeq2 (wsFor2 (lI (wiR1 (wCons (wFcall wf_law_take (wCons (wVar 1) (wCons (wC (.int 41)) wNil))) wNil))) (wName 7) (wsSeq2 (lS (wsSet 8 (wOp wIx (wFrz (wLst (wCons (wC (.str (Str.ofString "ride"))) (wCons (wC (.str (Str.ofString "ride"))) (wCons (wC (.str (Str.ofString "ride"))) (wCons (wC (.str (Str.ofString "give"))) (wCons (wC (.str (Str.ofString "give"))) (wCons (wC (.str (Str.ofString "lend"))) (wCons (wC (.str (Str.ofString "pay"))) (wCons (wC (.str (Str.ofString "back"))) wNil)))))))))) (wFcall wf_law_take (wCons (wVar 1) (wCons (wC (.int 8)) wNil))))))
  (wsSeq2 (lS (wsSet 9 (wFrz (wLst (wCons (wFcall wf_law_take (wCons (wVar 1) (wCons (wC (.int 3)) wNil))) (wCons (wFcall wf_law_take (wCons (wVar 1) (wCons (wC (.int 3)) wNil))) (wCons (wFcall wf_law_take (wCons (wVar 1) (wCons (wC (.int 6)) wNil))) (wCons (wC (.int 1)) (wCons (wC .none) (wCons (wC (.bool true)) (wCons (wUn wNeg (wC (.int 1))) (wCons (wCall wLen (wCons (wVar 2) wNil)) wNil))))))))))))
  (wsSeq2 (lS (wsSet 10 (wOp wIx (wVar 9) (wFcall wf_law_take (wCons (wVar 1) (wCons (wC (.int 8)) wNil))))))
  (wsSeq2 (lS (wsPar 11 12 (wCons (wTup (wCons (wVar 8) (wCons (wVar 10) wNil))) (wCons (wFrz (wLst (wCons (wC (.str (Str.ofString "NothingLeft"))) (wCons (wC (.bool true)) wNil)))) wNil))))
  (wsSeq2 (lS (wsIf (wTest (wOp (wEq true) (wVar 8) (wC (.str (Str.ofString "back"))))) (wsSet 12 (wFcall wf_law_after (wCons (wVar 2) (wCons (wOp wIx (wVar 6) (wUn wNeg (wC (.int 1)))) (wCons (wVar 11) wNil))))) (wsIf (wTest (wOp wGt (wCall wLen (wCons (wVar 6) wNil)) (wC (.int 1)))) (wsSet 12 (wOp wIx (wVar 6) (wUn wNeg (wC (.int 2))))) wsNext)))
  (wsSeq2 (wsSet2 13 (wCal2 wc_law_refused (lA (wCons (wC (fxD fx_lam_law_0)) (wCons (wVar 4) (wCons (wVar 11) (wCons (wC (.int 0)) wNil)))))))
  (wsSeq2 (lS (wsIf (wTest (wOp (wEq true) (wVar 13) (wIf (wTest (wIsi "list" (wVar 12))) (wVar 12) (wFrz (wLst wNil))))) (wsRet (wC (.bool false))) wsNext))
  (wsSeq2 (wsIf2 (lT (wTest (wOp (wEq false) (wVar 13) (wFrz (wLst wNil))))) (wsSeq2 (lS (wsSet 6 (wIf (wTest (wOp (wEq false) (wVar 8) (wC (.str (Str.ofString "back"))))) (wFrz (wSlL (wVar 6) wNoPart (wPart (wUn wNeg (wC (.int 1)))))) (wFrz (wOpN wCat (wVar 6) (wFrz (wLst (wCons (wVar 12) wNil))))))))
  (wsExpr2 (wXcal2 wx_law_do (fun _ _ => False) (lA (wCons (wVar 5) (wCons (wVar 11) wNil)))))) wsNext2)
  (wsSeq2 (wsIf2 (wOr2 (wTest2 (wOp2 (wEq true) (wTup2 (wCons2 (wMeth2 wm_Kept_purse (fun _ _ => False) (lE (wVar 4)) wNil2) (wCons2 (wMeth2 wm_Kept_ridden (fun _ _ => False) (lE (wVar 4)) wNil2) (wCons2 (wMeth2 wm_Kept_lent (fun _ _ => False) (lE (wVar 4)) wNil2) wNil2)))) (lE (wOp wIx (wVar 6) (wUn wNeg (wC (.int 1))))))) (wTest2 (wOp2 (wEq true) (wLenK2 wm_Kept_len (fun _ _ => False) (lE (wVar 4))) (lE (wCall wLen (wCons (wVar 2) wNil)))))) (lS (wsRet (wC (.bool false)))) wsNext2)
  (wsIf2 (wOr2 (wTest2 (wOp2 (wEq true) (wMeth2 wm_Kept_still (fun _ _ => False) (lE (wVar 4)) wNil2) (lE (wFcall wf_law_rest (wCons (wVar 2) (wCons (wOp wIx (wOp wIx (wVar 6) (wUn wNeg (wC (.int 1)))) (wC (.int 0))) wNil)))))) (wOr2 (wNot2 (wTest2 (wEqK2 wm_Kept_eq (fun _ _ => False) (lE (wVar 4)) (lE (wVar 5))))) (wTest2 (wEqK2 wm_Kept_eq (fun _ _ => False) (lE (wVar 4)) (lE (wVar 3)))))) (lS (wsRet (wC (.bool false)))) wsNext2)))))))))))
  (wsSeq2 (wsFor2 (lI (wiR1 (wCons (wOp wSub (wCall wLen (wCons (wVar 6) wNil)) (wC (.int 1))) wNil))) (wName 7) (wsExpr2 (wMeth2 wm_Kept_back (fun _ _ => False) (lE (wVar 4)) wNil2)))
  (wsSeq2 (wsIf2 (wOr2 (wNot2 (wTest2 (wEqK2 wm_Kept_eq (fun _ _ => False) (lE (wVar 4)) (wMake2 wi_Kept_init (fun _ _ => False) (lA (wCons (wVar 2) (wCons (wVar 3) wNil))))))) (wTest2 (wOp2 (wEq true) (wEqK2 wm_Kept_eq (fun _ _ => False) (lE (wVar 4)) (lE (wVar 5))) (lE (wOp (wEq false) (wOp wIx (wVar 6) (wC (.int 0))) (wOp wIx (wVar 6) (wUn wNeg (wC (.int 1))))))))) (lS (wsRet (wC (.bool false)))) wsNext2)
  (wsIf2 (wTest2 (wOp2 (wEq true) (wCal2 wc_law_refused (lA (wCons (wC (fxD fx_lam_law_1)) (wCons (wVar 4) (wCons (wC (.int 0)) (wCons (wC (.int 0)) wNil)))))) (lE (wFrz (wLst (wCons (wC (.str (Str.ofString "NothingLeft"))) (wCons (wC (.bool true)) wNil))))))) (lS (wsRet (wC (.bool false)))) wsNext2))))))))
  (lS (wsRet (wC (.bool true)))))
theorem len2_law : ∀ ds S post, wc_law ds S post → ds.length = 1 := by
  rintro ds S post ⟨ns, rfl, _⟩
  rfl
theorem law_from : ∀ ds post, wf_law ds post → wc_law ds (fun _ => none) fun _ d => post d := by
  rintro ds post ⟨ns, rfl, q⟩
  exact ⟨ns, rfl, fun _ => q⟩
/-! ### words for loops -/
theorem w_seq2 {a b : WS2} {W : WEnds2} {S : OS} {ρ : Ρ} (M : OS → Ρ → Prop) (h1 : ∀ nx : OS → Ρ → Prop, (∀ S' ρ', M S' ρ' → nx S' ρ') → a { W with nx := nx } S ρ) (h2 : ∀ S' ρ', M S' ρ' → b W S' ρ') : wsSeq2 a b W S ρ := h1 (b W) h2
/-- what has nothing to do with objects -/
theorem w_seqL {a : WS} {b : WS2} {W : WEnds2} {S : OS} {ρ : Ρ} (M : Ρ → Prop) (h1 : ∀ nx : Ρ → Prop, (∀ ρ', M ρ' → nx ρ') → a { W.at_ S with nx := nx } ρ) (h2 : ∀ ρ', M ρ' → b W S ρ') : wsSeq2 (lS a) b W S ρ := h1 _ h2
theorem w_ifLT {wt : WT} {a b : WS2} {W : WEnds2} {S : OS} {ρ : Ρ} (ht : ∀ q : Bool → Prop, q true → wt ρ q) (h : a W S ρ) : wsIf2 (lT wt) a b W S ρ := ht (fun c => if c = true then a W S ρ else b W S ρ) (iteP rfl h)
theorem w_ifLF {wt : WT} {a b : WS2} {W : WEnds2} {S : OS} {ρ : Ρ} (ht : ∀ q : Bool → Prop, q false → wt ρ q) (h : b W S ρ) : wsIf2 (lT wt) a b W S ρ := ht (fun c => if c = true then a W S ρ else b W S ρ) (iteQ (fun z => nomatch z) h)
theorem w_forR2 {wi : WI} {wg : WG} {wb : WS2} {W : WEnds2} {S : OS} {ρ : Ρ} (lo : Int) (n : Nat) (hi : ∀ q : List D → Prop, q (rgD lo n) → wi ρ q) (Inv : Nat → OS → Ρ → Prop) (h0 : Inv 0 S ρ)
    (step : ∀ i S' ρ', i < n → Inv i S' ρ' → wg (.int (lo + (i : Int))) ρ' fun ρ2 => wb { W with nx := Inv (i + 1), ct := Inv (i + 1), bk := W.nx } S' ρ2) (fin : ∀ S' ρ', Inv n S' ρ' → W.nx S' ρ') : wsFor2 (lI wi) wg wb W S ρ := by
  refine hi _ ⟨Inv, h0, fun i d S' ρ' hd hv => ?_, fun S' ρ' h => fin S' ρ' (by rw [rgD_len] at h; exact h)⟩
  have hl : i < n := by
    have := (List.getElem?_eq_some_iff.mp hd).1
    rw [rgD_len] at this
    exact this
  rw [rgD_get hl] at hd
  cases hd
  exact step i S' ρ' hl hv
theorem top2 {lim : Int} {wb : WS2} {W : WEnds2} {ns : List Int} {n : Nat} (h1 : 1 ≤ lim) (h2 : lim ≤ 20)
    (body : ∀ (S : OS) (z : List Sl) (nx : OS → Ρ → Prop), z.length = n → (∀ (S' : OS) (z' : List Sl), z'.length = n + 1 → nx S' (some (.fr (scrD ns)) :: z')) → wb { W with nx := nx, ct := nx, bk := W.nx } S (some (.fr (scrD ns)) :: some (.fr bagD) :: z))
    (fin : ∀ (S : OS) (z : List Sl), z.length = n + 1 → W.nx S (some (.fr (scrD ns)) :: z)) : ∀ (S : OS) (z : List Sl), z.length = n + 1 → wsFor2 (lI (wiLst (wFcall wf_law_bags (wCons (wVar 0) (wCons (wC (.int lim)) wNil))))) (wName 1) wb W S (some (.fr (scrD ns)) :: z) := fun S z hz => by
  have bags : ∀ qq : List D → Prop, (∀ n : Nat, qq (List.replicate n bagD)) → wiLst (wFcall wf_law_bags (wCons (wVar 0) (wCons (wC (.int lim)) wNil))) (some (.fr (scrD ns)) :: z) qq := fun qq h => by
    simp [wiLst, wsRet, wsRetN, wsSeq, wsNext, wsSet, wsAsg, wsPar, wsIf, wsExpr, wVar, wC, wOp, wUn, wCall, wNil, wCons, wI, wI0, wAdd, wSub, wMul, wDiv, wMod, wNeg, wLt, wLe, wGt, wGe, wIsN, isN_fr, isN_ow, isN_none, isN_int, isN_tup, isN_lst, wTest, wAnd, wOr, wNot, wAndV, wOrV, wNotV, wIf, wChain, wTup, wLst, wFrz, wLen, wMax, wMin, wIx, wIsi, plainD, isTy, wFcall, mapfr_nil, mapfr_cons, dat_fr, dat_ow, X.fr_inj, its_tup, its_lst, its_ow, itl_lst, itl_ow, atI_0, atI_1, atI_2, startR, wName, wNames, setAll, wipeR, and_assoc, wBag, wBag0, wBag1, wsBump, wsApp, wsSetN, wsFrz, wsParN, wsSetI, wsPar3, wRevT]
    exact bags_mk h1 h2 fun n => ⟨_, rfl, h n⟩
  refine bags _ fun k => ⟨fun _ S' ρ => ∃ z : List Sl, z.length = n + 1 ∧ ρ = some (.fr (scrD ns)) :: z, ⟨z, hz, rfl⟩, fun i d S' ρ hd => ?_, ?_⟩
  · obtain rfl : d = bagD := List.eq_of_mem_replicate (List.mem_of_getElem? hd)
    rintro ⟨z, hz, rfl⟩
    match z, hz with
    | a :: z, hz => exact body S' z _ (by simpa using hz) fun S'' z' h => ⟨z', h, rfl⟩
  · rintro S' ρ ⟨z, hz, rfl⟩
    exact fin S' z hz
/-- a kept purse is made -/
theorem make_mk {cs ss : List Int} {r : Int} {xp : XV → Prop} {post : D → List D → Prop} (ok : CardsOk cs) (hp : PurseOk cs r ss) (h : post (tI cs) [.tuple [pD r ss, .int 0, .int 0]]) : wi_Kept_init [tI cs, pD r ss] post xp := ⟨_, _, rfl, cs, r, ss, rfl, ok, hp, h⟩
/-! ### all that was done -/
structure Hs (cs : List Int) (s0 : KS) (ts : List KS) (k : KO) : Prop where
  cs_ : k.cs = tI cs
  past : k.past = (s0 :: ts).map kD
  good : ∀ s ∈ s0 :: ts, GoodK cs s
def lastK (s0 : KS) (ts : List KS) : KS := ts.getLastD s0
section
variable {cs : List Int} {s0 s : KS} {ts : List KS} {k : KO}
theorem lastK_app : lastK s0 (ts ++ [s]) = s := by
  unfold lastK
  rw [List.getLastD_concat]
theorem lastK_in : lastK s0 ts ∈ s0 :: ts := by
  rcases List.eq_nil_or_concat ts with rfl | ⟨l, t, rfl⟩
  · exact List.mem_cons_self
  · rw [List.concat_eq_append, lastK_app]
    simp
theorem at_lastK (s0 : KS) (ts : List KS) : atI ((s0 :: ts).map kD) (-1) = some (kD (lastK s0 ts)) := by
  rcases List.eq_nil_or_concat ts with rfl | ⟨l, t, rfl⟩
  · exact at_last [] (kD s0)
  · rw [List.concat_eq_append, lastK_app]
    have := at_last ((s0 :: l).map kD) (kD t)
    rw [← this, ← List.cons_append, List.map_append]
    rfl
theorem Hs.st (h : Hs cs s0 ts k) : Kst cs (lastK s0 ts) k := ⟨h.cs_, by rw [h.past]; exact at_lastK s0 ts, h.good _ lastK_in⟩
theorem Hs.push (h : Hs cs s0 ts k) (g : GoodK cs s) : Hs cs s0 (ts ++ [s]) { k with past := k.past ++ [kD s] } := by
  refine ⟨h.cs_, ?_, fun x m => ?_⟩
  · show k.past ++ [kD s] = _
    rw [h.past, ← List.cons_append, List.map_append]
    rfl
  · rw [← List.cons_append] at m
    rcases List.mem_append.mp m with m | m
    · exact h.good x m
    · rw [List.mem_singleton] at m
      rw [m]
      exact g
theorem Hs.pop (h : Hs cs s0 (ts ++ [s]) k) : Hs cs s0 ts { k with past := k.past.dropLast } := by
  refine ⟨h.cs_, ?_, fun x m => h.good x (by rw [← List.cons_append]; exact List.mem_append_left _ m)⟩
  show k.past.dropLast = _
  rw [h.past, ← List.cons_append, List.map_append]
  exact List.dropLast_concat
theorem Hs.len (h : Hs cs s0 ts k) : k.past.length = ts.length + 1 := by
  rw [h.past]
  simp
theorem intOf_ge {lo hi : Int} {n : D} (h : isW lo hi n = true) : lo ≤ intOf n ∧ intOf n ≤ hi := by
  obtain ⟨i, rfl, h1, h2⟩ := isW_of h
  exact ⟨h1, h2⟩
theorem doneK_good {n : D} {i : Nat} {s' : KS} (g : GoodK cs s) (e : doneK cs s n i = .ok s') : GoodK cs s' := by
  unfold doneK at e
  split at e
  · split at e
    · cases e
      refine ⟨by rw [List.length_map]; exact g.len, (by show 0 ≤ s.r - 1; omega), fun x m => ?_⟩
      obtain ⟨y, hy, rfl⟩ := List.mem_map.mp m
      have := g.s0 y hy
      omega
    · cases e
  · split at e
    · split at e
      · cases e
      · cases e
        rename_i hf
        have r0 := g.r0
        refine ⟨by rw [List.length_set]; exact g.len, (by show 0 ≤ s.r + 1; omega), fun x m => ?_⟩
        rcases List.mem_or_eq_of_mem_set m with m | rfl
        · exact g.s0 x m
        · omega
    · cases e
  · split at e
    · cases e
      rename_i hw
      have := intOf_ge hw
      have r0 := g.r0
      exact ⟨g.len, (by show 0 ≤ s.r + intOf n; omega), g.s0⟩
    · cases e
  · split at e
    · split at e
      · cases e
      · split at e
        · cases e
        · cases e
          exact ⟨g.len, (by show 0 ≤ s.r - intOf n; omega), g.s0⟩
    · cases e
/-- which errors there are -/
theorem doneK_err {n : D} {i : Nat} {x : XV} (e : doneK cs s n i = .error x) : XOk liveK x ∧ PyData.eqv (.list (kinD x)) (.list (kinD x)) = true ∧ SeqAt.shaped (.list (kinD x)) = true := by
  unfold doneK at e
  split at e
  · split at e
    · cases e
    · cases e
      exact ⟨⟨show 7 ∈ [4, 7, 8, 9, 10, 11] by decide, rfl⟩, by decide +kernel, by decide +kernel⟩
  · split at e
    · split at e
      · cases e
        rename_i hw _
        obtain ⟨j, rfl, _⟩ := isW_of hw
        refine ⟨⟨show 11 ∈ [4, 7, 8, 9, 10, 11] by decide, rfl⟩, ?_, ?_⟩
        · simp [kinD, PyData.eqv, PyData.eqvAll]
        · simp [kinD, SeqAt.shaped, PyData.canLay0, PyData.canLayAll0, PyData.depth, PyData.depthAll]
          decide +kernel
      · cases e
    · cases e
      exact ⟨⟨show 8 ∈ [4, 7, 8, 9, 10, 11] by decide, rfl⟩, by decide +kernel, by decide +kernel⟩
  · split at e
    · cases e
    · cases e
      exact ⟨⟨show 4 ∈ [4, 7, 8, 9, 10, 11] by decide, rfl⟩, by decide +kernel, by decide +kernel⟩
  · split at e
    · split at e
      · cases e
        exact ⟨⟨show 9 ∈ [4, 7, 8, 9, 10, 11] by decide, rfl⟩, by decide +kernel, by decide +kernel⟩
      · split at e
        · cases e
          exact ⟨⟨show 7 ∈ [4, 7, 8, 9, 10, 11] by decide, rfl⟩, by decide +kernel, by decide +kernel⟩
        · cases e
    · cases e
      exact ⟨⟨show 4 ∈ [4, 7, 8, 9, 10, 11] by decide, rfl⟩, by decide +kernel, by decide +kernel⟩
theorem err10 : XOk liveK ⟨10, none⟩ ∧ PyData.eqv (.list (kinD ⟨10, none⟩)) (.list (kinD ⟨10, none⟩)) = true ∧ SeqAt.shaped (.list (kinD ⟨10, none⟩)) = true := ⟨⟨show 10 ∈ [4, 7, 8, 9, 10, 11] by decide, rfl⟩, by decide +kernel, by decide +kernel⟩
variable {S : OS} {a : Addr} {n : D} {i : Nat}
/-- a deed is tried -/
theorem refused_do {post : OS → D → Prop} (hS : S a = some k) (h : Hs cs s0 ts k) (ok : CardsOk cs) (hi : i ≤ 4) (hp : plainD n = true) (hl : ts.length < 90000)
    (h1 : ∀ s', i ≠ 4 → doneK cs (lastK s0 ts) n i = .ok s' → post (S.put a { k with past := k.past ++ [kD s'] }) (.list []))
    (h2 : ∀ x, i ≠ 4 → doneK cs (lastK s0 ts) n i = .error x → post S (.list (kinD x)))
    (h3 : i = 4 → ts = [] → post S (.list (kinD ⟨10, none⟩)))
    (h4 : i = 4 → ts ≠ [] → post (S.put a { k with past := k.past.dropLast }) (.list [])) : wc_law_refused [fxD fx_lam_law_0, hD a, .tuple [.str (wordS i), n], .int 0] S post := by
  have hlen := h.len
  refine ⟨0, _, _, _, by decide, rfl, _, _, _, rfl, a, k, cs, lastK s0 ts, n, i, rfl, hi, hS, h.st, ok.2.1, hp, by omega, by omega, ?_⟩
  unfold doK
  by_cases e : i = 4
  · rw [if_pos e]
    unfold backK
    by_cases et : ts = []
    · rw [if_pos (by rw [hlen, et]; rfl)]
      exact ⟨err10.1, h3 e et⟩
    · rw [if_neg (fun z => et (by rw [hlen] at z; exact List.length_eq_zero_iff.mp (by omega)))]
      exact h4 e et
  · rw [if_neg e]
    cases hd : doneK cs (lastK s0 ts) n i with
    | ok s' => exact h1 s' e hd
    | error x => exact ⟨(doneK_err hd).1, h2 x e hd⟩
end
theorem pickL {l : List D} {P : D → Prop} {i : Int} (h0 : 0 ≤ i) (h1 : i < l.length) (h : ∀ d ∈ l, P d) : ∃ x, atI l i = some x ∧ P x := by
  obtain ⟨j, rfl⟩ := Int.eq_ofNat_of_zero_le h0
  have hj : j < l.length := by omega
  exact ⟨l[j], atI_nat (List.getElem?_eq_getElem hj), h _ (List.getElem_mem hj)⟩
theorem w_forR2n {wi : WI} {wg : WG} {wb : WS2} {W : WEnds2} {S : OS} {ρ : Ρ} (lo : Int) (N : Nat → Prop) (hi : ∀ q : List D → Prop, (∀ n, N n → q (rgD lo n)) → wi ρ q) (Inv : Nat → OS → Ρ → Prop) (h0 : Inv 0 S ρ)
    (step : ∀ n i S' ρ', N n → i < n → Inv i S' ρ' → wg (.int (lo + (i : Int))) ρ' fun ρ2 => wb { W with nx := Inv (i + 1), ct := Inv (i + 1), bk := W.nx } S' ρ2) (fin : ∀ n S' ρ', N n → Inv n S' ρ' → W.nx S' ρ') : wsFor2 (lI wi) wg wb W S ρ := by
  refine hi _ fun n hn => ⟨Inv, h0, fun i d S' ρ' hd hv => ?_, fun S' ρ' h => fin n S' ρ' hn (by rw [rgD_len] at h; exact h)⟩
  have hl : i < n := by
    have := (List.getElem?_eq_some_iff.mp hd).1
    rw [rgD_len] at this
    exact this
  rw [rgD_get hl] at hd
  cases hd
  exact step n i S' ρ' hn hl hv
/-- what comes of a deed that is tried, and what is due -/
inductive OutK (cs : List Int) (s0 : KS) (ts : List KS) (n : D) (w : Nat) (ts' : List KS) (kin due : D) : Prop
  | err (x : XV) (e1 : kin = .list (kinD x)) (e2 : due = .list (kinD x)) (e3 : ts' = ts) (e4 : PyData.eqv (.list (kinD x)) (.list (kinD x)) = true) (e5 : SeqAt.shaped (.list (kinD x)) = true) (e6 : ∃ d ds, kinD x = d :: ds)
  | on (s' : KS) (e1 : kin = .list []) (e2 : due = kD s') (e3 : w ≠ 4) (e4 : ts' = ts ++ [s']) (e5 : doneK cs (lastK s0 ts) n w = .ok s')
  | back (s' t : KS) (e1 : kin = .list []) (e2 : due = kD s') (e3 : w = 4) (e4 : ts = ts' ++ [t])
theorem at_prev (s0 : KS) {ts : List KS} (h : ts ≠ []) : ∃ s, atI ((s0 :: ts).map kD) (-2) = some (kD s) := by
  rcases List.eq_nil_or_concat ts with rfl | ⟨l, t, rfl⟩
  · exact absurd rfl h
  · refine ⟨lastK s0 l, ?_⟩
    rw [← at_lastK s0 l, List.concat_eq_append, ← List.cons_append, List.map_append]
    have hl : 0 < ((s0 :: l).map kD).length := by simp
    generalize (s0 :: l).map kD = L at hl
    unfold atI ixN
    rw [if_neg (show ¬ (0 : Int) ≤ -2 by decide), if_neg (show ¬ (0 : Int) ≤ -1 by decide), List.length_append, List.length_map, List.length_singleton, if_pos (by omega), if_pos (by omega)]
    rw [show (-2 + ((L.length + 1 : Nat) : Int)).toNat = (-1 + (L.length : Int)).toNat by omega]
    show (L ++ _)[(-1 + (L.length : Int)).toNat]? = L[(-1 + (L.length : Int)).toNat]?
    rw [List.getElem?_append_left (by omega)]
theorem cut_last (xs : List D) (d : D) : cutD (xs ++ [d]) none (some (-1)) = xs := by
  unfold cutD
  rw [HT.sIx_none, List.drop_zero, Nat.sub_zero]
  have e : HT.sIx (xs ++ [d]).length (xs ++ [d]).length (some (-1)) = xs.length := by
    show (if (-1 : Int) < 0 then ((-1 : Int) + ((xs ++ [d]).length : Int)).toNat else min (-1 : Int).toNat (xs ++ [d]).length) = _
    rw [if_pos (by decide), List.length_append, List.length_singleton]
    omega
  rw [e, List.take_left]
theorem kin_ne (x : XV) : ∃ d ds, kinD x = d :: ds := by
  unfold kinD
  cases x.f <;> exact ⟨_, _, rfl⟩
abbrev st7 (ns cs : List Int) (r : Int) (ss : List Int) (a b : Addr) (L : List KS) (zs : List Sl) : Ρ := some (.fr (scrD ns)) :: some (.fr bagD) :: some (.fr (tI cs)) :: some (.fr (pD r ss)) :: some (.fr (hD a)) :: some (.fr (hD b)) :: some (.fr (.list (L.map kD))) :: zs
def LpK (ns cs : List Int) (r : Int) (ss : List Int) (a b : Addr) (i : Nat) (S : OS) (ρ : Ρ) : Prop := ∃ (ts : List KS) (k l : KO) (z7 z8 z9 z10 z11 z12 z13 : Sl), ts.length ≤ i ∧ S a = some k ∧ S b = some l ∧ Hs cs ⟨r, ss, 0, 0⟩ ts k ∧ Hs cs ⟨r, ss, 0, 0⟩ ts l ∧ ρ = st7 ns cs r ss a b (⟨r, ss, 0, 0⟩ :: ts) [z7, z8, z9, z10, z11, z12, z13]
theorem hd_law : ∀ ds S post, wc_law ds S post → ws_law { nx := fun S _ => post S .none, rt := post } S (startR 14 ds) := by
  rintro ds S post ⟨ns, rfl, q⟩
  unfold ws_law
  refine w_seq2 (fun S ρ => True) (fun nx hnx => top2 (n := 12) (by decide) (by decide) (fun S z nx2 hz h => ?_) (fun S z h => hnx _ _ trivial) S [none, none, none, none, none, none, none, none, none, none, none, none, none] rfl) (fun S ρ _ => q _)
  match z, hz with
  | [z2, z3, z4, z5, z6, z7, z8, z9, z10, z11, z12, z13], _ =>
  refine w_seqL (fun ρ => ∃ cs, CardsOk cs ∧ ρ = [some (.fr (scrD ns)), some (.fr bagD), some (.fr (tI cs)), z3, z4, z5, z6, z7, z8, z9, z10, z11, z12, z13]) (fun nx h => ?_) ?_
  · simp [wsRet, wsRetN, wsSeq, wsNext, wsSet, wsAsg, wsPar, wsIf, wsExpr, wVar, wC, wOp, wUn, wCall, wNil, wCons, wI, wI0, wAdd, wSub, wMul, wDiv, wMod, wNeg, wLt, wLe, wGt, wGe, wIsN, isN_fr, isN_ow, isN_none, isN_int, isN_tup, isN_lst, wTest, wAnd, wOr, wNot, wAndV, wOrV, wNotV, wIf, wChain, wTup, wLst, wFrz, wLen, wMax, wMin, wIx, wIsi, plainD, isTy, wFcall, mapfr_nil, mapfr_cons, dat_fr, dat_ow, X.fr_inj, its_tup, its_lst, its_ow, itl_lst, itl_ow, atI_0, atI_1, atI_2, startR, wName, wNames, setAll, wipeR, and_assoc, wBag, wBag0, wBag1, wsBump, wsApp, wsSetN, wsFrz, wsParN, wsSetI, wsPar3, wRevT, wsParO, wXcall, calm, wNcall]
    refine take_mk (by decide) fun k k0 k1 => ⟨_, k, rfl, rfl, pick2 k0 k1 ?_ ?_⟩
    · exact kinds_mk (by decide) (by decide) fun cs hc => h _ ⟨cs, hc, rfl⟩
    · exact kinds_mk (by decide) (by decide) fun cs hc => h _ ⟨cs, hc, rfl⟩
  rintro ρ ⟨cs, ok, rfl⟩
  refine w_seqL (fun ρ => ∃ r ss, PurseOk cs r ss ∧ ρ = [some (.fr (scrD ns)), some (.fr bagD), some (.fr (tI cs)), some (.fr (pD r ss)), z4, z5, z6, z7, z8, z9, z10, z11, z12, z13]) (fun nx h => ?_) ?_
  · simp [wsRet, wsRetN, wsSeq, wsNext, wsSet, wsAsg, wsPar, wsIf, wsExpr, wVar, wC, wOp, wUn, wCall, wNil, wCons, wI, wI0, wAdd, wSub, wMul, wDiv, wMod, wNeg, wLt, wLe, wGt, wGe, wIsN, isN_fr, isN_ow, isN_none, isN_int, isN_tup, isN_lst, wTest, wAnd, wOr, wNot, wAndV, wOrV, wNotV, wIf, wChain, wTup, wLst, wFrz, wLen, wMax, wMin, wIx, wIsi, plainD, isTy, wFcall, mapfr_nil, mapfr_cons, dat_fr, dat_ow, X.fr_inj, its_tup, its_lst, its_ow, itl_lst, itl_ow, atI_0, atI_1, atI_2, startR, wName, wNames, setAll, wipeR, and_assoc, wBag, wBag0, wBag1, wsBump, wsApp, wsSetN, wsFrz, wsParN, wsSetI, wsPar3, wRevT, wsParO, wXcall, calm, wNcall]
    exact had_mk ok (by decide) (by decide) fun r ss hp h1 h2 => h _ ⟨r, ss, hp, rfl⟩
  rintro ρ ⟨r, ss, hp, rfl⟩
  have hs0 : ∀ s ∈ ss, 0 ≤ s := fun s m => (hp.2.2 s m).1
  have hr0 := hp.1.1
  have hlen := hp.2.1
  have g0 : GoodK cs ⟨r, ss, 0, 0⟩ := ⟨hlen, hr0, hs0⟩
  have h00 : ∀ pl, Hs cs ⟨r, ss, 0, 0⟩ [] ⟨tI cs, [.tuple [pD r ss, .int 0, .int 0]], pl⟩ := fun pl => ⟨rfl, rfl, fun s m => by
    rw [List.mem_singleton] at m
    rw [m]
    exact g0⟩
  refine w_seq2 (fun S ρ => ∃ a b, a ≠ b ∧ LpK ns cs r ss a b 0 S ρ) (fun nx h => ?_) ?_
  · simp [wsRet, wsRetN, wsSeq, wsNext, wsSet, wsAsg, wsPar, wsIf, wsExpr, wVar, wC, wOp, wUn, wCall, wNil, wCons, wI, wI0, wAdd, wSub, wMul, wDiv, wMod, wNeg, wLt, wLe, wGt, wGe, wIsN, isN_fr, isN_ow, isN_none, isN_int, isN_tup, isN_lst, wTest, wAnd, wOr, wNot, wAndV, wOrV, wNotV, wIf, wChain, wTup, wLst, wFrz, wLen, wMax, wMin, wIx, wIsi, plainD, isTy, wFcall, mapfr_nil, mapfr_cons, dat_fr, dat_ow, X.fr_inj, its_tup, its_lst, its_ow, itl_lst, itl_ow, atI_0, atI_1, atI_2, startR, wName, wNames, setAll, wipeR, and_assoc, wBag, wBag0, wBag1, wsBump, wsApp, wsSetN, wsFrz, wsParN, wsSetI, wsPar3, wRevT, lE, lT, lA, lS, lI, WEnds2.at_, wOp2, wTest2, wAnd2, wOr2, wNot2, wNil2, wCons2, wTup2, wFcall2, wCal2, wMeth2, wMake2, wCall2, wsSeq2, wsNext2, wsSet2, wsAsg2, wsRet2, wsExpr2, wsIf2, wCards, wPast, wsPush, wNames, setAll, wsNever, wsRaise2, wsRaiseK2, wLenP, wsPop, wAndV2, wIf2, wsPar32, wLenK2, wEqK2, wIsK, wXcal2]
    refine make_mk ok hp fun a pl ha => make_mk ok hp fun b pl2 hb => ?_
    have ab : a ≠ b := fun z => by
      rw [z, OS.put_same] at hb
      cases hb
    refine h _ _ ⟨a, b, ab, [], _, _, z7, z8, z9, z10, z11, z12, z13, Nat.le_refl 0, ?_, OS.put_same, h00 pl, h00 pl2, rfl⟩
    rw [OS.put_ne ab, OS.put_same]
  rintro S0 ρ0 ⟨a, b, ab, inv0⟩
  refine w_seq2 (fun S ρ => ∃ n, n ≤ 41 ∧ LpK ns cs r ss a b n S ρ) (fun nx hnx => ?_) ?_
  · have inv := inv0
    obtain ⟨_, _, _, _, _, _, _, _, _, _, _, _, _, _, _, rfl⟩ := inv
    refine w_forR2n 0 (fun n => n ≤ 41) (fun q h => ?_) (LpK ns cs r ss a b) inv0 (fun m i S ρ hm hi inv => ?_) (fun n S ρ hn inv => hnx _ _ ⟨n, hn, inv⟩)
    · simp [wiR1, wsRet, wsRetN, wsSeq, wsNext, wsSet, wsAsg, wsPar, wsIf, wsExpr, wVar, wC, wOp, wUn, wCall, wNil, wCons, wI, wI0, wAdd, wSub, wMul, wDiv, wMod, wNeg, wLt, wLe, wGt, wGe, wIsN, isN_fr, isN_ow, isN_none, isN_int, isN_tup, isN_lst, wTest, wAnd, wOr, wNot, wAndV, wOrV, wNotV, wIf, wChain, wTup, wLst, wFrz, wLen, wMax, wMin, wIx, wIsi, plainD, isTy, wFcall, mapfr_nil, mapfr_cons, dat_fr, dat_ow, X.fr_inj, its_tup, its_lst, its_ow, itl_lst, itl_ow, atI_0, atI_1, atI_2, startR, wName, wNames, setAll, wipeR, and_assoc, wBag, wBag0, wBag1, wsBump, wsApp, wsSetN, wsFrz, wsParN, wsSetI, wsPar3, wRevT, wsParO, wXcall, calm, wNcall]
      exact take_mk (by decide) fun k k0 k1 => ⟨k, rfl, by omega, by omega, h _ (by omega)⟩
    obtain ⟨ts, k, l, z7, z8, z9, z10, z11, z12, z13, hl, hSa, hSb, hA, hB, rfl⟩ := inv
    have fin : ∀ (S' : OS) (ts' : List KS) (k l : KO) (z7 z8 z9 z10 z11 z12 z13 : Sl), ts'.length ≤ i + 1 → S' a = some k → S' b = some l → Hs cs ⟨r, ss, 0, 0⟩ ts' k → Hs cs ⟨r, ss, 0, 0⟩ ts' l → LpK ns cs r ss a b (i + 1) S' (st7 ns cs r ss a b (⟨r, ss, 0, 0⟩ :: ts') [z7, z8, z9, z10, z11, z12, z13]) := fun S' ts' k l z7 z8 z9 z10 z11 z12 z13 h1 h2 h3 h4 h5 => ⟨ts', k, l, z7, z8, z9, z10, z11, z12, z13, h1, h2, h3, h4, h5, rfl⟩
    generalize LpK ns cs r ss a b (i + 1) = I at fin ⊢
    show wsSeq2 _ _ _ S (st7 ns cs r ss a b (⟨r, ss, 0, 0⟩ :: ts) [some (.fr (.int (0 + (i : Int)))), z8, z9, z10, z11, z12, z13])
    generalize (some (.fr (.int (0 + (i : Int)))) : Sl) = z7
    refine w_seqL (fun ρ => ∃ w, w ≤ 4 ∧ ρ = st7 ns cs r ss a b (⟨r, ss, 0, 0⟩ :: ts) [z7, some (.fr (.str (wordS w))), z9, z10, z11, z12, z13]) (fun nx h => ?_) ?_
    · simp [wsRet, wsRetN, wsSeq, wsNext, wsSet, wsAsg, wsPar, wsIf, wsExpr, wVar, wC, wOp, wUn, wCall, wNil, wCons, wI, wI0, wAdd, wSub, wMul, wDiv, wMod, wNeg, wLt, wLe, wGt, wGe, wIsN, isN_fr, isN_ow, isN_none, isN_int, isN_tup, isN_lst, wTest, wAnd, wOr, wNot, wAndV, wOrV, wNotV, wIf, wChain, wTup, wLst, wFrz, wLen, wMax, wMin, wIx, wIsi, plainD, isTy, wFcall, mapfr_nil, mapfr_cons, dat_fr, dat_ow, X.fr_inj, its_tup, its_lst, its_ow, itl_lst, itl_ow, atI_0, atI_1, atI_2, startR, wName, wNames, setAll, wipeR, and_assoc, wBag, wBag0, wBag1, wsBump, wsApp, wsSetN, wsFrz, wsParN, wsSetI, wsPar3, wRevT, wsParO, wXcall, calm, wNcall]
      refine take_mk (by decide) fun k k0 k1 => ⟨_, k, rfl, rfl, pickL k0 k1 fun d hd => ?_⟩
      simp only [List.mem_cons, List.not_mem_nil, or_false] at hd
      rcases hd with rfl | rfl | rfl | rfl | rfl | rfl | rfl | rfl
      · exact h _ ⟨0, by decide, rfl⟩
      · exact h _ ⟨0, by decide, rfl⟩
      · exact h _ ⟨0, by decide, rfl⟩
      · exact h _ ⟨1, by decide, rfl⟩
      · exact h _ ⟨1, by decide, rfl⟩
      · exact h _ ⟨2, by decide, rfl⟩
      · exact h _ ⟨3, by decide, rfl⟩
      · exact h _ ⟨4, by decide, rfl⟩
    rintro ρ ⟨w, hw, rfl⟩
    refine w_seqL (fun ρ => ∃ L : List D, L.length = 8 ∧ (∀ d ∈ L, plainD d = true) ∧ ρ = st7 ns cs r ss a b (⟨r, ss, 0, 0⟩ :: ts) [z7, some (.fr (.str (wordS w))), some (.fr (.list L)), z10, z11, z12, z13]) (fun nx h => ?_) ?_
    · simp [wsRet, wsRetN, wsSeq, wsNext, wsSet, wsAsg, wsPar, wsIf, wsExpr, wVar, wC, wOp, wUn, wCall, wNil, wCons, wI, wI0, wAdd, wSub, wMul, wDiv, wMod, wNeg, wLt, wLe, wGt, wGe, wIsN, isN_fr, isN_ow, isN_none, isN_int, isN_tup, isN_lst, wTest, wAnd, wOr, wNot, wAndV, wOrV, wNotV, wIf, wChain, wTup, wLst, wFrz, wLen, wMax, wMin, wIx, wIsi, plainD, isTy, wFcall, mapfr_nil, mapfr_cons, dat_fr, dat_ow, X.fr_inj, its_tup, its_lst, its_ow, itl_lst, itl_ow, atI_0, atI_1, atI_2, startR, wName, wNames, setAll, wipeR, and_assoc, wBag, wBag0, wBag1, wsBump, wsApp, wsSetN, wsFrz, wsParN, wsSetI, wsPar3, wRevT, wsParO, wXcall, calm, wNcall]
      refine take_mk (by decide) fun i1 _ _ => take_mk (by decide) fun i2 _ _ => take_mk (by decide) fun i3 _ _ => ?_
      refine h _ ⟨_, rfl, fun d hd => ?_, rfl⟩
      simp only [List.mem_cons, List.not_mem_nil, or_false] at hd
      rcases hd with rfl | rfl | rfl | rfl | rfl | rfl | rfl | rfl <;> rfl
    rintro ρ ⟨L, hL8, hLp, rfl⟩
    refine w_seqL (fun ρ => ∃ n, plainD n = true ∧ ρ = st7 ns cs r ss a b (⟨r, ss, 0, 0⟩ :: ts) [z7, some (.fr (.str (wordS w))), some (.fr (.list L)), some (.fr n), z11, z12, z13]) (fun nx h => ?_) ?_
    · simp [wsRet, wsRetN, wsSeq, wsNext, wsSet, wsAsg, wsPar, wsIf, wsExpr, wVar, wC, wOp, wUn, wCall, wNil, wCons, wI, wI0, wAdd, wSub, wMul, wDiv, wMod, wNeg, wLt, wLe, wGt, wGe, wIsN, isN_fr, isN_ow, isN_none, isN_int, isN_tup, isN_lst, wTest, wAnd, wOr, wNot, wAndV, wOrV, wNotV, wIf, wChain, wTup, wLst, wFrz, wLen, wMax, wMin, wIx, wIsi, plainD, isTy, wFcall, mapfr_nil, mapfr_cons, dat_fr, dat_ow, X.fr_inj, its_tup, its_lst, its_ow, itl_lst, itl_ow, atI_0, atI_1, atI_2, startR, wName, wNames, setAll, wipeR, and_assoc, wBag, wBag0, wBag1, wsBump, wsApp, wsSetN, wsFrz, wsParN, wsSetI, wsPar3, wRevT, wsParO, wXcall, calm, wNcall]
      exact take_mk (by decide) fun k k0 k1 => ⟨_, k, rfl, rfl, pickL k0 (by rw [hL8]; exact k1) fun d hd => h _ ⟨d, hLp d hd, rfl⟩⟩
    rintro ρ ⟨n, hn, rfl⟩
    refine w_seqL (fun ρ => ρ = st7 ns cs r ss a b (⟨r, ss, 0, 0⟩ :: ts) [z7, some (.fr (.str (wordS w))), some (.fr (.list L)), some (.fr n), some (.fr (.tuple [.str (wordS w), n])), some (.fr (.list (kinD ⟨10, none⟩))), z13]) (fun nx h => ?_) ?_
    · simp [wsRet, wsRetN, wsSeq, wsNext, wsSet, wsAsg, wsPar, wsIf, wsExpr, wVar, wC, wOp, wUn, wCall, wNil, wCons, wI, wI0, wAdd, wSub, wMul, wDiv, wMod, wNeg, wLt, wLe, wGt, wGe, wIsN, isN_fr, isN_ow, isN_none, isN_int, isN_tup, isN_lst, wTest, wAnd, wOr, wNot, wAndV, wOrV, wNotV, wIf, wChain, wTup, wLst, wFrz, wLen, wMax, wMin, wIx, wIsi, plainD, isTy, wFcall, mapfr_nil, mapfr_cons, dat_fr, dat_ow, X.fr_inj, its_tup, its_lst, its_ow, itl_lst, itl_ow, atI_0, atI_1, atI_2, startR, wName, wNames, setAll, wipeR, and_assoc, wBag, wBag0, wBag1, wsBump, wsApp, wsSetN, wsFrz, wsParN, wsSetI, wsPar3, wRevT, wsParO, wXcall, calm, wNcall]
      exact h _ rfl
    rintro ρ rfl
    refine w_seqL (fun ρ => ∃ due, ((w ≠ 4 ∧ due = dueD (doneK cs (lastK ⟨r, ss, 0, 0⟩ ts) n w)) ∨ (w = 4 ∧ ts = [] ∧ due = .list (kinD ⟨10, none⟩)) ∨ (w = 4 ∧ ts ≠ [] ∧ ∃ s, due = kD s)) ∧ ρ = st7 ns cs r ss a b (⟨r, ss, 0, 0⟩ :: ts) [z7, some (.fr (.str (wordS w))), some (.fr (.list L)), some (.fr n), some (.fr (.tuple [.str (wordS w), n])), some (.fr due), z13]) (fun nx h => ?_) ?_
    · simp [wsRet, wsRetN, wsSeq, wsNext, wsSet, wsAsg, wsPar, wsIf, wsExpr, wVar, wC, wOp, wUn, wCall, wNil, wCons, wI, wI0, wAdd, wSub, wMul, wDiv, wMod, wNeg, wLt, wLe, wGt, wGe, wIsN, isN_fr, isN_ow, isN_none, isN_int, isN_tup, isN_lst, wTest, wAnd, wOr, wNot, wAndV, wOrV, wNotV, wIf, wChain, wTup, wLst, wFrz, wLen, wMax, wMin, wIx, wIsi, plainD, isTy, wFcall, mapfr_nil, mapfr_cons, dat_fr, dat_ow, X.fr_inj, its_tup, its_lst, its_ow, itl_lst, itl_ow, atI_0, atI_1, atI_2, startR, wName, wNames, setAll, wipeR, and_assoc, wBag, wBag0, wBag1, wsBump, wsApp, wsSetN, wsFrz, wsParN, wsSetI, wsPar3, wRevT, wsParO, wXcall, calm, wNcall]
      refine word_ne (j := 4) hw (by decide) (fun e => .inl ⟨rfl, ?_⟩) fun ne => .inr ⟨rfl, _, at_lastK ⟨r, ss, 0, 0⟩ ts, cs, lastK ⟨r, ss, 0, 0⟩ ts, n, w, rfl, by omega, ok, hA.good _ lastK_in, hn, h _ ⟨_, .inl ⟨ne, rfl⟩, rfl⟩⟩
      by_cases et : ts = []
      · rw [if_neg (by rw [et]; decide)]
        exact h _ ⟨_, .inr (.inl ⟨e, et, rfl⟩), rfl⟩
      · have h0 : 0 < ts.length := List.length_pos_iff.mpr et
        rw [if_pos (by omega)]
        obtain ⟨s, hs⟩ := at_prev ⟨r, ss, 0, 0⟩ et
        exact ⟨_, hs, h _ ⟨_, .inr (.inr ⟨e, et, s, rfl⟩), rfl⟩⟩
    rintro ρ ⟨due, hdue, rfl⟩
    refine w_seq2 (fun S' ρ' => ∃ kin ts' k', S' a = some k' ∧ S' b = some l ∧ Hs cs ⟨r, ss, 0, 0⟩ ts' k' ∧ OutK cs ⟨r, ss, 0, 0⟩ ts n w ts' kin due ∧ ρ' = st7 ns cs r ss a b (⟨r, ss, 0, 0⟩ :: ts) [z7, some (.fr (.str (wordS w))), some (.fr (.list L)), some (.fr n), some (.fr (.tuple [.str (wordS w), n])), some (.fr due), some (.fr kin)]) (fun nx h => ?_) ?_
    · have hdo : ∀ kin ts' k', S b = some l → Hs cs ⟨r, ss, 0, 0⟩ ts' k' → OutK cs ⟨r, ss, 0, 0⟩ ts n w ts' kin due → nx (S.put a k') (st7 ns cs r ss a b (⟨r, ss, 0, 0⟩ :: ts) [z7, some (.fr (.str (wordS w))), some (.fr (.list L)), some (.fr n), some (.fr (.tuple [.str (wordS w), n])), some (.fr due), some (.fr kin)]) := fun kin ts' k' h1 h2 h3 => h _ _ ⟨kin, ts', k', OS.put_same, by rw [OS.put_ne (Ne.symm ab)]; exact h1, h2, h3, rfl⟩
      have hno : ∀ x, XOk liveK x ∧ PyData.eqv (.list (kinD x)) (.list (kinD x)) = true ∧ SeqAt.shaped (.list (kinD x)) = true → due = .list (kinD x) → nx S (st7 ns cs r ss a b (⟨r, ss, 0, 0⟩ :: ts) [z7, some (.fr (.str (wordS w))), some (.fr (.list L)), some (.fr n), some (.fr (.tuple [.str (wordS w), n])), some (.fr due), some (.fr (.list (kinD x)))]) := fun x hx e => h _ _ ⟨_, ts, k, hSa, hSb, hA, .err x rfl e rfl hx.2.1 hx.2.2 (kin_ne x), rfl⟩
      simp [wsRet, wsRetN, wsSeq, wsNext, wsSet, wsAsg, wsPar, wsIf, wsExpr, wVar, wC, wOp, wUn, wCall, wNil, wCons, wI, wI0, wAdd, wSub, wMul, wDiv, wMod, wNeg, wLt, wLe, wGt, wGe, wIsN, isN_fr, isN_ow, isN_none, isN_int, isN_tup, isN_lst, wTest, wAnd, wOr, wNot, wAndV, wOrV, wNotV, wIf, wChain, wTup, wLst, wFrz, wLen, wMax, wMin, wIx, wIsi, plainD, isTy, wFcall, mapfr_nil, mapfr_cons, dat_fr, dat_ow, X.fr_inj, its_tup, its_lst, its_ow, itl_lst, itl_ow, atI_0, atI_1, atI_2, startR, wName, wNames, setAll, wipeR, and_assoc, wBag, wBag0, wBag1, wsBump, wsApp, wsSetN, wsFrz, wsParN, wsSetI, wsPar3, wRevT, lE, lT, lA, lS, lI, WEnds2.at_, wOp2, wTest2, wAnd2, wOr2, wNot2, wNil2, wCons2, wTup2, wFcall2, wCal2, wMeth2, wMake2, wCall2, wsSeq2, wsNext2, wsSet2, wsAsg2, wsRet2, wsExpr2, wsIf2, wCards, wPast, wsPush, wNames, setAll, wsNever, wsRaise2, wsRaiseK2, wLenP, wsPop, wAndV2, wIf2, wsPar32, wLenK2, wEqK2, wIsK, wXcal2]
      refine refused_do hSa hA ok hw hn (by omega) (fun s' e hd => ?_) (fun x e hd => ?_) (fun e et => ?_) fun e et => ?_
      · rcases hdue with ⟨_, hdue⟩ | ⟨e2, _⟩ | ⟨e2, _⟩
        · rw [hd] at hdue
          exact hdo _ (ts ++ [s']) _ hSb (hA.push (doneK_good (hA.good _ lastK_in) hd)) (.on s' rfl hdue e rfl hd)
        · exact absurd e2 e
        · exact absurd e2 e
      · rcases hdue with ⟨_, hdue⟩ | ⟨e2, _⟩ | ⟨e2, _⟩
        · rw [hd] at hdue
          exact hno x (doneK_err hd) hdue
        · exact absurd e2 e
        · exact absurd e2 e
      · rcases hdue with ⟨e2, _⟩ | ⟨_, _, hdue⟩ | ⟨_, e2, _⟩
        · exact absurd e e2
        · exact hno _ err10 hdue
        · exact absurd et e2
      · rcases hdue with ⟨e2, _⟩ | ⟨_, e2, _⟩ | ⟨_, _, s', hdue⟩
        · exact absurd e e2
        · exact absurd e2 et
        · rcases List.eq_nil_or_concat ts with e3 | ⟨l2, t, e3⟩
          · exact absurd e3 et
          · rw [List.concat_eq_append] at e3
            rw [e3] at hA
            exact hdo _ l2 _ hSb hA.pop (.back s' t rfl hdue e e3)
    rintro S2 ρ2 ⟨kin, ts', k', hS2a, hS2b, hA2, out, rfl⟩
    refine w_seqL (fun ρ => ρ = st7 ns cs r ss a b (⟨r, ss, 0, 0⟩ :: ts) [z7, some (.fr (.str (wordS w))), some (.fr (.list L)), some (.fr n), some (.fr (.tuple [.str (wordS w), n])), some (.fr due), some (.fr kin)]) (fun nx h => ?_) ?_
    · simp [wsRet, wsRetN, wsSeq, wsNext, wsSet, wsAsg, wsPar, wsIf, wsExpr, wVar, wC, wOp, wUn, wCall, wNil, wCons, wI, wI0, wAdd, wSub, wMul, wDiv, wMod, wNeg, wLt, wLe, wGt, wGe, wIsN, isN_fr, isN_ow, isN_none, isN_int, isN_tup, isN_lst, wTest, wAnd, wOr, wNot, wAndV, wOrV, wNotV, wIf, wChain, wTup, wLst, wFrz, wLen, wMax, wMin, wIx, wIsi, plainD, isTy, wFcall, mapfr_nil, mapfr_cons, dat_fr, dat_ow, X.fr_inj, its_tup, its_lst, its_ow, itl_lst, itl_ow, atI_0, atI_1, atI_2, startR, wName, wNames, setAll, wipeR, and_assoc, wBag, wBag0, wBag1, wsBump, wsApp, wsSetN, wsFrz, wsParN, wsSetI, wsPar3, wRevT, wsParO, wXcall, calm, wNcall]
      cases out with
      | err x e1 e2 e3 e4 e5 e6 =>
        subst e1 e2
        have e : ∀ b, b = true → X.fr (.bool (if true = true then !b else b)) = X.fr (.bool false) := fun b h => by rw [h]; rfl
        exact ⟨rfl, iteP rfl ⟨e5, e5, .inl ⟨e _ e4, h _ rfl⟩⟩⟩
      | on s' e1 e2 e3 e4 e5 =>
        subst e1 e2
        exact ⟨rfl, iteQ (fun z => Bool.false_ne_true z) (neT rfl rfl (.inl ⟨rfl, h _ rfl⟩))⟩
      | back s' t e1 e2 e3 e4 =>
        subst e1 e2
        exact ⟨rfl, iteQ (fun z => Bool.false_ne_true z) (neT rfl rfl (.inl ⟨rfl, h _ rfl⟩))⟩
    rintro ρ rfl
    refine w_seq2 (fun S' ρ' => ∃ ts' k' l' z8 z9 z10 z11 z12 z13, ts'.length ≤ i + 1 ∧ S' a = some k' ∧ S' b = some l' ∧ Hs cs ⟨r, ss, 0, 0⟩ ts' k' ∧ Hs cs ⟨r, ss, 0, 0⟩ ts' l' ∧ ρ' = st7 ns cs r ss a b (⟨r, ss, 0, 0⟩ :: ts') [z7, z8, z9, z10, z11, z12, z13]) (fun nx h => ?_) ?_
    · simp [wsRet, wsRetN, wsSeq, wsNext, wsSet, wsAsg, wsPar, wsIf, wsExpr, wVar, wC, wOp, wUn, wCall, wNil, wCons, wI, wI0, wAdd, wSub, wMul, wDiv, wMod, wNeg, wLt, wLe, wGt, wGe, wIsN, isN_fr, isN_ow, isN_none, isN_int, isN_tup, isN_lst, wTest, wAnd, wOr, wNot, wAndV, wOrV, wNotV, wIf, wChain, wTup, wLst, wFrz, wLen, wMax, wMin, wIx, wIsi, plainD, isTy, wFcall, mapfr_nil, mapfr_cons, dat_fr, dat_ow, X.fr_inj, its_tup, its_lst, its_ow, itl_lst, itl_ow, atI_0, atI_1, atI_2, startR, wName, wNames, setAll, wipeR, and_assoc, wBag, wBag0, wBag1, wsBump, wsApp, wsSetN, wsFrz, wsParN, wsSetI, wsPar3, wRevT, lE, lT, lA, lS, lI, WEnds2.at_, wOp2, wTest2, wAnd2, wOr2, wNot2, wNil2, wCons2, wTup2, wFcall2, wCal2, wMeth2, wMake2, wCall2, wsSeq2, wsNext2, wsSet2, wsAsg2, wsRet2, wsExpr2, wsIf2, wCards, wPast, wsPush, wNames, setAll, wsNever, wsRaise2, wsRaiseK2, wLenP, wsPop, wAndV2, wIf2, wsPar32, wLenK2, wEqK2, wIsK, wXcal2]
      have hBl := hB.len
      have dod : ∀ (p : OS → D → Prop), doK cs (lastK ⟨r, ss, 0, 0⟩ ts) n w S2 b l p (fun _ _ => False) → wx_law_do [hD b, .tuple [.str (wordS w), n]] S2 p (fun _ _ => False) := fun p q => ⟨b, l, cs, _, n, w, rfl, hw, hS2b, hB.st, ok.2.1, hn, by omega, by omega, q⟩
      cases out with
      | err x e1 e2 e3 e4 e5 e6 =>
        subst e1 e2 e3
        obtain ⟨d, ds, e6⟩ := e6
        have e : ∀ b, b = false → X.fr (.bool (if false = true then !b else b)) = X.fr (.bool false) := fun b h => by rw [h]; rfl
        exact ⟨e5, rfl, .inl ⟨e _ (by show PyData.eqv (.list (kinD x)) (.list []) = false; rw [e6, PyData.eqv, PyData.eqvAll]), h _ _ ⟨_, k', l, _, _, _, _, _, _, by omega, hS2a, hS2b, hA2, hB, rfl⟩⟩⟩
      | on s' e1 e2 e3 e4 e5 =>
        subst e1 e2 e4
        refine eqT rfl rfl (.inr ⟨rfl, word_eq (j := 4) hw (by decide) (fun e => absurd e e3) fun _ => .inl ⟨rfl, ?_⟩⟩)
        simp [wOpN, wCat, wsRet, wsRetN, wsSeq, wsNext, wsSet, wsAsg, wsPar, wsIf, wsExpr, wVar, wC, wOp, wUn, wCall, wNil, wCons, wI, wI0, wAdd, wSub, wMul, wDiv, wMod, wNeg, wLt, wLe, wGt, wGe, wIsN, isN_fr, isN_ow, isN_none, isN_int, isN_tup, isN_lst, wTest, wAnd, wOr, wNot, wAndV, wOrV, wNotV, wIf, wChain, wTup, wLst, wFrz, wLen, wMax, wMin, wIx, wIsi, plainD, isTy, wFcall, mapfr_nil, mapfr_cons, dat_fr, dat_ow, X.fr_inj, its_tup, its_lst, its_ow, itl_lst, itl_ow, atI_0, atI_1, atI_2, startR, wName, wNames, setAll, wipeR, and_assoc, wBag, wBag0, wBag1, wsBump, wsApp, wsSetN, wsFrz, wsParN, wsSetI, wsPar3, wRevT, wsParO, wXcall, calm, wNcall]
        refine ⟨by omega, dod _ ?_⟩
        unfold doK
        rw [if_neg e3, e5]
        have el : kD ⟨r, ss, 0, 0⟩ :: (List.map kD ts ++ [kD s']) = ((⟨r, ss, 0, 0⟩ : KS) :: (ts ++ [s'])).map kD := by simp
        rw [el]
        exact h _ _ ⟨ts ++ [s'], k', _, _, _, _, _, _, _, by rw [List.length_append, List.length_singleton]; omega, by rw [OS.put_ne ab]; exact hS2a, OS.put_same, hA2, hB.push (doneK_good (hB.good _ lastK_in) e5), rfl⟩
      | back s' t e1 e2 e3 e4 =>
        subst e1 e2
        refine eqT rfl rfl (.inr ⟨rfl, word_eq (j := 4) hw (by decide) (fun _ => .inr ⟨rfl, ?_⟩) fun e => absurd e3 e⟩)
        simp [wSlL, wNoPart, wPart, wsRet, wsRetN, wsSeq, wsNext, wsSet, wsAsg, wsPar, wsIf, wsExpr, wVar, wC, wOp, wUn, wCall, wNil, wCons, wI, wI0, wAdd, wSub, wMul, wDiv, wMod, wNeg, wLt, wLe, wGt, wGe, wIsN, isN_fr, isN_ow, isN_none, isN_int, isN_tup, isN_lst, wTest, wAnd, wOr, wNot, wAndV, wOrV, wNotV, wIf, wChain, wTup, wLst, wFrz, wLen, wMax, wMin, wIx, wIsi, plainD, isTy, wFcall, mapfr_nil, mapfr_cons, dat_fr, dat_ow, X.fr_inj, its_tup, its_lst, its_ow, itl_lst, itl_ow, atI_0, atI_1, atI_2, startR, wName, wNames, setAll, wipeR, and_assoc, wBag, wBag0, wBag1, wsBump, wsApp, wsSetN, wsFrz, wsParN, wsSetI, wsPar3, wRevT, wsParO, wXcall, calm, wNcall]
        have el : cutD (kD ⟨r, ss, 0, 0⟩ :: List.map kD ts) none (some (-1)) = ((⟨r, ss, 0, 0⟩ : KS) :: ts').map kD := by
          rw [e4]
          have := cut_last (((⟨r, ss, 0, 0⟩ : KS) :: ts').map kD) (kD t)
          rw [← this, ← List.map_cons, ← List.cons_append, List.map_append]
          rfl
        rw [el]
        refine dod _ ?_
        unfold doK backK
        have hts : ts.length = ts'.length + 1 := by rw [e4, List.length_append]; rfl
        rw [if_pos e3, if_neg (by omega)]
        rw [e4] at hB
        exact h _ _ ⟨ts', k', _, _, _, _, _, _, _, by omega, by rw [OS.put_ne ab]; exact hS2a, OS.put_same, hA2, hB.pop, rfl⟩
    rintro S3 ρ3 ⟨ts3, k3, l3, z8, z9, z10, z11, z12, z13, hl3, hS3a, hS3b, hA3, hB3, rfl⟩
    simp [wsRet, wsRetN, wsSeq, wsNext, wsSet, wsAsg, wsPar, wsIf, wsExpr, wVar, wC, wOp, wUn, wCall, wNil, wCons, wI, wI0, wAdd, wSub, wMul, wDiv, wMod, wNeg, wLt, wLe, wGt, wGe, wIsN, isN_fr, isN_ow, isN_none, isN_int, isN_tup, isN_lst, wTest, wAnd, wOr, wNot, wAndV, wOrV, wNotV, wIf, wChain, wTup, wLst, wFrz, wLen, wMax, wMin, wIx, wIsi, plainD, isTy, wFcall, mapfr_nil, mapfr_cons, dat_fr, dat_ow, X.fr_inj, its_tup, its_lst, its_ow, itl_lst, itl_ow, atI_0, atI_1, atI_2, startR, wName, wNames, setAll, wipeR, and_assoc, wBag, wBag0, wBag1, wsBump, wsApp, wsSetN, wsFrz, wsParN, wsSetI, wsPar3, wRevT, lE, lT, lA, lS, lI, WEnds2.at_, wOp2, wTest2, wAnd2, wOr2, wNot2, wNil2, wCons2, wTup2, wFcall2, wCal2, wMeth2, wMake2, wCall2, wsSeq2, wsNext2, wsSet2, wsAsg2, wsRet2, wsExpr2, wsIf2, wCards, wPast, wsPush, wNames, setAll, wsNever, wsRaise2, wsRaiseK2, wLenP, wsPop, wAndV2, wIf2, wsPar32, wLenK2, wEqK2, wIsK, wXcal2]
    have c3 := ok.2.1
    refine ⟨a, rfl, ⟨_, hS3a⟩, a, k3, cs, lastK ⟨r, ss, 0, 0⟩ ts3, rfl, hS3a, hA3.st, a, rfl, ⟨_, hS3a⟩, a, k3, cs, lastK ⟨r, ss, 0, 0⟩ ts3, rfl, hS3a, hA3.st, a, rfl, ⟨_, hS3a⟩, a, k3, cs, lastK ⟨r, ss, 0, 0⟩ ts3, rfl, hS3a, hA3.st, kD (lastK ⟨r, ss, 0, 0⟩ ts3), at_lastK _ _, neT (cl_kD _) rfl (.inl ⟨rfl, a, rfl, ⟨_, hS3a⟩, a, k3, cs, rfl, hS3a, hA3.cs_, cs.length, rfl, by omega, neT (cl_int _) rfl (.inl ⟨rfl, a, rfl, ⟨_, hS3a⟩, a, k3, cs, lastK ⟨r, ss, 0, 0⟩ ts3, rfl, hS3a, hA3.st, ok, fun o ho => ?_⟩)⟩)⟩
    have g3 := hA3.good _ (lastK_in (s0 := ⟨r, ss, 0, 0⟩) (ts := ts3))
    refine ⟨kD (lastK ⟨r, ss, 0, 0⟩ ts3), at_lastK _ _, _, .tup _, _, atI_0, cs, (lastK ⟨r, ss, 0, 0⟩ ts3).r, (lastK ⟨r, ss, 0, 0⟩ ts3).ss, rfl, ok, g3.r0, g3.len, g3.s0, fun o2 ho2 => neT (cl_oD o) (by rw [ho.uniq ho2]) (.inl ⟨rfl, ?_⟩)⟩
    refine ⟨a, rfl, ⟨_, hS3a⟩, .inl ⟨b, _, rfl, hS3b⟩, .inl ⟨a, k3, cs, _, b, l3, _, rfl, hS3a, hS3b, hA3.st, hB3.st, fun _ => ?_, fun ne => absurd rfl ne⟩⟩
    refine .inr ⟨rfl, a, rfl, ⟨_, hS3a⟩, .inr ⟨_, rfl⟩, .inr ⟨a, k3, _, rfl, hS3a, .inl ⟨rfl, ?_⟩⟩⟩
    exact fin _ _ _ _ _ _ _ _ _ _ _ hl3 hS3a hS3b hA3 hB3
  rintro S1 ρ1 ⟨m, hm, inv1⟩
  obtain ⟨ts, k, l, z7, z8, z9, z10, z11, z12, z13, hl, hSa, hSb, hA, hB, rfl⟩ := inv1
  refine w_seq2 (fun S' ρ' => ∃ k' z7, S' a = some k' ∧ S' b = some l ∧ Hs cs ⟨r, ss, 0, 0⟩ [] k' ∧ ρ' = st7 ns cs r ss a b (⟨r, ss, 0, 0⟩ :: ts) [z7, z8, z9, z10, z11, z12, z13]) (fun nx h => ?_) ?_
  · refine w_forR2 0 ts.length (fun q h => ?_) (fun i S' ρ' => ∃ k' z7, S' a = some k' ∧ S' b = some l ∧ Hs cs ⟨r, ss, 0, 0⟩ (ts.take (ts.length - i)) k' ∧ ρ' = st7 ns cs r ss a b (⟨r, ss, 0, 0⟩ :: ts) [z7, z8, z9, z10, z11, z12, z13]) ⟨k, z7, hSa, hSb, by rw [Nat.sub_zero, List.take_length]; exact hA, rfl⟩ (fun i S2 ρ2 hi inv => ?_) (fun S2 ρ2 inv => ?_)
    · simp [wiR1, wsRet, wsRetN, wsSeq, wsNext, wsSet, wsAsg, wsPar, wsIf, wsExpr, wVar, wC, wOp, wUn, wCall, wNil, wCons, wI, wI0, wAdd, wSub, wMul, wDiv, wMod, wNeg, wLt, wLe, wGt, wGe, wIsN, isN_fr, isN_ow, isN_none, isN_int, isN_tup, isN_lst, wTest, wAnd, wOr, wNot, wAndV, wOrV, wNotV, wIf, wChain, wTup, wLst, wFrz, wLen, wMax, wMin, wIx, wIsi, plainD, isTy, wFcall, mapfr_nil, mapfr_cons, dat_fr, dat_ow, X.fr_inj, its_tup, its_lst, its_ow, itl_lst, itl_ow, atI_0, atI_1, atI_2, startR, wName, wNames, setAll, wipeR, and_assoc, wBag, wBag0, wBag1, wsBump, wsApp, wsSetN, wsFrz, wsParN, wsSetI, wsPar3, wRevT, wsParO, wXcall, calm, wNcall]
      exact ⟨by omega, h⟩
    · obtain ⟨k2, z7, h2a, h2b, h2, rfl⟩ := inv
      obtain ⟨t, ht⟩ : ∃ t, ts.take (ts.length - i) = ts.take (ts.length - (i + 1)) ++ [t] := ⟨ts[ts.length - (i + 1)]'(by omega), by
        rw [show ts.length - i = ts.length - (i + 1) + 1 by omega, List.take_add_one, List.getElem?_eq_getElem (by omega)]
        rfl⟩
      rw [ht] at h2
      have hk2 := h2.len
      rw [List.length_append, List.length_singleton] at hk2
      show wsExpr2 _ _ S2 (st7 ns cs r ss a b (⟨r, ss, 0, 0⟩ :: ts) [some (.fr (.int (0 + (i : Int)))), z8, z9, z10, z11, z12, z13])
      refine ⟨_, rfl, a, k2, rfl, h2a, [], rfl, a, k2, rfl, h2a, by omega, ?_⟩
      unfold backK
      rw [if_neg (by omega)]
      exact ⟨_, _, OS.put_same, by rw [OS.put_ne (Ne.symm ab)]; exact h2b, h2.pop, rfl⟩
    · obtain ⟨k2, z7, h2a, h2b, h2, rfl⟩ := inv
      rw [Nat.sub_self, List.take_zero] at h2
      exact h _ _ ⟨k2, z7, h2a, h2b, h2, rfl⟩
  rintro S2 ρ2 ⟨k2, z7, h2a, h2b, h2, rfl⟩
  have hk2 := h2.len
  simp [wsRet, wsRetN, wsSeq, wsNext, wsSet, wsAsg, wsPar, wsIf, wsExpr, wVar, wC, wOp, wUn, wCall, wNil, wCons, wI, wI0, wAdd, wSub, wMul, wDiv, wMod, wNeg, wLt, wLe, wGt, wGe, wIsN, isN_fr, isN_ow, isN_none, isN_int, isN_tup, isN_lst, wTest, wAnd, wOr, wNot, wAndV, wOrV, wNotV, wIf, wChain, wTup, wLst, wFrz, wLen, wMax, wMin, wIx, wIsi, plainD, isTy, wFcall, mapfr_nil, mapfr_cons, dat_fr, dat_ow, X.fr_inj, its_tup, its_lst, its_ow, itl_lst, itl_ow, atI_0, atI_1, atI_2, startR, wName, wNames, setAll, wipeR, and_assoc, wBag, wBag0, wBag1, wsBump, wsApp, wsSetN, wsFrz, wsParN, wsSetI, wsPar3, wRevT, lE, lT, lA, lS, lI, WEnds2.at_, wOp2, wTest2, wAnd2, wOr2, wNot2, wNil2, wCons2, wTup2, wFcall2, wCal2, wMeth2, wMake2, wCall2, wsSeq2, wsNext2, wsSet2, wsAsg2, wsRet2, wsExpr2, wsIf2, wCards, wPast, wsPush, wNames, setAll, wsNever, wsRaise2, wsRaiseK2, wLenP, wsPop, wAndV2, wIf2, wsPar32, wLenK2, wEqK2, wIsK, wXcal2]
  refine make_mk ok hp fun c pl hc => ?_
  have ac : a ≠ c := fun z => by rw [← z, h2a] at hc; cases hc
  have bc : b ≠ c := fun z => by rw [← z, h2b] at hc; cases hc
  have h3a : (S2.put c ⟨tI cs, [.tuple [pD r ss, .int 0, .int 0]], pl⟩) a = some k2 := by rw [OS.put_ne ac]; exact h2a
  have h3b : (S2.put c ⟨tI cs, [.tuple [pD r ss, .int 0, .int 0]], pl⟩) b = some l := by rw [OS.put_ne bc]; exact h2b
  have h3c : (S2.put c ⟨tI cs, [.tuple [pD r ss, .int 0, .int 0]], pl⟩) c = some ⟨tI cs, [.tuple [pD r ss, .int 0, .int 0]], pl⟩ := OS.put_same
  generalize S2.put c ⟨tI cs, [.tuple [pD r ss, .int 0, .int 0]], pl⟩ = S3 at h3a h3b h3c ⊢
  have e : ∀ b, b = true → X.fr (.bool (if true = true then !b else b)) = X.fr (.bool false) := fun b h => by rw [h]; rfl
  have last : ∀ p : OS → D → Prop, (∀ q, q = PyData.list (kinD ⟨10, none⟩) → p S3 q) → wc_law_refused [fxD fx_lam_law_1, hD a, .int 0, .int 0] S3 p := fun p q => by
    refine ⟨1, _, _, _, by decide, rfl, _, _, _, rfl, a, k2, rfl, h3a, by omega, ?_⟩
    unfold backK
    rw [if_pos (by rw [hk2]; rfl)]
    exact ⟨err10.1, q _ rfl⟩
  refine ⟨a, rfl, ⟨_, h3a⟩, .inl ⟨c, _, rfl, h3c⟩, .inl ⟨a, k2, cs, _, c, _, _, rfl, h3a, h3c, h2.st, (h00 pl).st, fun _ => ?_, fun ne => absurd rfl ne⟩⟩
  refine .inr ⟨rfl, a, rfl, ⟨_, h3a⟩, .inl ⟨b, _, rfl, h3b⟩, .inl ⟨a, k2, cs, _, b, l, _, rfl, h3a, h3b, h2.st, hB.st, fun e1 => ?_, fun ne => ?_⟩⟩
  · refine ⟨_, at_lastK _ ts, eqT (cl_kD _) e1 (neB rfl (.inl ⟨rfl, last _ fun q eq => ?_⟩))⟩
    subst eq
    exact ⟨err10.2.2, err10.2.2, .inl ⟨e _ err10.2.1, h _ _ rfl⟩⟩
  · refine ⟨_, at_lastK _ ts, eqC (cl_kD _) (cl_kD _) (fun e1 => absurd e1 ne) fun _ => neB rfl (.inl ⟨rfl, last _ fun q eq => ?_⟩)⟩
    subst eq
    exact ⟨err10.2.2, err10.2.2, .inl ⟨e _ err10.2.1, h _ _ rfl⟩⟩
end DL

/-! The walk: each def of the text keeps what is told of it. -/
namespace DL
open PySem PySem.Spec PyProof.Rows L2 RH RF
open LamX (CodeO TabB)
def topS (i : Nat) : Stmt := PySem.Challenge.pw_freerides_k12_whole_a_purse_kept_deed_by.main.body.getD i (.Pass ⟨0, 0, 0, 0⟩)
abbrev st_TooFew_init : Stmt := stS (clsB (topS 13)) 0
abbrev st_is_within : Stmt := topS 16
abbrev st_are_cards : Stmt := topS 17
abbrev st_need_cards : Stmt := topS 18
abbrev st_are_stamps : Stmt := topS 19
abbrev st_is_all_purse : Stmt := topS 20
abbrev st_need_purse : Stmt := topS 21
abbrev st_done : Stmt := topS 22
abbrev st_paid : Stmt := topS 24
abbrev st_common : Stmt := topS 25
abbrev st_period : Stmt := topS 26
abbrev st_wears_off : Stmt := topS 27
abbrev st_wanted : Stmt := topS 28
abbrev st_endless_from : Stmt := topS 29
abbrev st_in_all : Stmt := topS 30
abbrev st_Kept_init : Stmt := stS (clsB (topS 32)) 0
abbrev st_Kept_ride : Stmt := stS (clsB (topS 32)) 1
abbrev st_Kept_give : Stmt := stS (clsB (topS 32)) 2
abbrev st_Kept_lend : Stmt := stS (clsB (topS 32)) 3
abbrev st_Kept_pay : Stmt := stS (clsB (topS 32)) 4
abbrev st_Kept_back : Stmt := stS (clsB (topS 32)) 5
abbrev st_Kept_purse : Stmt := stS (clsB (topS 32)) 6
abbrev st_Kept_ridden : Stmt := stS (clsB (topS 32)) 7
abbrev st_Kept_lent : Stmt := stS (clsB (topS 32)) 8
abbrev st_Kept_still : Stmt := stS (clsB (topS 32)) 9
abbrev st_Kept_len : Stmt := stS (clsB (topS 32)) 10
abbrev st_Kept_eq : Stmt := stS (clsB (topS 32)) 11
abbrev st_law_cell_at : Stmt := topS 34
abbrev st_law_draws : Stmt := topS 35
abbrev st_law_from : Stmt := topS 36
abbrev st_law_bag : Stmt := topS 37
abbrev st_law_bags : Stmt := topS 38
abbrev st_law_take : Stmt := topS 39
abbrev st_law_far_draw : Stmt := topS 40
abbrev st_law_common : Stmt := topS 41
abbrev st_law_kinds : Stmt := topS 42
abbrev st_law_stamps_for : Stmt := topS 43
abbrev st_law_had : Stmt := topS 44
abbrev st_law_paid : Stmt := topS 45
abbrev st_law_whole : Stmt := topS 46
abbrev st_law_wears : Stmt := topS 47
abbrev st_law_step : Stmt := topS 48
abbrev st_law_refused : Stmt := topS 49
abbrev st_law_after : Stmt := topS 50
abbrev st_law_do : Stmt := topS 51
abbrev st_law_rest : Stmt := topS 52
abbrev st_law : Stmt := topS 53
section
variable {cl : Nat → Addr} {C : Addr} {P : Program} {w : World} {Z : Par} {mg : Str → Option Value} {base : Heap}
theorem sc_law_cell_at : FnScope ["script", "k"] ["script", "k"] (defScope st_law_cell_at) := ⟨rfl, rfl, rfl, by decide +kernel, rfl, by decide +kernel, by decide +kernel⟩
theorem cal_law_cell_at (b : Bt mg) (d : Def Z.K mg "_law_cell_at" st_law_cell_at ["script", "k"]) : Cal Z P w mg base 1 "_law_cell_at" ["script", "k"] wf_law_cell_at := by
  have S := sc_law_cell_at
  exact d.cal S len_law_cell_at (fun f cdv A outer s H E hr => (qss_cons (qs_if (qt_lt (qv 1) (qe_len rfl b.len_ (qa_cons (qv 0) qa_nil))) (qss_one (qs_ret (qe_sub_ rfl (qv 0) (qv 1)))) qss_nil)
  (qss_one (qs_ret qe_int)))) hd_law_cell_at
theorem sc_law_draws : FnScope ["cell", "many", "size", "found", "rest", "stirred", "k"] ["cell", "many", "size"] (defScope st_law_draws) := ⟨rfl, rfl, rfl, by decide +kernel, rfl, by decide +kernel, by decide +kernel⟩
theorem cal_law_draws (b : Bt mg) (d : Def Z.K mg "_law_draws" st_law_draws ["cell", "many", "size"]) : Cal Z P w mg base 1 "_law_draws" ["cell", "many", "size"] wf_law_draws := by
  have S := sc_law_draws
  exact d.cal S len_law_draws (fun f cdv A outer s H E hr => (qss_cons (qs_setN 3 S.nd rfl (by first | exact Or.inl rfl | exact Or.inr rfl) (qn_lst qa_nil))
  (qss_cons (qs_set 4 S.nd rfl (by first | exact Or.inl rfl | exact Or.inr rfl) (qe_mul (qv 0) (qe_int1 b.int_ (qa_cons (qe_ge (qv 0) (qe_pow qe_int qe_int)) qa_nil))))
  (qss_cons (qs_set 5 S.nd rfl (by first | exact Or.inl rfl | exact Or.inr rfl) (qe_mod (qv 0) qe_int))
  (qss_cons (qs_for gs_name PassesOwn.never rfl (qi_range1 b.range_ (qa_cons (qe_add (qv 1) qe_int) qa_nil)) (pg_name (i := 6) S.nd rfl (by first | exact Or.inl rfl | exact Or.inr rfl)) (qss_cons (qs_set 5 S.nd rfl (by first | exact Or.inl rfl | exact Or.inr rfl) (qe_mod (qe_add (qe_add (qe_add (qe_mul (qv 5) (qv 5)) (qe_mul qe_int (qv 5))) (qv 6)) qe_int) qe_int))
  (qss_one (qs_if (PW.pt (qw_and (qt_gt (qv 6) qe_int) (qw_and1 (qt_gt (qv 4) qe_int)))) (qss_cons (qs_app 3 rfl (pe_bm PySem.F.plainAttrs_list PySem.F.slot_list_append PySem.F.type_list_append mt_append (pv 3) (pa_cons (qe_mod (qv 4) (qv 2)) pa_nil)))
  (qss_one (qs_set 4 S.nd rfl (by first | exact Or.inl rfl | exact Or.inr rfl) (qe_fdiv (qv 4) (qv 2))))) (qss_one (qs_if (qt_gt (qv 6) qe_int) (qss_one (qs_app 3 rfl (pe_bm PySem.F.plainAttrs_list PySem.F.slot_list_append PySem.F.type_list_append mt_append (pv 3) (pa_cons (qe_mod (qe_fdiv (qv 5) qe_int) (qv 2)) pa_nil)))) qss_nil))))))
  (qss_one (qs_ret (qv 3)))))))) hd_law_draws
theorem sc_law_bag : FnScope ["script", "k"] ["script", "k"] (defScope st_law_bag) := ⟨rfl, rfl, rfl, by decide +kernel, rfl, by decide +kernel, by decide +kernel⟩
theorem cal_law_bag (b : Bt mg) (d : Def Z.K mg "_law_bag" st_law_bag ["script", "k"]) (c_law_cell_at : Cal Z P w mg base 1 "_law_cell_at" ["script", "k"] wf_law_cell_at) (c_law_draws : Cal Z P w mg base 1 "_law_draws" ["cell", "many", "size"] wf_law_draws) : Cal Z P w mg base 2 "_law_bag" ["script", "k"] wf_law_bag := by
  have S := sc_law_bag
  exact d.cal S len_law_bag (fun f cdv A outer s H E hr => (qss_one (qs_ret (qe_bag (qn_lst (qa_cons (qe_call c_law_draws rfl hr (by decide) (qa_cons (qe_call c_law_cell_at rfl hr (by decide) (qa_cons (qv 0) (qa_cons (qv 1) qa_nil))) (qa_cons qe_int (qa_cons qe_int qa_nil)))) (qa_cons qe_int qa_nil))))))) hd_law_bag
theorem sc_law_bags : FnScope ["script", "limit", "k"] ["script", "limit"] (defScope st_law_bags) := ⟨rfl, rfl, rfl, by decide +kernel, rfl, by decide +kernel, by decide +kernel⟩
theorem cal_law_bags (b : Bt mg) (d : Def Z.K mg "_law_bags" st_law_bags ["script", "limit"]) (c_law_bag : Cal Z P w mg base 2 "_law_bag" ["script", "k"] wf_law_bag) : Cal Z P w mg base 3 "_law_bags" ["script", "limit"] wf_law_bags := by
  have S := sc_law_bags
  exact d.cal S len_law_bags (fun f cdv A outer s H E hr => (qss_one (qs_ret (qe_frz (qn_lc [("k", 2)] rfl S.nd (qi_range1 b.range_ (qa_cons (qe_max rfl b.max_ (qa_cons qe_int (qa_cons (qe_min rfl b.min_ (qa_cons (qv 1) (qa_cons (qe_len rfl b.len_ (qa_cons (qv 0) qa_nil)) qa_nil))) qa_nil))) qa_nil)) (blkOk_by (own := [("k", 2)]) (N := ["script", "limit", "k"]) (sc := defScope st_law_bags) (by decide +kernel)) gs_name (by decide) (fun _ _ _ _ _ => (pg_name (i := 2) S.nd rfl (by first | exact Or.inl rfl | exact Or.inr rfl))) (fun _ _ _ _ _ => qts_nil) (fun _ _ _ _ _ => (qe_call c_law_bag rfl hr (by decide) (qa_cons (qv 0) (qa_cons (qv 2) qa_nil))))))))) hd_law_bags
theorem sc_law_take : FnScope ["bag", "many"] ["bag", "many"] (defScope st_law_take) := ⟨rfl, rfl, rfl, by decide +kernel, rfl, by decide +kernel, by decide +kernel⟩
theorem cal_law_take (b : Bt mg) (d : Def Z.K mg "_law_take" st_law_take ["bag", "many"]) : Cal Z P w mg base 1 "_law_take" ["bag", "many"] wf_law_take := by
  have S := sc_law_take
  exact d.cal S len_law_take (fun f cdv A outer s H E hr => (qss_cons (qs_bump 0 (qe_add (qe_bag1 0 rfl (pv 0)) qe_int) (pg_sub (pv 0) pe_int set_list))
  (qss_one (qs_ret (qe_mod (qe_sub_ rfl (qe_bag0 0 rfl (pv 0)) (qe_mod (qe_bag1 0 rfl (pv 0)) (qe_len rfl b.len_ (qa_cons (qe_bag0 0 rfl (pv 0)) qa_nil)))) (qv 1)))))) hd_law_take
theorem sc_law_kinds : FnScope ["bag", "far", "found", "turn"] ["bag", "far"] (defScope st_law_kinds) := ⟨rfl, rfl, rfl, by decide +kernel, rfl, by decide +kernel, by decide +kernel⟩
theorem cal_law_kinds (b : Bt mg) (d : Def Z.K mg "_law_kinds" st_law_kinds ["bag", "far"]) (c_law_take : Cal Z P w mg base 1 "_law_take" ["bag", "many"] wf_law_take) : Cal Z P w mg base 2 "_law_kinds" ["bag", "far"] wf_law_kinds := by
  have S := sc_law_kinds
  exact d.cal S len_law_kinds (fun f cdv A outer s H E hr => (qss_cons (qs_setN 2 S.nd rfl (by first | exact Or.inl rfl | exact Or.inr rfl) (qn_lst qa_nil))
  (qss_cons (qs_for gs_name PassesOwn.never rfl (qi_range1 b.range_ (qa_cons (qe_add qe_int (qe_call c_law_take rfl hr (by decide) (qa_cons (qv 0) (qa_cons qe_int qa_nil)))) qa_nil)) (pg_name (i := 3) S.nd rfl (by first | exact Or.inl rfl | exact Or.inr rfl)) (qss_one (qs_app 2 rfl (pe_bm PySem.F.plainAttrs_list PySem.F.slot_list_append PySem.F.type_list_append mt_append (pv 2) (pa_cons (qe_add qe_int (qe_sub_ rfl (qe_frz (qn_lst (qa_cons (qe_call c_law_take rfl hr (by decide) (qa_cons (qv 0) (qa_cons (qe_min rfl b.min_ (qa_cons qe_int (qa_cons (qe_sub (qv 1) qe_int) qa_nil))) qa_nil))) (qa_cons (qe_call c_law_take rfl hr (by decide) (qa_cons (qv 0) (qa_cons (qe_sub (qv 1) qe_int) qa_nil))) qa_nil)))) (qe_call c_law_take rfl hr (by decide) (qa_cons (qv 0) (qa_cons qe_int qa_nil))))) pa_nil)))))
  (qss_one (qs_ret (qe_tuple rfl b.tuple_ (qa_cons (qv 2) qa_nil))))))) hd_law_kinds
theorem sc_law_far_draw : FnScope ["bag", "many", "found", "much"] ["bag", "many"] (defScope st_law_far_draw) := ⟨rfl, rfl, rfl, by decide +kernel, rfl, by decide +kernel, by decide +kernel⟩
theorem cal_law_far_draw (b : Bt mg) (d : Def Z.K mg "_law_far_draw" st_law_far_draw ["bag", "many"]) (c_law_take : Cal Z P w mg base 1 "_law_take" ["bag", "many"] wf_law_take) : Cal Z P w mg base 2 "_law_far_draw" ["bag", "many"] wf_law_far_draw := by
  have S := sc_law_far_draw
  exact d.cal S len_law_far_draw (fun f cdv A outer s H E hr => (qss_cons (qs_par 2 3 rfl S.nd rfl rfl (by decide) rfl rfl (qa_cons qe_int (qa_cons (qv 1) qa_nil)) (by rfl))
  (qss_cons (qs_while PassesOwn.never (qt_gt (qv 3) qe_int) (qss_one (qs_par 2 3 rfl S.nd rfl rfl (by decide) rfl rfl (qa_cons (qe_add (qe_mul qe_int (qv 2)) (qe_call c_law_take rfl hr (by decide) (qa_cons (qv 0) (qa_cons qe_int qa_nil)))) (qa_cons (qe_fdiv (qv 3) qe_int) qa_nil)) (by rfl))))
  (qss_one (qs_ret (qe_sub_ rfl (qe_frz (qn_lst (qa_cons (qe_mod (qv 2) (qv 1)) (qa_cons qe_int (qa_cons (qe_sub (qv 1) qe_int) (qa_cons (qe_mod (qv 2) (qv 1)) qa_nil)))))) (qe_call c_law_take rfl hr (by decide) (qa_cons (qv 0) (qa_cons qe_int qa_nil))))))))) hd_law_far_draw
theorem sc_law_stamps_for : FnScope ["bag", "kinds", "far", "one"] ["bag", "kinds", "far"] (defScope st_law_stamps_for) := ⟨rfl, rfl, rfl, by decide +kernel, rfl, by decide +kernel, by decide +kernel⟩
theorem cal_law_stamps_for (b : Bt mg) (d : Def Z.K mg "_law_stamps_for" st_law_stamps_for ["bag", "kinds", "far"]) (c_law_far_draw : Cal Z P w mg base 2 "_law_far_draw" ["bag", "many"] wf_law_far_draw) (c_law_take : Cal Z P w mg base 1 "_law_take" ["bag", "many"] wf_law_take) : Cal Z P w mg base 3 "_law_stamps_for" ["bag", "kinds", "far"] wf_law_stamps_for := by
  have S := sc_law_stamps_for
  exact d.cal S len_law_stamps_for (fun f cdv A outer s H E hr => (qss_one (qs_ret (qe_tuple rfl b.tuple_ (qa_cons (qe_frz (qn_lc [("one", 3)] rfl S.nd (qi_tup rfl (qv 1)) (blkOk_by (own := [("one", 3)]) (N := ["bag", "kinds", "far", "one"]) (sc := defScope st_law_stamps_for) (by decide +kernel)) gs_name (by decide) (fun _ _ _ _ _ => (pg_name (i := 3) S.nd rfl (by first | exact Or.inl rfl | exact Or.inr rfl))) (fun _ _ _ _ _ => qts_nil) (fun _ _ _ _ _ => (qe_sub_ rfl (qe_frz (qn_lst (qa_cons qe_int (qa_cons (qe_call c_law_far_draw rfl hr (by decide) (qa_cons (qv 0) (qa_cons (qe_add (qv 2) qe_int) qa_nil))) qa_nil)))) (qe_call c_law_take rfl hr (by decide) (qa_cons (qv 0) (qa_cons qe_int qa_nil))))))) qa_nil))))) hd_law_stamps_for
theorem sc_law_had : FnScope ["bag", "kinds", "far"] ["bag", "kinds", "far"] (defScope st_law_had) := ⟨rfl, rfl, rfl, by decide +kernel, rfl, by decide +kernel, by decide +kernel⟩
theorem cal_law_had (b : Bt mg) (d : Def Z.K mg "_law_had" st_law_had ["bag", "kinds", "far"]) (c_law_stamps_for : Cal Z P w mg base 3 "_law_stamps_for" ["bag", "kinds", "far"] wf_law_stamps_for) (c_law_far_draw : Cal Z P w mg base 2 "_law_far_draw" ["bag", "many"] wf_law_far_draw) : Cal Z P w mg base 4 "_law_had" ["bag", "kinds", "far"] wf_law_had := by
  have S := sc_law_had
  exact d.cal S len_law_had (fun f cdv A outer s H E hr => (qss_one (qs_ret (qe_tup (qa_cons (qe_call c_law_far_draw rfl hr (by decide) (qa_cons (qv 0) (qa_cons (qe_add (qv 2) qe_int) qa_nil))) (qa_cons (qe_call c_law_stamps_for rfl hr (by decide) (qa_cons (qv 0) (qa_cons (qv 1) (qa_cons (qv 2) qa_nil)))) qa_nil)))))) hd_law_had
theorem sc_is_within : FnScope ["thing", "low", "high"] ["thing", "low", "high"] (defScope st_is_within) := ⟨rfl, rfl, rfl, by decide +kernel, rfl, by decide +kernel, by decide +kernel⟩
theorem cal_is_within (b : Bt mg) (d : Def Z.K mg "is_within" st_is_within ["thing", "low", "high"]) : Cal Z P w mg base 1 "is_within" ["thing", "low", "high"] wf_is_within := by
  have S := sc_is_within
  exact d.cal S len_is_within (fun f cdv A outer s H E hr => (qss_one (qs_ret (qe_and (qe_isi_int rfl b.isinstance_ b.int_ (qv 0)) (qe_and (qe_not (qe_isi_bool rfl b.isinstance_ b.bool_ (qv 0))) (qe_one (qe_leLe (qv 1) (qv 0) (qv 2)))))))) hd_is_within
theorem sc_are_cards : FnScope ["thing", "one"] ["thing"] (defScope st_are_cards) := ⟨rfl, rfl, rfl, by decide +kernel, rfl, by decide +kernel, by decide +kernel⟩
theorem cal_are_cards (b : Bt mg) (d : Def Z.K mg "are_cards" st_are_cards ["thing"]) (c_is_within : Cal Z P w mg base 1 "is_within" ["thing", "low", "high"] wf_is_within) : Cal Z P w mg base 2 "are_cards" ["thing"] wf_are_cards := by
  have S := sc_are_cards
  exact d.cal S len_are_cards (fun f cdv A outer s H E hr => (qss_cons (qs_if (PW.pt (qw_or (qt_not (qt_val (qe_isi_tuple rfl b.isinstance_ b.tuple_ (qv 0)))) (qw_or1 (qt_not (qt_leLe qe_int (qe_len rfl b.len_ (qa_cons (qv 0) qa_nil)) qe_int))))) (qss_one (qs_ret qe_bl)) qss_nil)
  (qss_one (qs_ret (qe_all rfl rfl b.all_ (qa_cons (qe_frz (qn_lc [("one", 1)] rfl S.nd (qi_tup rfl (qv 0)) (blkOk_by (own := [("one", 1)]) (N := ["thing", "one"]) (sc := defScope st_are_cards) (by decide +kernel)) gs_name (by decide) (fun _ _ _ _ _ => (pg_name (i := 1) S.nd rfl (by first | exact Or.inl rfl | exact Or.inr rfl))) (fun _ _ _ _ _ => qts_nil) (fun _ _ _ _ _ => (qe_call c_is_within rfl hr (by decide) (qa_cons (qv 1) (qa_cons qe_int (qa_cons qe_int qa_nil))))))) qa_nil)))))) hd_are_cards
theorem sc_need_cards : FnScope ["cards"] ["cards"] (defScope st_need_cards) := ⟨rfl, rfl, rfl, by decide +kernel, rfl, by decide +kernel, by decide +kernel⟩
theorem cal_need_cards (b : Bt mg) (d : Def Z.K mg "need_cards" st_need_cards ["cards"]) (c_are_cards : Cal Z P w mg base 2 "are_cards" ["thing"] wf_are_cards) : Cal Z P w mg base 3 "need_cards" ["cards"] wf_need_cards := by
  have S := sc_need_cards
  exact d.cal S len_need_cards (fun f cdv A outer s H E hr => (qss_one (qs_if (qt_not (qt_val (qe_call c_are_cards rfl hr (by decide) (qa_cons (qv 0) qa_nil)))) (qss_one qs_never) qss_nil))) hd_need_cards
theorem sc_are_stamps : FnScope ["cards", "thing", "one"] ["cards", "thing"] (defScope st_are_stamps) := ⟨rfl, rfl, rfl, by decide +kernel, rfl, by decide +kernel, by decide +kernel⟩
theorem cal_are_stamps (b : Bt mg) (d : Def Z.K mg "are_stamps" st_are_stamps ["cards", "thing"]) (c_is_within : Cal Z P w mg base 1 "is_within" ["thing", "low", "high"] wf_is_within) : Cal Z P w mg base 2 "are_stamps" ["cards", "thing"] wf_are_stamps := by
  have S := sc_are_stamps
  exact d.cal S len_are_stamps (fun f cdv A outer s H E hr => (qss_cons (qs_if (PW.pt (qw_or (qt_not (qt_val (qe_isi_tuple rfl b.isinstance_ b.tuple_ (qv 1)))) (qw_or1 (qt_ne rfl hr.units (qe_len rfl b.len_ (qa_cons (qv 1) qa_nil)) (qe_len rfl b.len_ (qa_cons (qv 0) qa_nil)))))) (qss_one (qs_ret qe_bl)) qss_nil)
  (qss_one (qs_ret (qe_all rfl rfl b.all_ (qa_cons (qe_frz (qn_lc [("one", 2)] rfl S.nd (qi_tup rfl (qv 1)) (blkOk_by (own := [("one", 2)]) (N := ["cards", "thing", "one"]) (sc := defScope st_are_stamps) (by decide +kernel)) gs_name (by decide) (fun _ _ _ _ _ => (pg_name (i := 2) S.nd rfl (by first | exact Or.inl rfl | exact Or.inr rfl))) (fun _ _ _ _ _ => qts_nil) (fun _ _ _ _ _ => (qe_call c_is_within rfl hr (by decide) (qa_cons (qv 2) (qa_cons qe_int (qa_cons (qe_globI (i := 1000000000000000000) rfl b.g_FAR.choose_spec) qa_nil))))))) qa_nil)))))) hd_are_stamps
theorem sc_is_all_purse : FnScope ["cards", "thing"] ["cards", "thing"] (defScope st_is_all_purse) := ⟨rfl, rfl, rfl, by decide +kernel, rfl, by decide +kernel, by decide +kernel⟩
theorem cal_is_all_purse (b : Bt mg) (d : Def Z.K mg "is_all_purse" st_is_all_purse ["cards", "thing"]) (c_is_within : Cal Z P w mg base 1 "is_within" ["thing", "low", "high"] wf_is_within) (c_are_stamps : Cal Z P w mg base 2 "are_stamps" ["cards", "thing"] wf_are_stamps) : Cal Z P w mg base 3 "is_all_purse" ["cards", "thing"] wf_is_all_purse := by
  have S := sc_is_all_purse
  exact d.cal S len_is_all_purse (fun f cdv A outer s H E hr => (qss_cons (qs_if (PW.pt (qw_or (qt_not (qt_val (qe_isi_tuple rfl b.isinstance_ b.tuple_ (qv 1)))) (qw_or (qt_ne rfl hr.units (qe_len rfl b.len_ (qa_cons (qv 1) qa_nil)) qe_int) (qw_or1 (qt_not (qt_val (qe_call c_is_within rfl hr (by decide) (qa_cons (qe_sub_ rfl (qv 1) qe_int) (qa_cons qe_int (qa_cons (qe_globI (i := 1000000000000000000) rfl b.g_FAR.choose_spec) qa_nil)))))))))) (qss_one (qs_ret qe_bl)) qss_nil)
  (qss_one (qs_ret (qe_call c_are_stamps rfl hr (by decide) (qa_cons (qv 0) (qa_cons (qe_sub_ rfl (qv 1) qe_int) qa_nil))))))) hd_is_all_purse
theorem sc_need_purse : FnScope ["cards", "purse"] ["cards", "purse"] (defScope st_need_purse) := ⟨rfl, rfl, rfl, by decide +kernel, rfl, by decide +kernel, by decide +kernel⟩
theorem cal_need_purse (b : Bt mg) (d : Def Z.K mg "need_purse" st_need_purse ["cards", "purse"]) (c_need_cards : Cal Z P w mg base 3 "need_cards" ["cards"] wf_need_cards) (c_is_all_purse : Cal Z P w mg base 3 "is_all_purse" ["cards", "thing"] wf_is_all_purse) : Cal Z P w mg base 4 "need_purse" ["cards", "purse"] wf_need_purse := by
  have S := sc_need_purse
  exact d.cal S len_need_purse (fun f cdv A outer s H E hr => (qss_cons (qs_expr (qe_call c_need_cards rfl hr (by decide) (qa_cons (qv 0) qa_nil)))
  (qss_one (qs_if (qt_not (qt_val (qe_call c_is_all_purse rfl hr (by decide) (qa_cons (qv 0) (qa_cons (qv 1) qa_nil))))) (qss_one qs_never) qss_nil)))) hd_need_purse
theorem sc_Kept_init : FnScope ["self", "cards", "purse"] ["self", "cards", "purse"] (defScope st_Kept_init) := ⟨rfl, rfl, rfl, by decide +kernel, rfl, by decide +kernel, by decide +kernel⟩
theorem cal_Kept_init (zo : ZO Z C) (fl : Fld Z.K C) (b : Bt mg) {f : Addr} {fd : FuncData} (F : Fun Z.K "__init__" "Kept.__init__" st_Kept_init f fd) (mk : Mk Z.K C f) (hm : mg "Kept" = some (.ref C)) (bi : Binds Z.K fd ["self", "cards", "purse"] []) (c_need_purse : Cal Z P w mg base 4 "need_purse" ["cards", "purse"] wf_need_purse) : Ini2 cl Z C P w mg base 5 "Kept" ["self", "cards", "purse"] wi_Kept_init := by
  have S := sc_Kept_init
  exact ini2_of F mk fl hm bi S rfl rfl (fun f cdv A outer s H E xp hr => pss_cons (ps_expr (qeX_of (qe_call c_need_purse rfl hr (by decide) (qa_cons (qv 1) (qa_cons (qv 2) qa_nil))))) (pss_cons (ps_fld (pv 0) (pv 1) rfl) (pss_one (ps_fld (pv 0) (pe_lst (pa_cons (pe_tup (pa_cons (pv 2) (pa_cons pe_int (pa_cons pe_int pa_nil)))) pa_nil)) rfl))))
theorem sc_law_step : FnScope ["kinds", "had", "deed", "rides", "stamps", "one"] ["kinds", "had", "deed"] (defScope st_law_step) := ⟨rfl, rfl, rfl, by decide +kernel, rfl, by decide +kernel, by decide +kernel⟩
theorem cal_law_step (b : Bt mg) (d : Def Z.K mg "_law_step" st_law_step ["kinds", "had", "deed"]) : Cal Z P w mg base 1 "_law_step" ["kinds", "had", "deed"] wf_law_step := by
  have S := sc_law_step
  exact d.cal S len_law_step (fun f cdv A outer s H E hr => (qss_cons (qs_parN 3 4 rfl S.nd rfl rfl (by decide) rfl rfl (qe_sub_ rfl (qv 1) qe_int) (qn_list rfl b.list_ (qa_cons (qe_sub_ rfl (qv 1) qe_int) qa_nil)) (by rfl))
  (qss_cons (qs_if (qt_eq rfl hr.units (qv 2) qe_str) (qss_frz 4 (qss_one (qs_ret (qe_ifExp (qt_gt (qv 3) qe_int) (qe_tup (qa_cons (qe_sub (qv 3) qe_int) (qa_cons (qe_tuple rfl b.tuple_ (qa_cons (qe_frz (qn_lc [("one", 5)] rfl S.nd (qi_lst rfl (qv 4)) (blkOk_by (own := [("one", 5)]) (N := ["kinds", "had", "deed", "rides", "stamps", "one"]) (sc := defScope st_law_step) (by decide +kernel)) gs_name (by decide) (fun _ _ _ _ _ => (pg_name (i := 5) S.nd rfl (by first | exact Or.inl rfl | exact Or.inr rfl))) (fun _ _ _ _ _ => qts_nil) (fun _ _ _ _ _ => (qe_add (qv 5) qe_int)))) qa_nil)) qa_nil))) qe_non)))) qss_nil)
  (qss_cons (qs_if (qt_lt (qe_sub_ rfl (qv 4) (qv 2)) (qe_sub_ rfl (qv 0) (qv 2))) (qss_one (qs_ret qe_non)) qss_nil)
  (qss_cons (qs_setI 4 (qe_sub (qe_sub_ rfl (qv 4) (qv 2)) (qe_sub_ rfl (qv 0) (qv 2))) (pg_sub (pv 4) (qv 2) set_list))
  (qss_one (qs_ret (qe_tup (qa_cons (qe_add (qv 3) qe_int) (qa_cons (qe_tuple rfl b.tuple_ (qa_cons (qv 4) qa_nil)) qa_nil)))))))))) hd_law_step
theorem sc_law_from : FnScope ["thing", "least", "top"] ["thing", "least", "top"] (defScope st_law_from) := ⟨rfl, rfl, rfl, by decide +kernel, rfl, by decide +kernel, by decide +kernel⟩
theorem cal_law_from (b : Bt mg) (d : Def Z.K mg "_law_from" st_law_from ["thing", "least", "top"]) : Cal Z P w mg base 1 "_law_from" ["thing", "least", "top"] wf_law_from := by
  have S := sc_law_from
  exact d.cal S len_law_from (fun f cdv A outer s H E hr => (qss_one (qs_ret (qe_and (qe_isi_int rfl b.isinstance_ b.int_ (qv 0)) (qe_and (qe_not (qe_isi_bool rfl b.isinstance_ b.bool_ (qv 0))) (qe_and (qe_le (qv 1) (qv 0)) (qe_one (qe_le (qv 0) (qv 2))))))))) hd_law_from
theorem sc_law_after : FnScope ["kinds", "state", "deed", "word", "number", "had", "ridden", "lent_so", "there"] ["kinds", "state", "deed"] (defScope st_law_after) := ⟨rfl, rfl, rfl, by decide +kernel, rfl, by decide +kernel, by decide +kernel⟩
theorem cal_law_after (b : Bt mg) (d : Def Z.K mg "_law_after" st_law_after ["kinds", "state", "deed"]) (c_law_step : Cal Z P w mg base 1 "_law_step" ["kinds", "had", "deed"] wf_law_step) (c_law_from : Cal Z P w mg base 1 "_law_from" ["thing", "least", "top"] wf_law_from) : Cal Z P w mg base 2 "_law_after" ["kinds", "state", "deed"] wf_law_after := by
  have S := sc_law_after
  exact d.cal S len_law_after (fun f cdv A outer s H E hr => (qss_cons (qs_asg (gs_names (is := [3, 4]) rfl rfl) (qv 2) (pg_tup rfl (pgs_cons (pg_name (i := 3) S.nd rfl (by first | exact Or.inl rfl | exact Or.inr rfl)) (pgs_cons (pg_name (i := 4) S.nd rfl (by first | exact Or.inl rfl | exact Or.inr rfl)) pgs_nil))))
  (qss_cons (qs_asg (gs_names (is := [5, 6, 7]) rfl rfl) (qv 1) (pg_tup rfl (pgs_cons (pg_name (i := 5) S.nd rfl (by first | exact Or.inl rfl | exact Or.inr rfl)) (pgs_cons (pg_name (i := 6) S.nd rfl (by first | exact Or.inl rfl | exact Or.inr rfl)) (pgs_cons (pg_name (i := 7) S.nd rfl (by first | exact Or.inl rfl | exact Or.inr rfl)) pgs_nil)))))
  (qss_cons (qs_if (qt_eq rfl hr.units (qv 3) qe_str) (qss_cons (qs_set 8 S.nd rfl (by first | exact Or.inl rfl | exact Or.inr rfl) (qe_call c_law_step rfl hr (by decide) (qa_cons (qv 0) (qa_cons (qv 5) (qa_cons qe_str qa_nil)))))
  (qss_one (qs_ret (qe_ifExp (qt_notN (qv 8) qe_non) (qe_tup (qa_cons (qv 8) (qa_cons (qe_add (qv 6) qe_int) (qa_cons (qv 7) qa_nil)))) (qe_frz (qn_lst (qa_cons qe_str (qa_cons qe_bl qa_nil)))))))) qss_nil)
  (qss_cons (qs_if (qt_eq rfl hr.units (qv 3) qe_str) (qss_cons (qs_if (qt_not (qt_val (qe_call c_law_from rfl hr (by decide) (qa_cons (qv 4) (qa_cons qe_int (qa_cons (qe_sub (qe_len rfl b.len_ (qa_cons (qv 0) qa_nil)) qe_int) qa_nil)))))) (qss_one (qs_ret (qe_frz (qn_lst (qa_cons qe_str (qa_cons qe_bl qa_nil)))))) qss_nil)
  (qss_cons (qs_set 8 S.nd rfl (by first | exact Or.inl rfl | exact Or.inr rfl) (qe_call c_law_step rfl hr (by decide) (qa_cons (qv 0) (qa_cons (qv 5) (qa_cons (qv 4) qa_nil)))))
  (qss_one (qs_ret (qe_ifExp (qt_notN (qv 8) qe_non) (qe_tup (qa_cons (qv 8) (qa_cons (qv 6) (qa_cons (qv 7) qa_nil)))) (qe_frz (qn_lst (qa_cons qe_str (qa_cons (qv 4) (qa_cons qe_bl qa_nil)))))))))) qss_nil)
  (qss_cons (qs_if (qt_not (qt_val (qe_call c_law_from rfl hr (by decide) (qa_cons (qv 4) (qa_cons qe_int (qa_cons (qe_pow qe_int qe_int) qa_nil)))))) (qss_one (qs_ret (qe_frz (qn_lst (qa_cons qe_str (qa_cons qe_bl qa_nil)))))) qss_nil)
  (qss_cons (qs_if (qt_eq rfl hr.units (qv 3) qe_str) (qss_one (qs_ret (qe_tup (qa_cons (qe_tup (qa_cons (qe_add (qe_sub_ rfl (qv 5) qe_int) (qv 4)) (qa_cons (qe_sub_ rfl (qv 5) qe_int) qa_nil))) (qa_cons (qv 6) (qa_cons (qe_add (qv 7) (qv 4)) qa_nil)))))) qss_nil)
  (qss_cons (qs_if (qt_gt (qv 4) (qv 7)) (qss_one (qs_ret (qe_frz (qn_lst (qa_cons qe_str (qa_cons qe_bl qa_nil)))))) qss_nil)
  (qss_one (qs_ret (qe_ifExp (qt_le (qv 4) (qe_sub_ rfl (qv 5) qe_int)) (qe_tup (qa_cons (qe_tup (qa_cons (qe_sub (qe_sub_ rfl (qv 5) qe_int) (qv 4)) (qa_cons (qe_sub_ rfl (qv 5) qe_int) qa_nil))) (qa_cons (qv 6) (qa_cons (qe_sub (qv 7) (qv 4)) qa_nil)))) (qe_frz (qn_lst (qa_cons qe_str (qa_cons qe_bl qa_nil))))))))))))))) hd_law_after
theorem sc_done : FnScope ["cards", "purse", "deed", "rides", "stamps", "one"] ["cards", "purse", "deed"] (defScope st_done) := ⟨rfl, rfl, rfl, by decide +kernel, rfl, by decide +kernel, by decide +kernel⟩
theorem cal_done (b : Bt mg) (d : Def Z.K mg "done" st_done ["cards", "purse", "deed"]) : Cal Z P w mg base 1 "done" ["cards", "purse", "deed"] wf_done := by
  have S := sc_done
  exact d.cal S len_done (fun f cdv A outer s H E hr => (qss_cons (qs_asg (gs_names (is := [3, 4]) rfl rfl) (qv 1) (pg_tup rfl (pgs_cons (pg_name (i := 3) S.nd rfl (by first | exact Or.inl rfl | exact Or.inr rfl)) (pgs_cons (pg_name (i := 4) S.nd rfl (by first | exact Or.inl rfl | exact Or.inr rfl)) pgs_nil))))
  (qss_cons (qs_if (qt_eq rfl hr.units (qv 2) qe_str) (qss_one (qs_ret (qe_ifExp (qt_gt (qv 3) qe_int) (qe_tup (qa_cons (qe_sub (qv 3) qe_int) (qa_cons (qe_tuple rfl b.tuple_ (qa_cons (qe_frz (qn_lc [("one", 5)] rfl S.nd (qi_tup rfl (qv 4)) (blkOk_by (own := [("one", 5)]) (N := ["cards", "purse", "deed", "rides", "stamps", "one"]) (sc := defScope st_done) (by decide +kernel)) gs_name (by decide) (fun _ _ _ _ _ => (pg_name (i := 5) S.nd rfl (by first | exact Or.inl rfl | exact Or.inr rfl))) (fun _ _ _ _ _ => qts_nil) (fun _ _ _ _ _ => (qe_add (qv 5) qe_int)))) qa_nil)) qa_nil))) qe_non))) qss_nil)
  (qss_cons (qs_if (qt_lt (qe_sub_ rfl (qv 4) (qv 2)) (qe_sub_ rfl (qv 0) (qv 2))) (qss_one (qs_ret qe_non)) qss_nil)
  (qss_one (qs_ret (qe_tup (qa_cons (qe_add (qv 3) qe_int) (qa_cons (qe_catT rfl (qe_catT rfl (qe_slT rfl (qv 4) qo_none (qo_some (qv 2))) (qe_tup (qa_cons (qe_sub (qe_sub_ rfl (qv 4) (qv 2)) (qe_sub_ rfl (qv 0) (qv 2))) qa_nil))) (qe_slT rfl (qv 4) (qo_some (qe_add (qv 2) qe_int)) qo_none)) qa_nil))))))))) hd_done
theorem sc_Kept_ride : FnScope ["self", "purse", "ridden", "lent"] ["self"] (defScope st_Kept_ride) := ⟨rfl, rfl, rfl, by decide +kernel, rfl, by decide +kernel, by decide +kernel⟩
theorem cal_Kept_ride (zo : ZO Z C) (fl : Fld Z.K C) (kc : KCls Z.K mg C) (b : Bt mg) {f : Addr} {fd : FuncData} (F : Fun Z.K "ride" "Kept.ride" st_Kept_ride f fd) (hm : Meth Z.K C "ride" f) (bi : Binds Z.K fd ["self"] []) (c_done : Cal Z P w mg base 1 "done" ["cards", "purse", "deed"] wf_done) (e_NoRide : ErrC Z.K mg "NoRide" (cl 7)) : Met cl Z C P w mg base 2 "ride" ["self"] wm_Kept_ride := by
  have S := sc_Kept_ride
  exact met_of F fl.cls hm bi S len_Kept_ride (fun f cdv A outer s H E xp hr => (rss_cons (rs_asg (gs_names (is := [1, 2, 3]) rfl rfl) (re_past zo 0 fl rfl (pv 0)) (pg_tup rfl (pgs_cons (pg_name (i := 1) S.nd rfl (by first | exact Or.inl rfl | exact Or.inr rfl)) (pgs_cons (pg_name (i := 2) S.nd rfl (by first | exact Or.inl rfl | exact Or.inr rfl)) (pgs_cons (pg_name (i := 3) S.nd rfl (by first | exact Or.inl rfl | exact Or.inr rfl)) pgs_nil)))))
  (rss_cons (rs_if (rt_lift (qt_eq rfl hr.units (qe_sub_ rfl (qv 1) qe_int) qe_int)) (rss_one (rs_raise 7 rfl (L2N.takes_of rfl rfl rfl rfl) e_NoRide)) rss_nil)
  (rss_one (rs_push zo 0 fl rfl (pe_bm PySem.F.plainAttrs_list PySem.F.slot_list_append PySem.F.type_list_append mt_append (pe_fld (pv 0) rfl) (pa_cons (re_tup (ra_cons (re_call c_done rfl hr (by decide) (ra_cons (re_cards zo 0 fl (pv 0)) (ra_cons (re_lift (qv 1)) (ra_cons (re_lift qe_str) ra_nil)))) (ra_cons (re_lift (qe_add (qv 2) qe_int)) (ra_cons (re_lift (qv 3)) ra_nil)))) pa_nil))))))) hd_Kept_ride
theorem sc_TooFew_init : FnScope ["self", "kind"] ["self", "kind"] (defScope st_TooFew_init) := ⟨rfl, rfl, rfl, by decide +kernel, rfl, by decide +kernel, by decide +kernel⟩
theorem cal_TooFew_init {f : Addr} {fd : FuncData} (F : Fun Z.K "__init__" "TooFew.__init__" st_TooFew_init f fd) (T : OexC Z.K (cl 11)) (nk : PySem.W.findIn Z.K (.ref (cl 11)) "kind" = some none) {R : Addr} {mc : Value} (hm : mg "RideError" = some (.ref R)) (sR : PySem.W.specialIn Z.K (.ref R) "__getattribute__" = some (some (.builtin "type.__getattribute__"))) (rd : PySem.W.readsIn Z.K R mc = true) (fR : PySem.W.findCls Z.K (.ref R) mc "__init__" = some (.val (.builtin "ValueError.__init__"))) : FnOk P w Z.K mg base CX0 1 f fd ["self", "kind"] (spTF (cl 11)) := by
  have S := sc_TooFew_init
  exact tf_of F T nk S rfl rfl (fun f cdv A outer s H E hr => pss_cons (ps_expr (pe_rinit rfl hm rfl sR rd fR (pa_cons (pv 0) (pa_cons pe_str pa_nil)))) (pss_one (ps_ost (pv 0) (pv 1))))
theorem sc_Kept_give : FnScope ["self", "kind", "purse", "ridden", "lent"] ["self", "kind"] (defScope st_Kept_give) := ⟨rfl, rfl, rfl, by decide +kernel, rfl, by decide +kernel, by decide +kernel⟩
theorem cal_Kept_give (zo : ZO Z C) (fl : Fld Z.K C) (kc : KCls Z.K mg C) (b : Bt mg) {f : Addr} {fd : FuncData} (F : Fun Z.K "give" "Kept.give" st_Kept_give f fd) (hm : Meth Z.K C "give" f) (bi : Binds Z.K fd ["self", "kind"] []) (c_is_within : Cal Z P w mg base 1 "is_within" ["thing", "low", "high"] wf_is_within) (tf : TooF cl P w Z.K mg base 1 "TooFew") (c_done : Cal Z P w mg base 1 "done" ["cards", "purse", "deed"] wf_done) (e_NoKind : ErrC Z.K mg "NoKind" (cl 8)) : Met cl Z C P w mg base 3 "give" ["self", "kind"] wm_Kept_give := by
  have S := sc_Kept_give
  exact met_of F fl.cls hm bi S len_Kept_give (fun f cdv A outer s H E xp hr => (rss_cons (rs_asg (gs_names (is := [2, 3, 4]) rfl rfl) (re_past zo 0 fl rfl (pv 0)) (pg_tup rfl (pgs_cons (pg_name (i := 2) S.nd rfl (by first | exact Or.inl rfl | exact Or.inr rfl)) (pgs_cons (pg_name (i := 3) S.nd rfl (by first | exact Or.inl rfl | exact Or.inr rfl)) (pgs_cons (pg_name (i := 4) S.nd rfl (by first | exact Or.inl rfl | exact Or.inr rfl)) pgs_nil)))))
  (rss_cons (rs_if (rt_not (rt_val (re_call c_is_within rfl hr (by decide) (ra_cons (re_lift (qv 1)) (ra_cons (re_lift qe_int) (ra_cons (re_sub (re_len rfl b.len_ (ra_cons (re_cards zo 0 fl (pv 0)) ra_nil)) (re_lift qe_int)) ra_nil)))))) (rss_one (rs_raise 8 rfl (L2N.takes_of rfl rfl rfl rfl) e_NoKind)) rss_nil)
  (rss_cons (rs_if (rt_lt (re_lift (qe_sub_ rfl (qe_sub_ rfl (qv 2) qe_int) (qv 1))) (re_sub_ rfl (re_cards zo 0 fl (pv 0)) (re_lift (qv 1)))) (rss_one (rs_raiseK rfl (L2N.takes_of rfl rfl rfl rfl) tf hr (by decide) (qv 1))) rss_nil)
  (rss_one (rs_push zo 0 fl rfl (pe_bm PySem.F.plainAttrs_list PySem.F.slot_list_append PySem.F.type_list_append mt_append (pe_fld (pv 0) rfl) (pa_cons (re_tup (ra_cons (re_call c_done rfl hr (by decide) (ra_cons (re_cards zo 0 fl (pv 0)) (ra_cons (re_lift (qv 2)) (ra_cons (re_lift (qv 1)) ra_nil)))) (ra_cons (re_lift (qv 3)) (ra_cons (re_lift (qv 4)) ra_nil)))) pa_nil)))))))) hd_Kept_give
theorem sc_Kept_lend : FnScope ["self", "number", "purse", "ridden", "lent"] ["self", "number"] (defScope st_Kept_lend) := ⟨rfl, rfl, rfl, by decide +kernel, rfl, by decide +kernel, by decide +kernel⟩
theorem cal_Kept_lend (zo : ZO Z C) (fl : Fld Z.K C) (kc : KCls Z.K mg C) (b : Bt mg) {f : Addr} {fd : FuncData} (F : Fun Z.K "lend" "Kept.lend" st_Kept_lend f fd) (hm : Meth Z.K C "lend" f) (bi : Binds Z.K fd ["self", "number"] []) (c_is_within : Cal Z P w mg base 1 "is_within" ["thing", "low", "high"] wf_is_within) (e_NoNumber : ErrC Z.K mg "NoNumber" (cl 4)) : Met cl Z C P w mg base 2 "lend" ["self", "number"] wm_Kept_lend := by
  have S := sc_Kept_lend
  exact met_of F fl.cls hm bi S len_Kept_lend (fun f cdv A outer s H E xp hr => (rss_cons (rs_asg (gs_names (is := [2, 3, 4]) rfl rfl) (re_past zo 0 fl rfl (pv 0)) (pg_tup rfl (pgs_cons (pg_name (i := 2) S.nd rfl (by first | exact Or.inl rfl | exact Or.inr rfl)) (pgs_cons (pg_name (i := 3) S.nd rfl (by first | exact Or.inl rfl | exact Or.inr rfl)) (pgs_cons (pg_name (i := 4) S.nd rfl (by first | exact Or.inl rfl | exact Or.inr rfl)) pgs_nil)))))
  (rss_cons (rs_if (rt_lift (qt_not (qt_val (qe_call c_is_within rfl hr (by decide) (qa_cons (qv 1) (qa_cons qe_int (qa_cons (qe_globI (i := 1000000000000000000) rfl b.g_FAR.choose_spec) qa_nil))))))) (rss_one (rs_raise 4 rfl (L2N.takes_of rfl rfl rfl rfl) e_NoNumber)) rss_nil)
  (rss_one (rs_push zo 0 fl rfl (pe_bm PySem.F.plainAttrs_list PySem.F.slot_list_append PySem.F.type_list_append mt_append (pe_fld (pv 0) rfl) (pa_cons (re_lift (qe_tup (qa_cons (qe_tup (qa_cons (qe_add (qe_sub_ rfl (qv 2) qe_int) (qv 1)) (qa_cons (qe_sub_ rfl (qv 2) qe_int) qa_nil))) (qa_cons (qv 3) (qa_cons (qe_add (qv 4) (qv 1)) qa_nil))))) pa_nil))))))) hd_Kept_lend
theorem sc_Kept_back : FnScope ["self"] ["self"] (defScope st_Kept_back) := ⟨rfl, rfl, rfl, by decide +kernel, rfl, by decide +kernel, by decide +kernel⟩
theorem cal_Kept_back (zo : ZO Z C) (fl : Fld Z.K C) (kc : KCls Z.K mg C) (b : Bt mg) {f : Addr} {fd : FuncData} (F : Fun Z.K "back" "Kept.back" st_Kept_back f fd) (hm : Meth Z.K C "back" f) (bi : Binds Z.K fd ["self"] []) (e_NothingLeft : ErrC Z.K mg "NothingLeft" (cl 10)) : Met cl Z C P w mg base 1 "back" ["self"] wm_Kept_back := by
  have S := sc_Kept_back
  exact met_of F fl.cls hm bi S len_Kept_back (fun f cdv A outer s H E xp hr => (rss_cons (rs_if (rt_eq rfl hr.units (re_lenP zo 0 fl b.len_ (pv 0)) (re_lift qe_int)) (rss_one (rs_raise 10 rfl (L2N.takes_of rfl rfl rfl rfl) e_NothingLeft)) rss_nil)
  (rss_one (rs_pop zo 0 fl (pe_bm0 PySem.F.plainAttrs_list PySem.F.slot_list_pop PySem.F.type_list_pop mt_pop (pe_fld (pv 0) rfl)))))) hd_Kept_back
theorem sc_Kept_pay : FnScope ["self", "number", "purse", "ridden", "lent"] ["self", "number"] (defScope st_Kept_pay) := ⟨rfl, rfl, rfl, by decide +kernel, rfl, by decide +kernel, by decide +kernel⟩
theorem cal_Kept_pay (zo : ZO Z C) (fl : Fld Z.K C) (kc : KCls Z.K mg C) (b : Bt mg) {f : Addr} {fd : FuncData} (F : Fun Z.K "pay" "Kept.pay" st_Kept_pay f fd) (hm : Meth Z.K C "pay" f) (bi : Binds Z.K fd ["self", "number"] []) (c_is_within : Cal Z P w mg base 1 "is_within" ["thing", "low", "high"] wf_is_within) (e_NoLoan : ErrC Z.K mg "NoLoan" (cl 9)) (e_NoNumber : ErrC Z.K mg "NoNumber" (cl 4)) (e_NoRide : ErrC Z.K mg "NoRide" (cl 7)) : Met cl Z C P w mg base 2 "pay" ["self", "number"] wm_Kept_pay := by
  have S := sc_Kept_pay
  exact met_of F fl.cls hm bi S len_Kept_pay (fun f cdv A outer s H E xp hr => (rss_cons (rs_asg (gs_names (is := [2, 3, 4]) rfl rfl) (re_past zo 0 fl rfl (pv 0)) (pg_tup rfl (pgs_cons (pg_name (i := 2) S.nd rfl (by first | exact Or.inl rfl | exact Or.inr rfl)) (pgs_cons (pg_name (i := 3) S.nd rfl (by first | exact Or.inl rfl | exact Or.inr rfl)) (pgs_cons (pg_name (i := 4) S.nd rfl (by first | exact Or.inl rfl | exact Or.inr rfl)) pgs_nil)))))
  (rss_cons (rs_if (rt_lift (qt_not (qt_val (qe_call c_is_within rfl hr (by decide) (qa_cons (qv 1) (qa_cons qe_int (qa_cons (qe_globI (i := 1000000000000000000) rfl b.g_FAR.choose_spec) qa_nil))))))) (rss_one (rs_raise 4 rfl (L2N.takes_of rfl rfl rfl rfl) e_NoNumber)) rss_nil)
  (rss_cons (rs_if (rt_lift (qt_gt (qv 1) (qv 4))) (rss_one (rs_raise 9 rfl (L2N.takes_of rfl rfl rfl rfl) e_NoLoan)) rss_nil)
  (rss_cons (rs_if (rt_lift (qt_gt (qv 1) (qe_sub_ rfl (qv 2) qe_int))) (rss_one (rs_raise 7 rfl (L2N.takes_of rfl rfl rfl rfl) e_NoRide)) rss_nil)
  (rss_one (rs_push zo 0 fl rfl (pe_bm PySem.F.plainAttrs_list PySem.F.slot_list_append PySem.F.type_list_append mt_append (pe_fld (pv 0) rfl) (pa_cons (re_lift (qe_tup (qa_cons (qe_tup (qa_cons (qe_sub (qe_sub_ rfl (qv 2) qe_int) (qv 1)) (qa_cons (qe_sub_ rfl (qv 2) qe_int) qa_nil))) (qa_cons (qv 3) (qa_cons (qe_sub (qv 4) (qv 1)) qa_nil))))) pa_nil))))))))) hd_Kept_pay
theorem sc_law_do : FnScope ["kept", "deed", "word", "number"] ["kept", "deed"] (defScope st_law_do) := ⟨rfl, rfl, rfl, by decide +kernel, rfl, by decide +kernel, by decide +kernel⟩
theorem cal_law_do (zo : ZO Z C) (fl : Fld Z.K C) (kc : KCls Z.K mg C) (b : Bt mg) (d : Def Z.K mg "_law_do" st_law_do ["kept", "deed"]) (m_Kept_ride : Met cl Z C P w mg base 2 "ride" ["self"] wm_Kept_ride) (m_Kept_give : Met cl Z C P w mg base 3 "give" ["self", "kind"] wm_Kept_give) (m_Kept_lend : Met cl Z C P w mg base 2 "lend" ["self", "number"] wm_Kept_lend) (m_Kept_back : Met cl Z C P w mg base 1 "back" ["self"] wm_Kept_back) (m_Kept_pay : Met cl Z C P w mg base 2 "pay" ["self", "number"] wm_Kept_pay) : CalX2 cl Z C P w mg base 4 "_law_do" ["kept", "deed"] wx_law_do := by
  have S := sc_law_do
  exact d.calX2 S len_law_do (fun f cdv A outer s H E xp hr => (rss_cons (rs_lift (qs_asg (gs_names (is := [2, 3]) rfl rfl) (qv 1) (pg_tup rfl (pgs_cons (pg_name (i := 2) S.nd rfl (by first | exact Or.inl rfl | exact Or.inr rfl)) (pgs_cons (pg_name (i := 3) S.nd rfl (by first | exact Or.inl rfl | exact Or.inr rfl)) pgs_nil)))))
  (rss_cons (rs_if (rt_lift (qt_eq rfl hr.units (qv 2) qe_str)) (rss_one (rs_ret (re_meth0 m_Kept_ride zo rfl (L2N.passes_call (L2N.takes_of rfl rfl rfl rfl) fun _ _ _ _ h => h) hr (by decide) (re_lift (qv 0))))) rss_nil)
  (rss_cons (rs_if (rt_lift (qt_eq rfl hr.units (qv 2) qe_str)) (rss_one (rs_ret (re_meth m_Kept_give zo rfl (L2N.passes_call (L2N.takes_of rfl rfl rfl rfl) fun _ _ _ _ h => h) hr (by decide) (re_lift (qv 0)) (ra_lift (qa_cons (qv 3) qa_nil))))) rss_nil)
  (rss_cons (rs_if (rt_lift (qt_eq rfl hr.units (qv 2) qe_str)) (rss_one (rs_ret (re_meth m_Kept_lend zo rfl (L2N.passes_call (L2N.takes_of rfl rfl rfl rfl) fun _ _ _ _ h => h) hr (by decide) (re_lift (qv 0)) (ra_lift (qa_cons (qv 3) qa_nil))))) rss_nil)
  (rss_one (rs_ret (re_ifExp (rt_lift (qt_eq rfl hr.units (qv 2) qe_str)) (re_meth0 m_Kept_back zo rfl (L2N.passes_call (L2N.takes_of rfl rfl rfl rfl) fun _ _ _ _ h => h) hr (by decide) (re_lift (qv 0))) (re_meth m_Kept_pay zo rfl (L2N.passes_call (L2N.takes_of rfl rfl rfl rfl) fun _ _ _ _ h => h) hr (by decide) (re_lift (qv 0)) (ra_lift (qa_cons (qv 3) qa_nil))))))))))) hd_law_do
def site_lam_law_0 : LamSite := siteOf (("law" : Str) ++ ".<locals>." ++ "<lambda>") (kidE (valS (stS (kidsS (stS (kidsS (stS (defBody st_law) 0)) 3)) 5)) 1)
theorem sc_lam_law_0 : FnScope ["a", "b", "c"] ["a", "b", "c"] site_lam_law_0.scope := ⟨rfl, rfl, rfl, by decide +kernel, rfl, by decide +kernel, by decide +kernel⟩
theorem cal_lam_law_0 (zo : ZO Z C) (fl : Fld Z.K C) (kc : KCls Z.K mg C) (b : Bt mg) (hZ : ∀ F f, Z.fx F f fx_lam_law_0 → ∃ c', F f = some (LamO site_lam_law_0 f c') ∧ F c' = some (CodeO c' site_lam_law_0.q)) (x_law_do : CalX2 cl Z C P w mg base 4 "_law_do" ["kept", "deed"] wx_law_do) : Callee2 cl Z C P w mg base 5 fx_lam_law_0 wl_lam_law_0 := by
  have S := sc_lam_law_0
  exact Callee2.lam hZ S lenl_lam_law_0 (fun pm c' ctv us h => match us, h with | [_, _, _], _ => rfl) (fun f cdv A outer s H E xp hr => (re_calX2 x_law_do rfl (L2N.passes_call (L2N.takes_of rfl rfl rfl rfl) fun _ _ _ _ h => h) hr (by decide) (ra_lift (qa_cons (qv 0) (qa_cons (qv 1) qa_nil))))) hdl_lam_law_0
def site_lam_law_1 : LamSite := siteOf (("law" : Str) ++ ".<locals>." ++ "<lambda>") (kidE (kidE (valS (stS (kidsS (stS (defBody st_law) 0)) 6)) 0) 1)
theorem sc_lam_law_1 : FnScope ["a", "b", "c"] ["a", "b", "c"] site_lam_law_1.scope := ⟨rfl, rfl, rfl, by decide +kernel, rfl, by decide +kernel, by decide +kernel⟩
theorem cal_lam_law_1 (zo : ZO Z C) (fl : Fld Z.K C) (kc : KCls Z.K mg C) (b : Bt mg) (hZ : ∀ F f, Z.fx F f fx_lam_law_1 → ∃ c', F f = some (LamO site_lam_law_1 f c') ∧ F c' = some (CodeO c' site_lam_law_1.q)) (m_Kept_back : Met cl Z C P w mg base 1 "back" ["self"] wm_Kept_back) : Callee2 cl Z C P w mg base 2 fx_lam_law_1 wl_lam_law_1 := by
  have S := sc_lam_law_1
  exact Callee2.lam hZ S lenl_lam_law_1 (fun pm c' ctv us h => match us, h with | [_, _, _], _ => rfl) (fun f cdv A outer s H E xp hr => (re_meth0 m_Kept_back zo rfl (L2N.passes_call (L2N.takes_of rfl rfl rfl rfl) fun _ _ _ _ h => h) hr (by decide) (re_lift (qv 0)))) hdl_lam_law_1
theorem sc_law_refused : FnScope ["call", "one", "two", "three", "kin", "e", "words", "word", "there"] ["call", "one", "two", "three"] (defScope st_law_refused) := ⟨rfl, rfl, rfl, by decide +kernel, rfl, by decide +kernel, by decide +kernel⟩
theorem cal_law_refused (b : Bt mg) (d : Def Z.K mg "_law_refused" st_law_refused ["call", "one", "two", "three"]) {live : Nat → Prop} {rR : Addr} (Cc : ∀ n, n < 1000 → Callee2 cl Z C P w mg base 5 n (Sx2 n)) (er : Errs Z.K mg cl rR live) (lv11 : live 11) (nk : PySem.W.findIn Z.K (.ref (cl 11)) "kind" = some none) (ex : ExcC Z.K (cl 11)) : Cal2 Z C P w mg base (5 + 1) "_law_refused" ["call", "one", "two", "three"] (wc_refused Sx2 live) := by
  have S := sc_law_refused
  obtain ⟨f, fd, F, hm, bi⟩ := d
  refine ⟨f, fd, F.ok S (fun vs H Q E h => ?_) (fun cdv A outer s H vs Q E hr h => ⟨tRef2 cl Z C Sx2 live rR, ?_, refused_reads2 (N := ["call", "one", "two", "three", "kin", "e", "words", "word", "there"]) rfl er.exT er.exR er.lt h⟩), hm, F.kp, bi⟩
  · obtain ⟨w, ds, post, _, _, r, p, _⟩ := h
    rw [r.length]
    exact len2_refused Sx2 live ds _ post p
  · exact pss_cons (ps_set (i := 4) S.nd rfl (by first | exact Or.inl rfl | exact Or.inr rfl) (pe_lst pa_nil)) (pss_cons (ps_try_asM (i := 5) (n := "e") (Wout := fun _ _ _ _ => False) (tb := fun W D σ H => tDrop (tCallV2 cl Z C Sx2 0 (L2.WE W) (tCons (tVar 1) (tCons (tVar 2) (tCons (tVar 3) tNil)))) D σ H) (l := [(.ref (cl 11), tsFew cl), (.ref rR, ts2 cl live)]) rfl rfl S.nd rfl rfl takesN0
      (fun W pn xe tk _ => pss_one (ps_expr (pe_callV2 (x := "call") (i := 0) rfl Cc tk hr rfl (.inl rfl) (pa_cons (pv 1) (pa_cons (pv 2) (pa_cons (pv 3) pa_nil))))))
      (.cons ⟨rfl, by decide, .inl er.gT⟩ (fun a oe cls d pn hz hf => pss_or fun dd hi => by
        obtain ⟨rfl, rfl⟩ := hi
        exact pss_one (ps_few S.nd rfl (by first | exact Or.inl rfl | exact Or.inr rfl) rfl rfl (.inl rfl) ⟨ex.hg, ex.hk, ex.hs, ex.hd⟩ nk hz.zc hf (pe_isF (i := 5) (u := .type "ValueError") (cv := .ty "ValueError") rfl (.inl rfl) b.isinstance_ rfl ex hz.zc hf (pe_bltn (v := .ty "ValueError") rfl er.nV (by decide +kernel) rfl (by decide) (by decide)) (fun _ h => h) (er.kitV 11 lv11) (by decide) (by decide) rfl rfl rfl))) (.cons ⟨rfl, by decide, .inl er.gR⟩ (fun a oe cls d pn hz hf => pss_or fun i hi => by
        obtain ⟨lv, h11, rfl, rfl⟩ := hi
        exact told_suite h11
          (fun σ0 H0 => ps_words0 σ0 H0 (by decide) S.nd rfl (.inl rfl) rfl (Nat.le_of_ble_eq_true rfl) (pa_pairs_cons (pe_pair (i := 5) rfl (.inl rfl) b.isinstance_ rfl (er.exc i lv h11) hz.zc hf (er.g 0 (by decide)) rfl (er.kit i 0 lv h11 (by decide))) (pa_pairs_cons (pe_pair (i := 5) rfl (.inl rfl) b.isinstance_ rfl (er.exc i lv h11) hz.zc hf (er.g 1 (by decide)) rfl (er.kit i 1 lv h11 (by decide))) pa_pairs_nil)))
          (fun σ0 H0 => ps_words1 σ0 H0 (by decide) S.nd rfl (.inl rfl) (.inl rfl) rfl (Nat.le_of_ble_eq_true rfl) (pa_pairs_cons (pe_pair (i := 5) rfl (.inl rfl) b.isinstance_ rfl (er.exc i lv h11) hz.zc hf (er.g 2 (by decide)) rfl (er.kit i 2 lv h11 (by decide))) pa_pairs_nil))
          (fun σ0 H0 => ps_words1 σ0 H0 (by decide) S.nd rfl (.inl rfl) (.inl rfl) rfl (Nat.le_of_ble_eq_true rfl) (pa_pairs_cons (pe_pair (i := 5) rfl (.inl rfl) b.isinstance_ rfl (er.exc i lv h11) hz.zc hf (er.g 3 (by decide)) rfl (er.kit i 3 lv h11 (by decide))) (pa_pairs_cons (pe_pair (i := 5) rfl (.inl rfl) b.isinstance_ rfl (er.exc i lv h11) hz.zc hf (er.g 4 (by decide)) rfl (er.kit i 4 lv h11 (by decide))) pa_pairs_nil)))
          (fun σ0 H0 => ps_words1 σ0 H0 (by decide) S.nd rfl (.inl rfl) (.inl rfl) rfl (Nat.le_of_ble_eq_true rfl) (pa_pairs_cons (pe_pair (i := 5) rfl (.inl rfl) b.isinstance_ rfl (er.exc i lv h11) hz.zc hf (er.g 5 (by decide)) rfl (er.kit i 5 lv h11 (by decide))) (pa_pairs_cons (pe_pair (i := 5) rfl (.inl rfl) b.isinstance_ rfl (er.exc i lv h11) hz.zc hf (er.g 6 (by decide)) rfl (er.kit i 6 lv h11 (by decide))) pa_pairs_nil)))
          (fun σ0 H0 => ps_words1 σ0 H0 (by decide) S.nd rfl (.inl rfl) (.inl rfl) rfl (Nat.le_of_ble_eq_true rfl) (pa_pairs_cons (pe_pair (i := 5) rfl (.inl rfl) b.isinstance_ rfl (er.exc i lv h11) hz.zc hf (er.g 7 (by decide)) rfl (er.kit i 7 lv h11 (by decide))) (pa_pairs_cons (pe_pair (i := 5) rfl (.inl rfl) b.isinstance_ rfl (er.exc i lv h11) hz.zc hf (er.g 8 (by decide)) rfl (er.kit i 8 lv h11 (by decide))) pa_pairs_nil)))
          (fun σ0 H0 => ps_words1 σ0 H0 (by decide) S.nd rfl (.inl rfl) (.inl rfl) rfl (Nat.le_of_ble_eq_true rfl) (pa_pairs_cons (pe_pair (i := 5) rfl (.inl rfl) b.isinstance_ rfl (er.exc i lv h11) hz.zc hf (er.g 9 (by decide)) rfl (er.kit i 9 lv h11 (by decide))) pa_pairs_nil))
          (fun σ0 H0 => ps_words2 (n := errNm 10) σ0 H0 (.inl rfl) rfl (Nat.le_of_ble_eq_true rfl) (pe_pair (i := 5) rfl (.inl rfl) b.isinstance_ rfl (er.exc i lv h11) hz.zc hf (er.g 10 (by decide)) rfl (er.kit i 10 lv h11 (by decide))) (hbm := pe_bm PySem.F.plainAttrs_list PySem.F.slot_list_append PySem.F.type_list_append mt_append (pv 6) (pa_cons (pe_pair (i := 5) rfl (.inl rfl) b.isinstance_ rfl (er.exc i lv h11) hz.zc hf (er.g 10 (by decide)) rfl (er.kit i 10 lv h11 (by decide))) pa_nil)))
          (fun σ0 H0 => ps_kin σ0 H0 (by decide) (by decide) (by decide) S.nd rfl (.inl rfl) rfl (Nat.le_of_ble_eq_true rfl)
            (RH.pe_lcH (own := [("word", 7), ("there", 8)]) (RH.hot_suite hz hf) S.nd (pv 6) (blkOk_by (own := [("word", 7), ("there", 8)]) (N := ["call", "one", "two", "three", "kin", "e", "words", "word", "there"]) (sc := defScope st_law_refused) (by decide +kernel)) (fun _ _ _ _ _ => pgs_cons (pg_name (i := 7) S.nd rfl (by first | exact Or.inl rfl | exact Or.inr rfl)) (pgs_cons (pg_name (i := 8) S.nd rfl (by first | exact Or.inl rfl | exact Or.inr rfl)) pgs_nil)) (fun _ _ _ _ _ => pts_one (pt_val (pv 8))) (fun _ _ _ _ _ => pv 7) (fun _ => rfl) (fun _ => rfl))
            (pe_isE (i := 5) (u := .type "ValueError") (cv := .ty "ValueError") rfl (.inl rfl) b.isinstance_ rfl (er.exc i lv h11) hz.zc hf (pe_bltn (v := .ty "ValueError") rfl er.nV (by decide +kernel) rfl (by decide) (by decide)) (fun _ h => h) (er.kitV i lv) (by decide) (by decide) rfl rfl rfl))) .nil))) (pss_one (ps_ret (pv 4))))

theorem sc_Kept_len : FnScope ["self"] ["self"] (defScope st_Kept_len) := ⟨rfl, rfl, rfl, by decide +kernel, rfl, by decide +kernel, by decide +kernel⟩
theorem cal_Kept_len (zo : ZO Z C) (fl : Fld Z.K C) (kc : KCls Z.K mg C) (b : Bt mg) {f : Addr} {fd : FuncData} (F : Fun Z.K "__len__" "Kept.__len__" st_Kept_len f fd) (hm : Meth Z.K C "__len__" f) (bi : Binds Z.K fd ["self"] []) : Met cl Z C P w mg base 1 "__len__" ["self"] wm_Kept_len := by
  have S := sc_Kept_len
  exact met_of F fl.cls hm bi S len_Kept_len (fun f cdv A outer s H E xp hr => (rss_one (rs_ret (re_len rfl b.len_ (ra_cons (re_cards zo 0 fl (pv 0)) ra_nil))))) hd_Kept_len
theorem sc_Kept_lent : FnScope ["self"] ["self"] (defScope st_Kept_lent) := ⟨rfl, rfl, rfl, by decide +kernel, rfl, by decide +kernel, by decide +kernel⟩
theorem cal_Kept_lent (zo : ZO Z C) (fl : Fld Z.K C) (kc : KCls Z.K mg C) (b : Bt mg) {f : Addr} {fd : FuncData} (F : Fun Z.K "lent" "Kept.lent" st_Kept_lent f fd) (hm : Meth Z.K C "lent" f) (bi : Binds Z.K fd ["self"] []) : Met cl Z C P w mg base 1 "lent" ["self"] wm_Kept_lent := by
  have S := sc_Kept_lent
  exact met_of F fl.cls hm bi S len_Kept_lent (fun f cdv A outer s H E xp hr => (rss_one (rs_ret (re_sub_ rfl (re_past zo 0 fl rfl (pv 0)) (re_lift qe_int))))) hd_Kept_lent
theorem sc_Kept_ridden : FnScope ["self"] ["self"] (defScope st_Kept_ridden) := ⟨rfl, rfl, rfl, by decide +kernel, rfl, by decide +kernel, by decide +kernel⟩
theorem cal_Kept_ridden (zo : ZO Z C) (fl : Fld Z.K C) (kc : KCls Z.K mg C) (b : Bt mg) {f : Addr} {fd : FuncData} (F : Fun Z.K "ridden" "Kept.ridden" st_Kept_ridden f fd) (hm : Meth Z.K C "ridden" f) (bi : Binds Z.K fd ["self"] []) : Met cl Z C P w mg base 1 "ridden" ["self"] wm_Kept_ridden := by
  have S := sc_Kept_ridden
  exact met_of F fl.cls hm bi S len_Kept_ridden (fun f cdv A outer s H E xp hr => (rss_one (rs_ret (re_sub_ rfl (re_past zo 0 fl rfl (pv 0)) (re_lift qe_int))))) hd_Kept_ridden
theorem sc_Kept_purse : FnScope ["self"] ["self"] (defScope st_Kept_purse) := ⟨rfl, rfl, rfl, by decide +kernel, rfl, by decide +kernel, by decide +kernel⟩
theorem cal_Kept_purse (zo : ZO Z C) (fl : Fld Z.K C) (kc : KCls Z.K mg C) (b : Bt mg) {f : Addr} {fd : FuncData} (F : Fun Z.K "purse" "Kept.purse" st_Kept_purse f fd) (hm : Meth Z.K C "purse" f) (bi : Binds Z.K fd ["self"] []) : Met cl Z C P w mg base 1 "purse" ["self"] wm_Kept_purse := by
  have S := sc_Kept_purse
  exact met_of F fl.cls hm bi S len_Kept_purse (fun f cdv A outer s H E xp hr => (rss_one (rs_ret (re_sub_ rfl (re_past zo 0 fl rfl (pv 0)) (re_lift qe_int))))) hd_Kept_purse
theorem sc_Kept_eq : FnScope ["self", "other"] ["self", "other"] (defScope st_Kept_eq) := ⟨rfl, rfl, rfl, by decide +kernel, rfl, by decide +kernel, by decide +kernel⟩
theorem cal_Kept_eq (zo : ZO Z C) (fl : Fld Z.K C) (kc : KCls Z.K mg C) (b : Bt mg) {f : Addr} {fd : FuncData} (F : Fun Z.K "__eq__" "Kept.__eq__" st_Kept_eq f fd) (hm : Meth Z.K C "__eq__" f) (bi : Binds Z.K fd ["self", "other"] []) : Met cl Z C P w mg base 1 "__eq__" ["self", "other"] wm_Kept_eq := by
  have S := sc_Kept_eq
  exact met_of F fl.cls hm bi S len_Kept_eq (fun f cdv A outer s H E xp hr => (rss_one (rs_ret (re_and (re_isK zo kc 1 b.isinstance_ (pv 1)) (re_and (re_eq rfl hr.units (re_cards zo 0 fl (pv 0)) (re_cards zo 1 fl (pv 1))) (re_one (re_eq rfl hr.units (re_past zo 0 fl rfl (pv 0)) (re_past zo 1 fl rfl (pv 1))))))))) hd_Kept_eq
theorem sc_common : FnScope ["one", "other"] ["one", "other"] (defScope st_common) := ⟨rfl, rfl, rfl, by decide +kernel, rfl, by decide +kernel, by decide +kernel⟩
theorem cal_common (b : Bt mg) (d : Def Z.K mg "common" st_common ["one", "other"]) : Cal Z P w mg base 1 "common" ["one", "other"] wf_common := by
  have S := sc_common
  exact d.cal S len_common (fun f cdv A outer s H E hr => (qss_cons (qs_while PassesOwn.never (qt_ne rfl hr.units (qv 1) qe_int) (qss_one (qs_par 0 1 rfl S.nd rfl rfl (by decide) rfl rfl (qa_cons (qv 1) (qa_cons (qe_mod (qv 0) (qv 1)) qa_nil)) (by rfl))))
  (qss_one (qs_ret (qv 0))))) hd_common
theorem sc_period : FnScope ["cards", "found", "many"] ["cards"] (defScope st_period) := ⟨rfl, rfl, rfl, by decide +kernel, rfl, by decide +kernel, by decide +kernel⟩
theorem cal_period (b : Bt mg) (d : Def Z.K mg "period" st_period ["cards"]) (c_common : Cal Z P w mg base 1 "common" ["one", "other"] wf_common) : Cal Z P w mg base 2 "period" ["cards"] wf_period := by
  have S := sc_period
  exact d.cal S len_period (fun f cdv A outer s H E hr => (qss_cons (qs_set 1 S.nd rfl (by first | exact Or.inl rfl | exact Or.inr rfl) qe_int)
  (qss_cons (qs_for gs_name PassesOwn.never rfl (qi_tup rfl (qv 0)) (pg_name (i := 2) S.nd rfl (by first | exact Or.inl rfl | exact Or.inr rfl)) (qss_one (qs_set 1 S.nd rfl (by first | exact Or.inl rfl | exact Or.inr rfl) (qe_fdiv (qe_mul (qv 1) (qv 2)) (qe_call c_common rfl hr (by decide) (qa_cons (qv 1) (qa_cons (qv 2) qa_nil)))))))
  (qss_one (qs_ret (qv 1)))))) hd_period
theorem sc_wears_off : FnScope ["cards", "whole", "many"] ["cards"] (defScope st_wears_off) := ⟨rfl, rfl, rfl, by decide +kernel, rfl, by decide +kernel, by decide +kernel⟩
theorem cal_wears_off (b : Bt mg) (d : Def Z.K mg "wears_off" st_wears_off ["cards"]) (c_period : Cal Z P w mg base 2 "period" ["cards"] wf_period) : Cal Z P w mg base 3 "wears_off" ["cards"] wf_wears_off := by
  have S := sc_wears_off
  exact d.cal S len_wears_off (fun f cdv A outer s H E hr => (qss_cons (qs_set 1 S.nd rfl (by first | exact Or.inl rfl | exact Or.inr rfl) (qe_call c_period rfl hr (by decide) (qa_cons (qv 0) qa_nil)))
  (qss_one (qs_ret (qe_lt (qe_sum rfl rfl b.sum_ (qa_cons (qe_frz (qn_lc [("many", 2)] rfl S.nd (qi_tup rfl (qv 0)) (blkOk_by (own := [("many", 2)]) (N := ["cards", "whole", "many"]) (sc := defScope st_wears_off) (by decide +kernel)) gs_name (by decide) (fun _ _ _ _ _ => (pg_name (i := 2) S.nd rfl (by first | exact Or.inl rfl | exact Or.inr rfl))) (fun _ _ _ _ _ => qts_nil) (fun _ _ _ _ _ => (qe_fdiv (qv 1) (qv 2))))) qa_nil)) (qv 1)))))) hd_wears_off
theorem sc_paid : FnScope ["cards", "purse", "rides", "one", "many"] ["cards", "purse", "rides"] (defScope st_paid) := ⟨rfl, rfl, rfl, by decide +kernel, rfl, by decide +kernel, by decide +kernel⟩
theorem cal_paid (b : Bt mg) (d : Def Z.K mg "paid" st_paid ["cards", "purse", "rides"]) : Cal Z P w mg base 1 "paid" ["cards", "purse", "rides"] wf_paid := by
  have S := sc_paid
  exact d.cal S len_paid (fun f cdv A outer s H E hr => (qss_one (qs_ret (qe_add (qe_sub_ rfl (qv 1) qe_int) (qe_sum rfl rfl b.sum_ (qa_cons (qe_frz (qn_lc [("one", 3), ("many", 4)] rfl S.nd (qi_zipT rfl b.zip_ (qa_cons (qe_sub_ rfl (qv 1) qe_int) (qa_cons (qv 0) qa_nil))) (blkOk_by (own := [("one", 3), ("many", 4)]) (N := ["cards", "purse", "rides", "one", "many"]) (sc := defScope st_paid) (by decide +kernel)) (gs_names (is := [3, 4]) rfl rfl) (by decide) (fun _ _ _ _ _ => (pg_tup rfl (pgs_cons (pg_name (i := 3) S.nd rfl (by first | exact Or.inl rfl | exact Or.inr rfl)) (pgs_cons (pg_name (i := 4) S.nd rfl (by first | exact Or.inl rfl | exact Or.inr rfl)) pgs_nil)))) (fun _ _ _ _ _ => qts_nil) (fun _ _ _ _ _ => (qe_fdiv (qe_add (qv 3) (qv 2)) (qv 4))))) qa_nil)))))) hd_paid
theorem sc_wanted : FnScope ["cards", "stamps", "low", "high", "best", "rides"] ["cards", "stamps", "low", "high"] (defScope st_wanted) := ⟨rfl, rfl, rfl, by decide +kernel, rfl, by decide +kernel, by decide +kernel⟩
theorem cal_wanted (b : Bt mg) (d : Def Z.K mg "wanted" st_wanted ["cards", "stamps", "low", "high"]) (c_paid : Cal Z P w mg base 1 "paid" ["cards", "purse", "rides"] wf_paid) : Cal Z P w mg base 2 "wanted" ["cards", "stamps", "low", "high"] wf_wanted := by
  have S := sc_wanted
  exact d.cal S len_wanted (fun f cdv A outer s H E hr => (qss_cons (qs_set 4 S.nd rfl (by first | exact Or.inl rfl | exact Or.inr rfl) qe_int)
  (qss_cons (qs_for gs_name PassesOwn.never rfl (qi_range2 b.range_ (qa_cons (qv 2) (qa_cons (qv 3) qa_nil))) (pg_name (i := 5) S.nd rfl (by first | exact Or.inl rfl | exact Or.inr rfl)) (qss_one (qs_set 4 S.nd rfl (by first | exact Or.inl rfl | exact Or.inr rfl) (qe_max rfl b.max_ (qa_cons (qv 4) (qa_cons (qe_sub (qe_add (qv 5) qe_int) (qe_call c_paid rfl hr (by decide) (qa_cons (qv 0) (qa_cons (qe_tup (qa_cons qe_int (qa_cons (qv 1) qa_nil))) (qa_cons (qv 5) qa_nil))))) qa_nil))))))
  (qss_one (qs_ret (qv 4)))))) hd_wanted
theorem sc_endless_from : FnScope ["cards", "stamps"] ["cards", "stamps"] (defScope st_endless_from) := ⟨rfl, rfl, rfl, by decide +kernel, rfl, by decide +kernel, by decide +kernel⟩
theorem cal_endless_from (b : Bt mg) (d : Def Z.K mg "endless_from" st_endless_from ["cards", "stamps"]) (c_wears_off : Cal Z P w mg base 3 "wears_off" ["cards"] wf_wears_off) (c_period : Cal Z P w mg base 2 "period" ["cards"] wf_period) (c_wanted : Cal Z P w mg base 2 "wanted" ["cards", "stamps", "low", "high"] wf_wanted) : Cal Z P w mg base 4 "endless_from" ["cards", "stamps"] wf_endless_from := by
  have S := sc_endless_from
  exact d.cal S len_endless_from (fun f cdv A outer s H E hr => (qss_one (qs_ret (qe_ifExp (qt_val (qe_call c_wears_off rfl hr (by decide) (qa_cons (qv 0) qa_nil))) qe_non (qe_call c_wanted rfl hr (by decide) (qa_cons (qv 0) (qa_cons (qv 1) (qa_cons qe_int (qa_cons (qe_call c_period rfl hr (by decide) (qa_cons (qv 0) qa_nil)) qa_nil))))))))) hd_endless_from
theorem sc_in_all : FnScope ["cards", "purse", "least", "rides", "more"] ["cards", "purse"] (defScope st_in_all) := ⟨rfl, rfl, rfl, by decide +kernel, rfl, by decide +kernel, by decide +kernel⟩
theorem cal_in_all (b : Bt mg) (d : Def Z.K mg "in_all" st_in_all ["cards", "purse"]) (c_endless_from : Cal Z P w mg base 4 "endless_from" ["cards", "stamps"] wf_endless_from) (c_paid : Cal Z P w mg base 1 "paid" ["cards", "purse", "rides"] wf_paid) : Cal Z P w mg base 5 "in_all" ["cards", "purse"] wf_in_all := by
  have S := sc_in_all
  exact d.cal S len_in_all (fun f cdv A outer s H E hr => (qss_cons (qs_set 2 S.nd rfl (by first | exact Or.inl rfl | exact Or.inr rfl) (qe_call c_endless_from rfl hr (by decide) (qa_cons (qv 0) (qa_cons (qe_sub_ rfl (qv 1) qe_int) qa_nil))))
  (qss_cons (qs_if (PW.pt (qw_and (qt_notN (qv 2) qe_non) (qw_and1 (qt_ge (qe_sub_ rfl (qv 1) qe_int) (qv 2))))) (qss_one (qs_ret qe_non)) qss_nil)
  (qss_cons (qs_par 3 4 rfl S.nd rfl rfl (by decide) rfl rfl (qa_cons qe_int (qa_cons (qe_call c_paid rfl hr (by decide) (qa_cons (qv 0) (qa_cons (qv 1) (qa_cons qe_int qa_nil)))) qa_nil)) (by rfl))
  (qss_cons (qs_while PassesOwn.never (qt_gt (qv 4) (qv 3)) (qss_one (qs_par 3 4 rfl S.nd rfl rfl (by decide) rfl rfl (qa_cons (qv 4) (qa_cons (qe_call c_paid rfl hr (by decide) (qa_cons (qv 0) (qa_cons (qv 1) (qa_cons (qv 4) qa_nil)))) qa_nil)) (by rfl))))
  (qss_one (qs_ret (qv 3)))))))) hd_in_all
theorem sc_Kept_still : FnScope ["self"] ["self"] (defScope st_Kept_still) := ⟨rfl, rfl, rfl, by decide +kernel, rfl, by decide +kernel, by decide +kernel⟩
theorem cal_Kept_still (zo : ZO Z C) (fl : Fld Z.K C) (kc : KCls Z.K mg C) (b : Bt mg) {f : Addr} {fd : FuncData} (F : Fun Z.K "still" "Kept.still" st_Kept_still f fd) (hm : Meth Z.K C "still" f) (bi : Binds Z.K fd ["self"] []) (c_in_all : Cal Z P w mg base 5 "in_all" ["cards", "purse"] wf_in_all) : Met cl Z C P w mg base 6 "still" ["self"] wm_Kept_still := by
  have S := sc_Kept_still
  exact met_of F fl.cls hm bi S len_Kept_still (fun f cdv A outer s H E xp hr => (rss_one (rs_ret (re_call c_in_all rfl hr (by decide) (ra_cons (re_cards zo 0 fl (pv 0)) (ra_cons (re_sub_ rfl (re_past zo 0 fl rfl (pv 0)) (re_lift qe_int)) ra_nil)))))) hd_Kept_still
theorem sc_law_paid : FnScope ["kinds", "had", "rides", "found", "stamps", "many"] ["kinds", "had", "rides"] (defScope st_law_paid) := ⟨rfl, rfl, rfl, by decide +kernel, rfl, by decide +kernel, by decide +kernel⟩
theorem cal_law_paid (b : Bt mg) (d : Def Z.K mg "_law_paid" st_law_paid ["kinds", "had", "rides"]) : Cal Z P w mg base 1 "_law_paid" ["kinds", "had", "rides"] wf_law_paid := by
  have S := sc_law_paid
  exact d.cal S len_law_paid (fun f cdv A outer s H E hr => (qss_cons (qs_set 3 S.nd rfl (by first | exact Or.inl rfl | exact Or.inr rfl) (qe_sub_ rfl (qv 1) qe_int))
  (qss_cons (qs_for (gs_names (is := [4, 5]) rfl rfl) PassesOwn.never rfl (qi_zipT rfl b.zip_ (qa_cons (qe_sub_ rfl (qv 1) qe_int) (qa_cons (qv 0) qa_nil))) (pg_tup rfl (pgs_cons (pg_name (i := 4) S.nd rfl (by first | exact Or.inl rfl | exact Or.inr rfl)) (pgs_cons (pg_name (i := 5) S.nd rfl (by first | exact Or.inl rfl | exact Or.inr rfl)) pgs_nil))) (qss_one (qs_set 3 S.nd rfl (by first | exact Or.inl rfl | exact Or.inr rfl) (qe_add (qv 3) (qe_fdiv (qe_add (qv 4) (qv 2)) (qv 5))))))
  (qss_one (qs_ret (qv 3)))))) hd_law_paid
theorem sc_law_common : FnScope ["one", "other"] ["one", "other"] (defScope st_law_common) := ⟨rfl, rfl, rfl, by decide +kernel, rfl, by decide +kernel, by decide +kernel⟩
theorem cal_law_common (b : Bt mg) (d : Def Z.K mg "_law_common" st_law_common ["one", "other"]) : Cal Z P w mg base 1 "_law_common" ["one", "other"] wf_law_common := by
  have S := sc_law_common
  exact d.cal S len_law_common (fun f cdv A outer s H E hr => (qss_cons (qs_while PassesOwn.never (qt_ne rfl hr.units (qv 1) qe_int) (qss_one (qs_par 0 1 rfl S.nd rfl rfl (by decide) rfl rfl (qa_cons (qv 1) (qa_cons (qe_mod (qv 0) (qv 1)) qa_nil)) (by rfl))))
  (qss_one (qs_ret (qv 0))))) hd_law_common
theorem sc_law_whole : FnScope ["kinds", "found", "many"] ["kinds"] (defScope st_law_whole) := ⟨rfl, rfl, rfl, by decide +kernel, rfl, by decide +kernel, by decide +kernel⟩
theorem cal_law_whole (b : Bt mg) (d : Def Z.K mg "_law_whole" st_law_whole ["kinds"]) (c_law_common : Cal Z P w mg base 1 "_law_common" ["one", "other"] wf_law_common) : Cal Z P w mg base 2 "_law_whole" ["kinds"] wf_law_whole := by
  have S := sc_law_whole
  exact d.cal S len_law_whole (fun f cdv A outer s H E hr => (qss_cons (qs_set 1 S.nd rfl (by first | exact Or.inl rfl | exact Or.inr rfl) qe_int)
  (qss_cons (qs_for gs_name PassesOwn.never rfl (qi_tup rfl (qv 0)) (pg_name (i := 2) S.nd rfl (by first | exact Or.inl rfl | exact Or.inr rfl)) (qss_one (qs_set 1 S.nd rfl (by first | exact Or.inl rfl | exact Or.inr rfl) (qe_fdiv (qe_mul (qv 1) (qv 2)) (qe_call c_law_common rfl hr (by decide) (qa_cons (qv 1) (qa_cons (qv 2) qa_nil)))))))
  (qss_one (qs_ret (qv 1)))))) hd_law_whole
theorem sc_law_wears : FnScope ["kinds", "whole", "many"] ["kinds"] (defScope st_law_wears) := ⟨rfl, rfl, rfl, by decide +kernel, rfl, by decide +kernel, by decide +kernel⟩
theorem cal_law_wears (b : Bt mg) (d : Def Z.K mg "_law_wears" st_law_wears ["kinds"]) (c_law_whole : Cal Z P w mg base 2 "_law_whole" ["kinds"] wf_law_whole) : Cal Z P w mg base 3 "_law_wears" ["kinds"] wf_law_wears := by
  have S := sc_law_wears
  exact d.cal S len_law_wears (fun f cdv A outer s H E hr => (qss_cons (qs_set 1 S.nd rfl (by first | exact Or.inl rfl | exact Or.inr rfl) (qe_call c_law_whole rfl hr (by decide) (qa_cons (qv 0) qa_nil)))
  (qss_one (qs_ret (qe_lt (qe_sum rfl rfl b.sum_ (qa_cons (qe_frz (qn_lc [("many", 2)] rfl S.nd (qi_tup rfl (qv 0)) (blkOk_by (own := [("many", 2)]) (N := ["kinds", "whole", "many"]) (sc := defScope st_law_wears) (by decide +kernel)) gs_name (by decide) (fun _ _ _ _ _ => (pg_name (i := 2) S.nd rfl (by first | exact Or.inl rfl | exact Or.inr rfl))) (fun _ _ _ _ _ => qts_nil) (fun _ _ _ _ _ => (qe_fdiv (qv 1) (qv 2))))) qa_nil)) (qv 1)))))) hd_law_wears
theorem sc_law_rest : FnScope ["kinds", "had", "rides", "more"] ["kinds", "had"] (defScope st_law_rest) := ⟨rfl, rfl, rfl, by decide +kernel, rfl, by decide +kernel, by decide +kernel⟩
theorem cal_law_rest (b : Bt mg) (d : Def Z.K mg "_law_rest" st_law_rest ["kinds", "had"]) (c_law_paid : Cal Z P w mg base 1 "_law_paid" ["kinds", "had", "rides"] wf_law_paid) (c_law_whole : Cal Z P w mg base 2 "_law_whole" ["kinds"] wf_law_whole) (c_law_wears : Cal Z P w mg base 3 "_law_wears" ["kinds"] wf_law_wears) : Cal Z P w mg base 4 "_law_rest" ["kinds", "had"] wf_law_rest := by
  have S := sc_law_rest
  exact d.cal S len_law_rest (fun f cdv A outer s H E hr => (qss_cons (qs_par 2 3 rfl S.nd rfl rfl (by decide) rfl rfl (qa_cons qe_int (qa_cons (qe_call c_law_paid rfl hr (by decide) (qa_cons (qv 0) (qa_cons (qv 1) (qa_cons qe_int qa_nil)))) qa_nil)) (by rfl))
  (qss_cons (qs_while PassesOwn.never (qt_gt (qv 3) (qv 2)) (qss_cons (qs_if (PW.pt (qw_and (qt_not (qt_val (qe_call c_law_wears rfl hr (by decide) (qa_cons (qv 0) qa_nil)))) (qw_and1 (qt_ge (qv 3) (qe_call c_law_whole rfl hr (by decide) (qa_cons (qv 0) qa_nil)))))) (qss_one (qs_ret qe_non)) qss_nil)
  (qss_one (qs_par 2 3 rfl S.nd rfl rfl (by decide) rfl rfl (qa_cons (qv 3) (qa_cons (qe_call c_law_paid rfl hr (by decide) (qa_cons (qv 0) (qa_cons (qv 1) (qa_cons (qv 3) qa_nil)))) qa_nil)) (by rfl)))))
  (qss_one (qs_ret (qv 2)))))) hd_law_rest
theorem sc_law : FnScope ["script", "bag", "kinds", "had", "kept", "other", "states", "turn", "word", "some", "number", "deed", "due", "kin"] ["script"] (defScope st_law) := ⟨rfl, rfl, rfl, by decide +kernel, rfl, by decide +kernel, by decide +kernel⟩
theorem fn_law (zo : ZO Z C) (fl : Fld Z.K C) (kc : KCls Z.K mg C) {cC cP f : Addr} {oc kV doc pm ct : Value} {od an : Option Addr} {osl : Array (Option Value)} (b : Bt mg) (lk : Z.K.lookup f = some ⟨oc, od, .func (PySem.W.fnOf "law" "law" (defArgs st_law) (defBody st_law) (defScope st_law) .none kV doc pm an (.ref cC) ct), osl⟩) (hcd : PySem.W.codeIn Z.K (.ref cC) "law" = true) (c_law_bags : Cal Z P w mg base 3 "_law_bags" ["script", "limit"] wf_law_bags) (c_law_take : Cal Z P w mg base 1 "_law_take" ["bag", "many"] wf_law_take) (c_law_kinds : Cal Z P w mg base 2 "_law_kinds" ["bag", "far"] wf_law_kinds) (c_law_had : Cal Z P w mg base 4 "_law_had" ["bag", "kinds", "far"] wf_law_had) (i_Kept_init : Ini2 cl Z C P w mg base 5 "Kept" ["self", "cards", "purse"] wi_Kept_init) (c_law_after : Cal Z P w mg base 2 "_law_after" ["kinds", "state", "deed"] wf_law_after) (c_law_refused : Cal2 Z C P w mg base 6 "_law_refused" ["call", "one", "two", "three"] wc_law_refused) (x_law_do : CalX2 cl Z C P w mg base 4 "_law_do" ["kept", "deed"] wx_law_do) (m_Kept_len : Met cl Z C P w mg base 1 "__len__" ["self"] wm_Kept_len) (m_Kept_lent : Met cl Z C P w mg base 1 "lent" ["self"] wm_Kept_lent) (m_Kept_ridden : Met cl Z C P w mg base 1 "ridden" ["self"] wm_Kept_ridden) (m_Kept_purse : Met cl Z C P w mg base 1 "purse" ["self"] wm_Kept_purse) (m_Kept_eq : Met cl Z C P w mg base 1 "__eq__" ["self", "other"] wm_Kept_eq) (m_Kept_still : Met cl Z C P w mg base 6 "still" ["self"] wm_Kept_still) (c_law_rest : Cal Z P w mg base 4 "_law_rest" ["kinds", "had"] wf_law_rest) (m_Kept_back : Met cl Z C P w mg base 1 "back" ["self"] wm_Kept_back) (tb : TabB base mg cC cP) (tt : Z.tab cP (("law" : Str) ++ ".<locals>." ++ "<lambda>")) (tu : ∀ q, Z.tab cP q → q = (("law" : Str) ++ ".<locals>." ++ "<lambda>")) (hl_lam_law_0 : ∀ F f c', F f = some (LamO site_lam_law_0 f c') → F c' = some (CodeO c' site_lam_law_0.q) → Z.fx F f fx_lam_law_0) (hl_lam_law_1 : ∀ F f c', F f = some (LamO site_lam_law_1 f c') → F c' = some (CodeO c' site_lam_law_1.q) → Z.fx F f fx_lam_law_1) : FnOk P w Z.K mg base CX0 7 f (PySem.W.fnOf "law" "law" (defArgs st_law) (defBody st_law) (defScope st_law) .none kV doc pm an (.ref cC) ct) ["script"] (LF Z wf_law) := by
  have S := sc_law
  exact FnOk.from2 (fn_data2C (cl := cl) lk hcd S len2_law (fun f A outer s H E hr => (rss_cons (rs_for gs_name PassesOwn.never rfl (ri_lift (qi_lst rfl (qe_call c_law_bags rfl hr (by decide) (qa_cons (qv 0) (qa_cons qe_int qa_nil))))) (pg_name (i := 1) S.nd rfl (by first | exact Or.inl rfl | exact Or.inr rfl)) (rss_cons (rs_lift (qs_set 2 S.nd rfl (by first | exact Or.inl rfl | exact Or.inr rfl) (qe_call c_law_kinds rfl hr (by decide) (qa_cons (qv 1) (qa_cons (qe_sub_ rfl (qe_frz (qn_lst (qa_cons qe_int (qa_cons qe_int qa_nil)))) (qe_call c_law_take rfl hr (by decide) (qa_cons (qv 1) (qa_cons qe_int qa_nil)))) qa_nil)))))
  (rss_cons (rs_lift (qs_set 3 S.nd rfl (by first | exact Or.inl rfl | exact Or.inr rfl) (qe_call c_law_had rfl hr (by decide) (qa_cons (qv 1) (qa_cons (qv 2) (qa_cons qe_int qa_nil))))))
  (rss_cons (rs_par3 4 5 6 rfl S.nd rfl rfl rfl (by decide) (by decide) (by decide) rfl rfl rfl (ra_cons (re_make i_Kept_init zo rfl (passN0 fun _ _ _ z => z) hr (by decide) (ra_lift (qa_cons (qv 2) (qa_cons (qv 3) qa_nil)))) (ra_cons (re_make i_Kept_init zo rfl (passN0 fun _ _ _ z => z) hr (by decide) (ra_lift (qa_cons (qv 2) (qa_cons (qv 3) qa_nil)))) (ra_cons (re_lift (qe_frz (qn_lst (qa_cons (qe_tup (qa_cons (qv 3) (qa_cons qe_int (qa_cons qe_int qa_nil)))) qa_nil)))) ra_nil))) (by rfl))
  (rss_cons (rs_for gs_name PassesOwn.never rfl (ri_lift (qi_range1 b.range_ (qa_cons (qe_call c_law_take rfl hr (by decide) (qa_cons (qv 1) (qa_cons qe_int qa_nil))) qa_nil))) (pg_name (i := 7) S.nd rfl (by first | exact Or.inl rfl | exact Or.inr rfl)) (rss_cons (rs_lift (qs_set 8 S.nd rfl (by first | exact Or.inl rfl | exact Or.inr rfl) (qe_sub_ rfl (qe_frz (qn_lst (qa_cons qe_str (qa_cons qe_str (qa_cons qe_str (qa_cons qe_str (qa_cons qe_str (qa_cons qe_str (qa_cons qe_str (qa_cons qe_str qa_nil)))))))))) (qe_call c_law_take rfl hr (by decide) (qa_cons (qv 1) (qa_cons qe_int qa_nil))))))
  (rss_cons (rs_lift (qs_set 9 S.nd rfl (by first | exact Or.inl rfl | exact Or.inr rfl) (qe_frz (qn_lst (qa_cons (qe_call c_law_take rfl hr (by decide) (qa_cons (qv 1) (qa_cons qe_int qa_nil))) (qa_cons (qe_call c_law_take rfl hr (by decide) (qa_cons (qv 1) (qa_cons qe_int qa_nil))) (qa_cons (qe_call c_law_take rfl hr (by decide) (qa_cons (qv 1) (qa_cons qe_int qa_nil))) (qa_cons qe_int (qa_cons qe_non (qa_cons qe_bl (qa_cons (qe_neg qe_int) (qa_cons (qe_len rfl b.len_ (qa_cons (qv 2) qa_nil)) qa_nil))))))))))))
  (rss_cons (rs_lift (qs_set 10 S.nd rfl (by first | exact Or.inl rfl | exact Or.inr rfl) (qe_sub_ rfl (qv 9) (qe_call c_law_take rfl hr (by decide) (qa_cons (qv 1) (qa_cons qe_int qa_nil))))))
  (rss_cons (rs_lift (qs_par 11 12 rfl S.nd rfl rfl (by decide) rfl rfl (qa_cons (qe_tup (qa_cons (qv 8) (qa_cons (qv 10) qa_nil))) (qa_cons (qe_frz (qn_lst (qa_cons qe_str (qa_cons qe_bl qa_nil)))) qa_nil)) (by rfl)))
  (rss_cons (rs_lift (qs_if (qt_ne rfl hr.units (qv 8) qe_str) (qss_one (qs_set 12 S.nd rfl (by first | exact Or.inl rfl | exact Or.inr rfl) (qe_call c_law_after rfl hr (by decide) (qa_cons (qv 2) (qa_cons (qe_sub_ rfl (qv 6) (qe_neg qe_int)) (qa_cons (qv 11) qa_nil)))))) (qss_one (qs_if (qt_gt (qe_len rfl b.len_ (qa_cons (qv 6) qa_nil)) qe_int) (qss_one (qs_set 12 S.nd rfl (by first | exact Or.inl rfl | exact Or.inr rfl) (qe_sub_ rfl (qv 6) (qe_neg qe_int)))) qss_nil))))
  (rss_cons (rs_set 13 S.nd rfl (by first | exact Or.inl rfl | exact Or.inr rfl) (re_cal2 c_law_refused rfl hr (by decide) (ra_lift (qa_cons (qe_lam (s := site_lam_law_0) rfl tb rfl tt tu rfl (by decide) hl_lam_law_0) (qa_cons (qv 4) (qa_cons (qv 11) (qa_cons qe_int qa_nil)))))))
  (rss_cons (rs_lift (qs_if (qt_ne rfl hr.units (qv 13) (qe_ifExp (qt_val (qe_isi_list rfl b.isinstance_ b.list_ (qv 12))) (qv 12) (qe_frz (qn_lst qa_nil)))) (qss_one (qs_ret qe_bl)) qss_nil))
  (rss_cons (rs_if (rt_lift (qt_eq rfl hr.units (qv 13) (qe_frz (qn_lst qa_nil)))) (rss_cons (rs_lift (qs_set 6 S.nd rfl (by first | exact Or.inl rfl | exact Or.inr rfl) (qe_ifExp (qt_eq rfl hr.units (qv 8) qe_str) (qe_frz (qn_slL rfl (qv 6) qo_none (qo_some (qe_neg qe_int)))) (qe_frz (qn_cat (qv 6) (qe_frz (qn_lst (qa_cons (qv 12) qa_nil))))))))
  (rss_one (rs_expr (re_calX2 x_law_do rfl (passN0 fun _ _ _ z => z) hr (by decide) (ra_lift (qa_cons (qv 5) (qa_cons (qv 11) qa_nil))))))) rss_nil)
  (rss_cons (rs_if (PW.pt (rw_or (rt_ne rfl hr.units (re_tup (ra_cons (re_meth0 m_Kept_purse zo rfl (passN0 fun _ _ _ z => z) hr (by decide) (re_lift (qv 4))) (ra_cons (re_meth0 m_Kept_ridden zo rfl (passN0 fun _ _ _ z => z) hr (by decide) (re_lift (qv 4))) (ra_cons (re_meth0 m_Kept_lent zo rfl (passN0 fun _ _ _ z => z) hr (by decide) (re_lift (qv 4))) ra_nil)))) (re_lift (qe_sub_ rfl (qv 6) (qe_neg qe_int)))) (rw_or1 (rt_ne rfl hr.units (re_lenK m_Kept_len zo rfl (passN0 fun _ _ _ z => z) hr (by decide) b.len_ (re_lift (qv 4))) (re_lift (qe_len rfl b.len_ (qa_cons (qv 2) qa_nil))))))) (rss_lift (qss_one (qs_ret qe_bl))) rss_nil)
  (rss_one (rs_if (PW.pt (rw_or (rt_ne rfl hr.units (re_meth0 m_Kept_still zo rfl (passN0 fun _ _ _ z => z) hr (by decide) (re_lift (qv 4))) (re_lift (qe_call c_law_rest rfl hr (by decide) (qa_cons (qv 2) (qa_cons (qe_sub_ rfl (qe_sub_ rfl (qv 6) (qe_neg qe_int)) qe_int) qa_nil))))) (rw_or (rt_not (rt_eqK m_Kept_eq zo kc rfl (passN0 fun _ _ _ z => z) hr (by decide) (re_lift (qv 4)) (re_lift (qv 5)))) (rw_or1 (rt_eqK m_Kept_eq zo kc rfl (passN0 fun _ _ _ z => z) hr (by decide) (re_lift (qv 4)) (re_lift (qv 3))))))) (rss_lift (qss_one (qs_ret qe_bl))) rss_nil))))))))))))
  (rss_cons (rs_for gs_name PassesOwn.never rfl (ri_lift (qi_range1 b.range_ (qa_cons (qe_sub (qe_len rfl b.len_ (qa_cons (qv 6) qa_nil)) qe_int) qa_nil))) (pg_name (i := 7) S.nd rfl (by first | exact Or.inl rfl | exact Or.inr rfl)) (rss_one (rs_expr (re_meth0 m_Kept_back zo rfl (passN0 fun _ _ _ z => z) hr (by decide) (re_lift (qv 4))))))
  (rss_cons (rs_if (PW.pt (rw_or (rt_not (rt_eqK m_Kept_eq zo kc rfl (passN0 fun _ _ _ z => z) hr (by decide) (re_lift (qv 4)) (re_make i_Kept_init zo rfl (passN0 fun _ _ _ z => z) hr (by decide) (ra_lift (qa_cons (qv 2) (qa_cons (qv 3) qa_nil)))))) (rw_or1 (rt_ne rfl hr.units (re_eqK m_Kept_eq zo kc rfl (passN0 fun _ _ _ z => z) hr (by decide) (re_lift (qv 4)) (re_lift (qv 5))) (re_lift (qe_eq rfl hr.units (qe_sub_ rfl (qv 6) qe_int) (qe_sub_ rfl (qv 6) (qe_neg qe_int)))))))) (rss_lift (qss_one (qs_ret qe_bl))) rss_nil)
  (rss_one (rs_if (rt_ne rfl hr.units (re_cal2 c_law_refused rfl hr (by decide) (ra_lift (qa_cons (qe_lam (s := site_lam_law_1) rfl tb rfl tt tu rfl (by decide) hl_lam_law_1) (qa_cons (qv 4) (qa_cons qe_int (qa_cons qe_int qa_nil)))))) (re_lift (qe_frz (qn_lst (qa_cons qe_str (qa_cons qe_bl qa_nil)))))) (rss_lift (qss_one (qs_ret qe_bl))) rss_nil)))))))))
  (rss_lift (qss_one (qs_ret qe_bl))))) hd_law) law_from
end
theorem all_mk {l : PySem.W.OpenLaw} {w : World} {K : PySem.W.Frag} {h : Heap} {mg : Str → Option Value} {fa : Addr} (X : K.In h) (G : h.Ns mainGlobals mg) (hfa : mg "law" = some (.ref fa))
    {C : Addr} {cL0 : Addr}
    (gC : PySem.W.nsIn K mainGlobals "Kept" = some (some (.ref C)))
    (pgC : PySem.W.plainGet K C Str.empty = true)
    (hdC : PySem.W.hasDictIn K C = true)
    (poC : PySem.W.plainOver K C = true)
    (saC : PySem.W.findIn K (.ref C) "__setattr__" = some (some (.builtin "object.__setattr__")))
    (ncC : PySem.W.findIn K (.ref C) "cards" = some none)
    (npC : PySem.W.findIn K (.ref C) "past" = some none)
    (mkC : PySem.W.makesIn K C = true)
    (kpC : PySem.W.keepIn K (.ref C) = true)
    (caC : PySem.W.findIn K (.ref C) "__class__" = some (some (.builtin "object.__class__")))
    (cmC : PySem.W.mroIn K C (.type "object") = some true)
    (nfC : PySem.W.notFirst K C (.ref C) = true)
    (nfT : PySem.W.notFirst K C (.type "tuple") = true)
    (tyC : PySem.W.typeIn K (.ref C) = some (.type "type"))
    (sbC : PySem.W.subIn K (.ref C) (.ref C) = some true)
    (sbT : PySem.W.subIn K (.type "tuple") (.ref C) = some false)
    {e0 : Addr}    {e1 : Addr}    {e2 : Addr}    {e3 : Addr}    {e4 : Addr}    {e5 : Addr}    {e6 : Addr}    {e7 : Addr}    {e8 : Addr}    {e9 : Addr}    {e10 : Addr}    {e11 : Addr}
    (eg0 : PySem.W.nsIn K mainGlobals "NoCards" = some (some (.ref e0)))
    (eg1 : PySem.W.nsIn K mainGlobals "NoPurse" = some (some (.ref e1)))
    (eg2 : PySem.W.nsIn K mainGlobals "NoStamps" = some (some (.ref e2)))
    (eg3 : PySem.W.nsIn K mainGlobals "NoRow" = some (some (.ref e3)))
    (eg4 : PySem.W.nsIn K mainGlobals "NoNumber" = some (some (.ref e4)))
    (eg5 : PySem.W.nsIn K mainGlobals "NoPurses" = some (some (.ref e5)))
    (eg6 : PySem.W.nsIn K mainGlobals "NoSeen" = some (some (.ref e6)))
    (eg7 : PySem.W.nsIn K mainGlobals "NoRide" = some (some (.ref e7)))
    (eg8 : PySem.W.nsIn K mainGlobals "NoKind" = some (some (.ref e8)))
    (eg9 : PySem.W.nsIn K mainGlobals "NoLoan" = some (some (.ref e9)))
    (eg10 : PySem.W.nsIn K mainGlobals "NothingLeft" = some (some (.ref e10)))
    (eg11 : PySem.W.nsIn K mainGlobals "TooFew" = some (some (.ref e11)))
    {f0 : Addr} {od0 an0 : Option Addr} {sl0 : Array (Option Value)} {oc0 kV0 dc0 pm0 cd0 ct0 : Value}
    (a0 : PySem.W.nsIn K mainGlobals "_law_cell_at" = some (some (.ref f0)))
    (l0 : K.lookup f0 = some ⟨oc0, od0, .func (PySem.W.fnOf "_law_cell_at" "_law_cell_at" (defArgs st_law_cell_at) (defBody st_law_cell_at) (defScope st_law_cell_at) .none kV0 dc0 pm0 an0 cd0 ct0), sl0⟩) (c0 : PySem.W.codeIn K cd0 "_law_cell_at" = true) (k0 : PySem.W.keepIn K (.ref f0) = true)
    {f1 : Addr} {od1 an1 : Option Addr} {sl1 : Array (Option Value)} {oc1 kV1 dc1 pm1 cd1 ct1 : Value}
    (a1 : PySem.W.nsIn K mainGlobals "_law_draws" = some (some (.ref f1)))
    (l1 : K.lookup f1 = some ⟨oc1, od1, .func (PySem.W.fnOf "_law_draws" "_law_draws" (defArgs st_law_draws) (defBody st_law_draws) (defScope st_law_draws) .none kV1 dc1 pm1 an1 cd1 ct1), sl1⟩) (c1 : PySem.W.codeIn K cd1 "_law_draws" = true) (k1 : PySem.W.keepIn K (.ref f1) = true)
    {f2 : Addr} {od2 an2 : Option Addr} {sl2 : Array (Option Value)} {oc2 kV2 dc2 pm2 cd2 ct2 : Value}
    (a2 : PySem.W.nsIn K mainGlobals "_law_bag" = some (some (.ref f2)))
    (l2 : K.lookup f2 = some ⟨oc2, od2, .func (PySem.W.fnOf "_law_bag" "_law_bag" (defArgs st_law_bag) (defBody st_law_bag) (defScope st_law_bag) .none kV2 dc2 pm2 an2 cd2 ct2), sl2⟩) (c2 : PySem.W.codeIn K cd2 "_law_bag" = true) (k2 : PySem.W.keepIn K (.ref f2) = true)
    {f3 : Addr} {od3 an3 : Option Addr} {sl3 : Array (Option Value)} {oc3 kV3 dc3 pm3 cd3 ct3 : Value}
    (a3 : PySem.W.nsIn K mainGlobals "_law_bags" = some (some (.ref f3)))
    (l3 : K.lookup f3 = some ⟨oc3, od3, .func (PySem.W.fnOf "_law_bags" "_law_bags" (defArgs st_law_bags) (defBody st_law_bags) (defScope st_law_bags) .none kV3 dc3 pm3 an3 cd3 ct3), sl3⟩) (c3 : PySem.W.codeIn K cd3 "_law_bags" = true) (k3 : PySem.W.keepIn K (.ref f3) = true)
    {f4 : Addr} {od4 an4 : Option Addr} {sl4 : Array (Option Value)} {oc4 kV4 dc4 pm4 cd4 ct4 : Value}
    (a4 : PySem.W.nsIn K mainGlobals "_law_take" = some (some (.ref f4)))
    (l4 : K.lookup f4 = some ⟨oc4, od4, .func (PySem.W.fnOf "_law_take" "_law_take" (defArgs st_law_take) (defBody st_law_take) (defScope st_law_take) .none kV4 dc4 pm4 an4 cd4 ct4), sl4⟩) (c4 : PySem.W.codeIn K cd4 "_law_take" = true) (k4 : PySem.W.keepIn K (.ref f4) = true)
    {f5 : Addr} {od5 an5 : Option Addr} {sl5 : Array (Option Value)} {oc5 kV5 dc5 pm5 cd5 ct5 : Value}
    (a5 : PySem.W.nsIn K mainGlobals "_law_kinds" = some (some (.ref f5)))
    (l5 : K.lookup f5 = some ⟨oc5, od5, .func (PySem.W.fnOf "_law_kinds" "_law_kinds" (defArgs st_law_kinds) (defBody st_law_kinds) (defScope st_law_kinds) .none kV5 dc5 pm5 an5 cd5 ct5), sl5⟩) (c5 : PySem.W.codeIn K cd5 "_law_kinds" = true) (k5 : PySem.W.keepIn K (.ref f5) = true)
    {f6 : Addr} {od6 an6 : Option Addr} {sl6 : Array (Option Value)} {oc6 kV6 dc6 pm6 cd6 ct6 : Value}
    (a6 : PySem.W.nsIn K mainGlobals "_law_far_draw" = some (some (.ref f6)))
    (l6 : K.lookup f6 = some ⟨oc6, od6, .func (PySem.W.fnOf "_law_far_draw" "_law_far_draw" (defArgs st_law_far_draw) (defBody st_law_far_draw) (defScope st_law_far_draw) .none kV6 dc6 pm6 an6 cd6 ct6), sl6⟩) (c6 : PySem.W.codeIn K cd6 "_law_far_draw" = true) (k6 : PySem.W.keepIn K (.ref f6) = true)
    {f7 : Addr} {od7 an7 : Option Addr} {sl7 : Array (Option Value)} {oc7 kV7 dc7 pm7 cd7 ct7 : Value}
    (a7 : PySem.W.nsIn K mainGlobals "_law_stamps_for" = some (some (.ref f7)))
    (l7 : K.lookup f7 = some ⟨oc7, od7, .func (PySem.W.fnOf "_law_stamps_for" "_law_stamps_for" (defArgs st_law_stamps_for) (defBody st_law_stamps_for) (defScope st_law_stamps_for) .none kV7 dc7 pm7 an7 cd7 ct7), sl7⟩) (c7 : PySem.W.codeIn K cd7 "_law_stamps_for" = true) (k7 : PySem.W.keepIn K (.ref f7) = true)
    {f8 : Addr} {od8 an8 : Option Addr} {sl8 : Array (Option Value)} {oc8 kV8 dc8 pm8 cd8 ct8 : Value}
    (a8 : PySem.W.nsIn K mainGlobals "_law_had" = some (some (.ref f8)))
    (l8 : K.lookup f8 = some ⟨oc8, od8, .func (PySem.W.fnOf "_law_had" "_law_had" (defArgs st_law_had) (defBody st_law_had) (defScope st_law_had) .none kV8 dc8 pm8 an8 cd8 ct8), sl8⟩) (c8 : PySem.W.codeIn K cd8 "_law_had" = true) (k8 : PySem.W.keepIn K (.ref f8) = true)
    {f9 : Addr} {od9 an9 : Option Addr} {sl9 : Array (Option Value)} {oc9 kV9 dc9 pm9 cd9 ct9 : Value}
    (a9 : PySem.W.nsIn K mainGlobals "is_within" = some (some (.ref f9)))
    (l9 : K.lookup f9 = some ⟨oc9, od9, .func (PySem.W.fnOf "is_within" "is_within" (defArgs st_is_within) (defBody st_is_within) (defScope st_is_within) .none kV9 dc9 pm9 an9 cd9 ct9), sl9⟩) (c9 : PySem.W.codeIn K cd9 "is_within" = true) (k9 : PySem.W.keepIn K (.ref f9) = true)
    {f10 : Addr} {od10 an10 : Option Addr} {sl10 : Array (Option Value)} {oc10 kV10 dc10 pm10 cd10 ct10 : Value}
    (a10 : PySem.W.nsIn K mainGlobals "are_cards" = some (some (.ref f10)))
    (l10 : K.lookup f10 = some ⟨oc10, od10, .func (PySem.W.fnOf "are_cards" "are_cards" (defArgs st_are_cards) (defBody st_are_cards) (defScope st_are_cards) .none kV10 dc10 pm10 an10 cd10 ct10), sl10⟩) (c10 : PySem.W.codeIn K cd10 "are_cards" = true) (k10 : PySem.W.keepIn K (.ref f10) = true)
    {f11 : Addr} {od11 an11 : Option Addr} {sl11 : Array (Option Value)} {oc11 kV11 dc11 pm11 cd11 ct11 : Value}
    (a11 : PySem.W.nsIn K mainGlobals "need_cards" = some (some (.ref f11)))
    (l11 : K.lookup f11 = some ⟨oc11, od11, .func (PySem.W.fnOf "need_cards" "need_cards" (defArgs st_need_cards) (defBody st_need_cards) (defScope st_need_cards) .none kV11 dc11 pm11 an11 cd11 ct11), sl11⟩) (c11 : PySem.W.codeIn K cd11 "need_cards" = true) (k11 : PySem.W.keepIn K (.ref f11) = true)
    {f12 : Addr} {od12 an12 : Option Addr} {sl12 : Array (Option Value)} {oc12 kV12 dc12 pm12 cd12 ct12 : Value}
    (a12 : PySem.W.nsIn K mainGlobals "are_stamps" = some (some (.ref f12)))
    (l12 : K.lookup f12 = some ⟨oc12, od12, .func (PySem.W.fnOf "are_stamps" "are_stamps" (defArgs st_are_stamps) (defBody st_are_stamps) (defScope st_are_stamps) .none kV12 dc12 pm12 an12 cd12 ct12), sl12⟩) (c12 : PySem.W.codeIn K cd12 "are_stamps" = true) (k12 : PySem.W.keepIn K (.ref f12) = true)
    {f13 : Addr} {od13 an13 : Option Addr} {sl13 : Array (Option Value)} {oc13 kV13 dc13 pm13 cd13 ct13 : Value}
    (a13 : PySem.W.nsIn K mainGlobals "is_all_purse" = some (some (.ref f13)))
    (l13 : K.lookup f13 = some ⟨oc13, od13, .func (PySem.W.fnOf "is_all_purse" "is_all_purse" (defArgs st_is_all_purse) (defBody st_is_all_purse) (defScope st_is_all_purse) .none kV13 dc13 pm13 an13 cd13 ct13), sl13⟩) (c13 : PySem.W.codeIn K cd13 "is_all_purse" = true) (k13 : PySem.W.keepIn K (.ref f13) = true)
    {f14 : Addr} {od14 an14 : Option Addr} {sl14 : Array (Option Value)} {oc14 kV14 dc14 pm14 cd14 ct14 : Value}
    (a14 : PySem.W.nsIn K mainGlobals "need_purse" = some (some (.ref f14)))
    (l14 : K.lookup f14 = some ⟨oc14, od14, .func (PySem.W.fnOf "need_purse" "need_purse" (defArgs st_need_purse) (defBody st_need_purse) (defScope st_need_purse) .none kV14 dc14 pm14 an14 cd14 ct14), sl14⟩) (c14 : PySem.W.codeIn K cd14 "need_purse" = true) (k14 : PySem.W.keepIn K (.ref f14) = true)
    {f15 : Addr} {od15 an15 : Option Addr} {sl15 : Array (Option Value)} {oc15 kV15 dc15 pm15 cd15 ct15 : Value}
    (i15 : PySem.W.findIn K (.ref C) "__init__" = some (some (.ref f15))) (n15 : PySem.W.isFn K (.ref f15) = true)
    (l15 : K.lookup f15 = some ⟨oc15, od15, .func (PySem.W.fnOf "__init__" "Kept.__init__" (defArgs st_Kept_init) (defBody st_Kept_init) (defScope st_Kept_init) .none kV15 dc15 pm15 an15 cd15 ct15), sl15⟩) (c15 : PySem.W.codeIn K cd15 "Kept.__init__" = true) (k15 : PySem.W.keepIn K (.ref f15) = true)
    {f16 : Addr} {od16 an16 : Option Addr} {sl16 : Array (Option Value)} {oc16 kV16 dc16 pm16 cd16 ct16 : Value}
    (a16 : PySem.W.nsIn K mainGlobals "_law_step" = some (some (.ref f16)))
    (l16 : K.lookup f16 = some ⟨oc16, od16, .func (PySem.W.fnOf "_law_step" "_law_step" (defArgs st_law_step) (defBody st_law_step) (defScope st_law_step) .none kV16 dc16 pm16 an16 cd16 ct16), sl16⟩) (c16 : PySem.W.codeIn K cd16 "_law_step" = true) (k16 : PySem.W.keepIn K (.ref f16) = true)
    {f17 : Addr} {od17 an17 : Option Addr} {sl17 : Array (Option Value)} {oc17 kV17 dc17 pm17 cd17 ct17 : Value}
    (a17 : PySem.W.nsIn K mainGlobals "_law_from" = some (some (.ref f17)))
    (l17 : K.lookup f17 = some ⟨oc17, od17, .func (PySem.W.fnOf "_law_from" "_law_from" (defArgs st_law_from) (defBody st_law_from) (defScope st_law_from) .none kV17 dc17 pm17 an17 cd17 ct17), sl17⟩) (c17 : PySem.W.codeIn K cd17 "_law_from" = true) (k17 : PySem.W.keepIn K (.ref f17) = true)
    {f18 : Addr} {od18 an18 : Option Addr} {sl18 : Array (Option Value)} {oc18 kV18 dc18 pm18 cd18 ct18 : Value}
    (a18 : PySem.W.nsIn K mainGlobals "_law_after" = some (some (.ref f18)))
    (l18 : K.lookup f18 = some ⟨oc18, od18, .func (PySem.W.fnOf "_law_after" "_law_after" (defArgs st_law_after) (defBody st_law_after) (defScope st_law_after) .none kV18 dc18 pm18 an18 cd18 ct18), sl18⟩) (c18 : PySem.W.codeIn K cd18 "_law_after" = true) (k18 : PySem.W.keepIn K (.ref f18) = true)
    {f19 : Addr} {od19 an19 : Option Addr} {sl19 : Array (Option Value)} {oc19 kV19 dc19 pm19 cd19 ct19 : Value}
    (a19 : PySem.W.nsIn K mainGlobals "done" = some (some (.ref f19)))
    (l19 : K.lookup f19 = some ⟨oc19, od19, .func (PySem.W.fnOf "done" "done" (defArgs st_done) (defBody st_done) (defScope st_done) .none kV19 dc19 pm19 an19 cd19 ct19), sl19⟩) (c19 : PySem.W.codeIn K cd19 "done" = true) (k19 : PySem.W.keepIn K (.ref f19) = true)
    {f20 : Addr} {od20 an20 : Option Addr} {sl20 : Array (Option Value)} {oc20 kV20 dc20 pm20 cd20 ct20 : Value}
    (i20 : PySem.W.findIn K (.ref C) "ride" = some (some (.ref f20))) (n20 : PySem.W.isFn K (.ref f20) = true)
    (l20 : K.lookup f20 = some ⟨oc20, od20, .func (PySem.W.fnOf "ride" "Kept.ride" (defArgs st_Kept_ride) (defBody st_Kept_ride) (defScope st_Kept_ride) .none kV20 dc20 pm20 an20 cd20 ct20), sl20⟩) (c20 : PySem.W.codeIn K cd20 "Kept.ride" = true) (k20 : PySem.W.keepIn K (.ref f20) = true)
    {f21 : Addr} {od21 an21 : Option Addr} {sl21 : Array (Option Value)} {oc21 kV21 dc21 pm21 cd21 ct21 : Value}
    (i21 : PySem.W.findIn K (.ref e11) "__init__" = some (some (.ref f21))) (n21 : PySem.W.typeIn K (.ref f21) = some (.type "function"))
    (l21 : K.lookup f21 = some ⟨oc21, od21, .func (PySem.W.fnOf "__init__" "TooFew.__init__" (defArgs st_TooFew_init) (defBody st_TooFew_init) (defScope st_TooFew_init) .none kV21 dc21 pm21 an21 cd21 ct21), sl21⟩) (c21 : PySem.W.codeIn K cd21 "TooFew.__init__" = true) (k21 : PySem.W.keepIn K (.ref f21) = true)
    {f22 : Addr} {od22 an22 : Option Addr} {sl22 : Array (Option Value)} {oc22 kV22 dc22 pm22 cd22 ct22 : Value}
    (i22 : PySem.W.findIn K (.ref C) "give" = some (some (.ref f22))) (n22 : PySem.W.isFn K (.ref f22) = true)
    (l22 : K.lookup f22 = some ⟨oc22, od22, .func (PySem.W.fnOf "give" "Kept.give" (defArgs st_Kept_give) (defBody st_Kept_give) (defScope st_Kept_give) .none kV22 dc22 pm22 an22 cd22 ct22), sl22⟩) (c22 : PySem.W.codeIn K cd22 "Kept.give" = true) (k22 : PySem.W.keepIn K (.ref f22) = true)
    {f23 : Addr} {od23 an23 : Option Addr} {sl23 : Array (Option Value)} {oc23 kV23 dc23 pm23 cd23 ct23 : Value}
    (i23 : PySem.W.findIn K (.ref C) "lend" = some (some (.ref f23))) (n23 : PySem.W.isFn K (.ref f23) = true)
    (l23 : K.lookup f23 = some ⟨oc23, od23, .func (PySem.W.fnOf "lend" "Kept.lend" (defArgs st_Kept_lend) (defBody st_Kept_lend) (defScope st_Kept_lend) .none kV23 dc23 pm23 an23 cd23 ct23), sl23⟩) (c23 : PySem.W.codeIn K cd23 "Kept.lend" = true) (k23 : PySem.W.keepIn K (.ref f23) = true)
    {f24 : Addr} {od24 an24 : Option Addr} {sl24 : Array (Option Value)} {oc24 kV24 dc24 pm24 cd24 ct24 : Value}
    (i24 : PySem.W.findIn K (.ref C) "back" = some (some (.ref f24))) (n24 : PySem.W.isFn K (.ref f24) = true)
    (l24 : K.lookup f24 = some ⟨oc24, od24, .func (PySem.W.fnOf "back" "Kept.back" (defArgs st_Kept_back) (defBody st_Kept_back) (defScope st_Kept_back) .none kV24 dc24 pm24 an24 cd24 ct24), sl24⟩) (c24 : PySem.W.codeIn K cd24 "Kept.back" = true) (k24 : PySem.W.keepIn K (.ref f24) = true)
    {f25 : Addr} {od25 an25 : Option Addr} {sl25 : Array (Option Value)} {oc25 kV25 dc25 pm25 cd25 ct25 : Value}
    (i25 : PySem.W.findIn K (.ref C) "pay" = some (some (.ref f25))) (n25 : PySem.W.isFn K (.ref f25) = true)
    (l25 : K.lookup f25 = some ⟨oc25, od25, .func (PySem.W.fnOf "pay" "Kept.pay" (defArgs st_Kept_pay) (defBody st_Kept_pay) (defScope st_Kept_pay) .none kV25 dc25 pm25 an25 cd25 ct25), sl25⟩) (c25 : PySem.W.codeIn K cd25 "Kept.pay" = true) (k25 : PySem.W.keepIn K (.ref f25) = true)
    {f26 : Addr} {od26 an26 : Option Addr} {sl26 : Array (Option Value)} {oc26 kV26 dc26 pm26 cd26 ct26 : Value}
    (a26 : PySem.W.nsIn K mainGlobals "_law_do" = some (some (.ref f26)))
    (l26 : K.lookup f26 = some ⟨oc26, od26, .func (PySem.W.fnOf "_law_do" "_law_do" (defArgs st_law_do) (defBody st_law_do) (defScope st_law_do) .none kV26 dc26 pm26 an26 cd26 ct26), sl26⟩) (c26 : PySem.W.codeIn K cd26 "_law_do" = true) (k26 : PySem.W.keepIn K (.ref f26) = true)
    {f27 : Addr} {od27 an27 : Option Addr} {sl27 : Array (Option Value)} {oc27 kV27 dc27 pm27 cd27 ct27 : Value}
    (a27 : PySem.W.nsIn K mainGlobals "_law_refused" = some (some (.ref f27)))
    (l27 : K.lookup f27 = some ⟨oc27, od27, .func (PySem.W.fnOf "_law_refused" "_law_refused" (defArgs st_law_refused) (defBody st_law_refused) (defScope st_law_refused) .none kV27 dc27 pm27 an27 cd27 ct27), sl27⟩) (c27 : PySem.W.codeIn K cd27 "_law_refused" = true) (k27 : PySem.W.keepIn K (.ref f27) = true)
    {f28 : Addr} {od28 an28 : Option Addr} {sl28 : Array (Option Value)} {oc28 kV28 dc28 pm28 cd28 ct28 : Value}
    (i28 : PySem.W.findIn K (.ref C) "__len__" = some (some (.ref f28))) (n28 : PySem.W.isFn K (.ref f28) = true)
    (l28 : K.lookup f28 = some ⟨oc28, od28, .func (PySem.W.fnOf "__len__" "Kept.__len__" (defArgs st_Kept_len) (defBody st_Kept_len) (defScope st_Kept_len) .none kV28 dc28 pm28 an28 cd28 ct28), sl28⟩) (c28 : PySem.W.codeIn K cd28 "Kept.__len__" = true) (k28 : PySem.W.keepIn K (.ref f28) = true)
    {f29 : Addr} {od29 an29 : Option Addr} {sl29 : Array (Option Value)} {oc29 kV29 dc29 pm29 cd29 ct29 : Value}
    (i29 : PySem.W.findIn K (.ref C) "lent" = some (some (.ref f29))) (n29 : PySem.W.isFn K (.ref f29) = true)
    (l29 : K.lookup f29 = some ⟨oc29, od29, .func (PySem.W.fnOf "lent" "Kept.lent" (defArgs st_Kept_lent) (defBody st_Kept_lent) (defScope st_Kept_lent) .none kV29 dc29 pm29 an29 cd29 ct29), sl29⟩) (c29 : PySem.W.codeIn K cd29 "Kept.lent" = true) (k29 : PySem.W.keepIn K (.ref f29) = true)
    {f30 : Addr} {od30 an30 : Option Addr} {sl30 : Array (Option Value)} {oc30 kV30 dc30 pm30 cd30 ct30 : Value}
    (i30 : PySem.W.findIn K (.ref C) "ridden" = some (some (.ref f30))) (n30 : PySem.W.isFn K (.ref f30) = true)
    (l30 : K.lookup f30 = some ⟨oc30, od30, .func (PySem.W.fnOf "ridden" "Kept.ridden" (defArgs st_Kept_ridden) (defBody st_Kept_ridden) (defScope st_Kept_ridden) .none kV30 dc30 pm30 an30 cd30 ct30), sl30⟩) (c30 : PySem.W.codeIn K cd30 "Kept.ridden" = true) (k30 : PySem.W.keepIn K (.ref f30) = true)
    {f31 : Addr} {od31 an31 : Option Addr} {sl31 : Array (Option Value)} {oc31 kV31 dc31 pm31 cd31 ct31 : Value}
    (i31 : PySem.W.findIn K (.ref C) "purse" = some (some (.ref f31))) (n31 : PySem.W.isFn K (.ref f31) = true)
    (l31 : K.lookup f31 = some ⟨oc31, od31, .func (PySem.W.fnOf "purse" "Kept.purse" (defArgs st_Kept_purse) (defBody st_Kept_purse) (defScope st_Kept_purse) .none kV31 dc31 pm31 an31 cd31 ct31), sl31⟩) (c31 : PySem.W.codeIn K cd31 "Kept.purse" = true) (k31 : PySem.W.keepIn K (.ref f31) = true)
    {f32 : Addr} {od32 an32 : Option Addr} {sl32 : Array (Option Value)} {oc32 kV32 dc32 pm32 cd32 ct32 : Value}
    (i32 : PySem.W.findIn K (.ref C) "__eq__" = some (some (.ref f32))) (n32 : PySem.W.isFn K (.ref f32) = true)
    (l32 : K.lookup f32 = some ⟨oc32, od32, .func (PySem.W.fnOf "__eq__" "Kept.__eq__" (defArgs st_Kept_eq) (defBody st_Kept_eq) (defScope st_Kept_eq) .none kV32 dc32 pm32 an32 cd32 ct32), sl32⟩) (c32 : PySem.W.codeIn K cd32 "Kept.__eq__" = true) (k32 : PySem.W.keepIn K (.ref f32) = true)
    {f33 : Addr} {od33 an33 : Option Addr} {sl33 : Array (Option Value)} {oc33 kV33 dc33 pm33 cd33 ct33 : Value}
    (a33 : PySem.W.nsIn K mainGlobals "common" = some (some (.ref f33)))
    (l33 : K.lookup f33 = some ⟨oc33, od33, .func (PySem.W.fnOf "common" "common" (defArgs st_common) (defBody st_common) (defScope st_common) .none kV33 dc33 pm33 an33 cd33 ct33), sl33⟩) (c33 : PySem.W.codeIn K cd33 "common" = true) (k33 : PySem.W.keepIn K (.ref f33) = true)
    {f34 : Addr} {od34 an34 : Option Addr} {sl34 : Array (Option Value)} {oc34 kV34 dc34 pm34 cd34 ct34 : Value}
    (a34 : PySem.W.nsIn K mainGlobals "period" = some (some (.ref f34)))
    (l34 : K.lookup f34 = some ⟨oc34, od34, .func (PySem.W.fnOf "period" "period" (defArgs st_period) (defBody st_period) (defScope st_period) .none kV34 dc34 pm34 an34 cd34 ct34), sl34⟩) (c34 : PySem.W.codeIn K cd34 "period" = true) (k34 : PySem.W.keepIn K (.ref f34) = true)
    {f35 : Addr} {od35 an35 : Option Addr} {sl35 : Array (Option Value)} {oc35 kV35 dc35 pm35 cd35 ct35 : Value}
    (a35 : PySem.W.nsIn K mainGlobals "wears_off" = some (some (.ref f35)))
    (l35 : K.lookup f35 = some ⟨oc35, od35, .func (PySem.W.fnOf "wears_off" "wears_off" (defArgs st_wears_off) (defBody st_wears_off) (defScope st_wears_off) .none kV35 dc35 pm35 an35 cd35 ct35), sl35⟩) (c35 : PySem.W.codeIn K cd35 "wears_off" = true) (k35 : PySem.W.keepIn K (.ref f35) = true)
    {f36 : Addr} {od36 an36 : Option Addr} {sl36 : Array (Option Value)} {oc36 kV36 dc36 pm36 cd36 ct36 : Value}
    (a36 : PySem.W.nsIn K mainGlobals "paid" = some (some (.ref f36)))
    (l36 : K.lookup f36 = some ⟨oc36, od36, .func (PySem.W.fnOf "paid" "paid" (defArgs st_paid) (defBody st_paid) (defScope st_paid) .none kV36 dc36 pm36 an36 cd36 ct36), sl36⟩) (c36 : PySem.W.codeIn K cd36 "paid" = true) (k36 : PySem.W.keepIn K (.ref f36) = true)
    {f37 : Addr} {od37 an37 : Option Addr} {sl37 : Array (Option Value)} {oc37 kV37 dc37 pm37 cd37 ct37 : Value}
    (a37 : PySem.W.nsIn K mainGlobals "wanted" = some (some (.ref f37)))
    (l37 : K.lookup f37 = some ⟨oc37, od37, .func (PySem.W.fnOf "wanted" "wanted" (defArgs st_wanted) (defBody st_wanted) (defScope st_wanted) .none kV37 dc37 pm37 an37 cd37 ct37), sl37⟩) (c37 : PySem.W.codeIn K cd37 "wanted" = true) (k37 : PySem.W.keepIn K (.ref f37) = true)
    {f38 : Addr} {od38 an38 : Option Addr} {sl38 : Array (Option Value)} {oc38 kV38 dc38 pm38 cd38 ct38 : Value}
    (a38 : PySem.W.nsIn K mainGlobals "endless_from" = some (some (.ref f38)))
    (l38 : K.lookup f38 = some ⟨oc38, od38, .func (PySem.W.fnOf "endless_from" "endless_from" (defArgs st_endless_from) (defBody st_endless_from) (defScope st_endless_from) .none kV38 dc38 pm38 an38 cd38 ct38), sl38⟩) (c38 : PySem.W.codeIn K cd38 "endless_from" = true) (k38 : PySem.W.keepIn K (.ref f38) = true)
    {f39 : Addr} {od39 an39 : Option Addr} {sl39 : Array (Option Value)} {oc39 kV39 dc39 pm39 cd39 ct39 : Value}
    (a39 : PySem.W.nsIn K mainGlobals "in_all" = some (some (.ref f39)))
    (l39 : K.lookup f39 = some ⟨oc39, od39, .func (PySem.W.fnOf "in_all" "in_all" (defArgs st_in_all) (defBody st_in_all) (defScope st_in_all) .none kV39 dc39 pm39 an39 cd39 ct39), sl39⟩) (c39 : PySem.W.codeIn K cd39 "in_all" = true) (k39 : PySem.W.keepIn K (.ref f39) = true)
    {f40 : Addr} {od40 an40 : Option Addr} {sl40 : Array (Option Value)} {oc40 kV40 dc40 pm40 cd40 ct40 : Value}
    (i40 : PySem.W.findIn K (.ref C) "still" = some (some (.ref f40))) (n40 : PySem.W.isFn K (.ref f40) = true)
    (l40 : K.lookup f40 = some ⟨oc40, od40, .func (PySem.W.fnOf "still" "Kept.still" (defArgs st_Kept_still) (defBody st_Kept_still) (defScope st_Kept_still) .none kV40 dc40 pm40 an40 cd40 ct40), sl40⟩) (c40 : PySem.W.codeIn K cd40 "Kept.still" = true) (k40 : PySem.W.keepIn K (.ref f40) = true)
    {f41 : Addr} {od41 an41 : Option Addr} {sl41 : Array (Option Value)} {oc41 kV41 dc41 pm41 cd41 ct41 : Value}
    (a41 : PySem.W.nsIn K mainGlobals "_law_paid" = some (some (.ref f41)))
    (l41 : K.lookup f41 = some ⟨oc41, od41, .func (PySem.W.fnOf "_law_paid" "_law_paid" (defArgs st_law_paid) (defBody st_law_paid) (defScope st_law_paid) .none kV41 dc41 pm41 an41 cd41 ct41), sl41⟩) (c41 : PySem.W.codeIn K cd41 "_law_paid" = true) (k41 : PySem.W.keepIn K (.ref f41) = true)
    {f42 : Addr} {od42 an42 : Option Addr} {sl42 : Array (Option Value)} {oc42 kV42 dc42 pm42 cd42 ct42 : Value}
    (a42 : PySem.W.nsIn K mainGlobals "_law_common" = some (some (.ref f42)))
    (l42 : K.lookup f42 = some ⟨oc42, od42, .func (PySem.W.fnOf "_law_common" "_law_common" (defArgs st_law_common) (defBody st_law_common) (defScope st_law_common) .none kV42 dc42 pm42 an42 cd42 ct42), sl42⟩) (c42 : PySem.W.codeIn K cd42 "_law_common" = true) (k42 : PySem.W.keepIn K (.ref f42) = true)
    {f43 : Addr} {od43 an43 : Option Addr} {sl43 : Array (Option Value)} {oc43 kV43 dc43 pm43 cd43 ct43 : Value}
    (a43 : PySem.W.nsIn K mainGlobals "_law_whole" = some (some (.ref f43)))
    (l43 : K.lookup f43 = some ⟨oc43, od43, .func (PySem.W.fnOf "_law_whole" "_law_whole" (defArgs st_law_whole) (defBody st_law_whole) (defScope st_law_whole) .none kV43 dc43 pm43 an43 cd43 ct43), sl43⟩) (c43 : PySem.W.codeIn K cd43 "_law_whole" = true) (k43 : PySem.W.keepIn K (.ref f43) = true)
    {f44 : Addr} {od44 an44 : Option Addr} {sl44 : Array (Option Value)} {oc44 kV44 dc44 pm44 cd44 ct44 : Value}
    (a44 : PySem.W.nsIn K mainGlobals "_law_wears" = some (some (.ref f44)))
    (l44 : K.lookup f44 = some ⟨oc44, od44, .func (PySem.W.fnOf "_law_wears" "_law_wears" (defArgs st_law_wears) (defBody st_law_wears) (defScope st_law_wears) .none kV44 dc44 pm44 an44 cd44 ct44), sl44⟩) (c44 : PySem.W.codeIn K cd44 "_law_wears" = true) (k44 : PySem.W.keepIn K (.ref f44) = true)
    {f45 : Addr} {od45 an45 : Option Addr} {sl45 : Array (Option Value)} {oc45 kV45 dc45 pm45 cd45 ct45 : Value}
    (a45 : PySem.W.nsIn K mainGlobals "_law_rest" = some (some (.ref f45)))
    (l45 : K.lookup f45 = some ⟨oc45, od45, .func (PySem.W.fnOf "_law_rest" "_law_rest" (defArgs st_law_rest) (defBody st_law_rest) (defScope st_law_rest) .none kV45 dc45 pm45 an45 cd45 ct45), sl45⟩) (c45 : PySem.W.codeIn K cd45 "_law_rest" = true) (k45 : PySem.W.keepIn K (.ref f45) = true)
    {f46 : Addr} {od46 an46 : Option Addr} {sl46 : Array (Option Value)} {oc46 kV46 dc46 pm46 ct46 : Value}
    (a46 : PySem.W.nsIn K mainGlobals "law" = some (some (.ref f46)))
    (l46 : K.lookup f46 = some ⟨oc46, od46, .func (PySem.W.fnOf "law" "law" (defArgs st_law) (defBody st_law) (defScope st_law) .none kV46 dc46 pm46 an46 (.ref cL0) ct46), sl46⟩) (c46 : PySem.W.codeIn K (.ref cL0) "law" = true) (k46 : PySem.W.keepIn K (.ref f46) = true)
    {pL0 : Addr} {ecL0 : Value} {dcL0 : Option Addr} {vcL0 : Array Value} {scL0 : Array (Option Value)}
    (lC0 : K.lookup cL0 = some ⟨ecL0, dcL0, .fields vcL0, scL0⟩)
    (lP0 : vcL0[11]? = some (.ref pL0))
    (hC0 : PySem.W.codeHdIn K cL0 pL0 = true)
    (nP0 : K.lookup pL0 = none)
    {tF : Tok}
    (gF : PySem.W.nsIn K mainGlobals "FAR" = some (some (.int 1000000000000000000 tF)))
    (z_len : PySem.W.nsIn K mainGlobals "len" = some none)
    (z_max : PySem.W.nsIn K mainGlobals "max" = some none)
    (z_min : PySem.W.nsIn K mainGlobals "min" = some none)
    (z_sum : PySem.W.nsIn K mainGlobals "sum" = some none)
    (z_all : PySem.W.nsIn K mainGlobals "all" = some none)
    (z_tuple : PySem.W.nsIn K mainGlobals "tuple" = some none)
    (z_int : PySem.W.nsIn K mainGlobals "int" = some none)
    (z_list : PySem.W.nsIn K mainGlobals "list" = some none)
    (z_range : PySem.W.nsIn K mainGlobals "range" = some none)
    (z_zip : PySem.W.nsIn K mainGlobals "zip" = some none)
    (z_enumerate : PySem.W.nsIn K mainGlobals "enumerate" = some none)
    (z_isinstance : PySem.W.nsIn K mainGlobals "isinstance" = some none)
    (z_bool : PySem.W.nsIn K mainGlobals "bool" = some none)
    (z_sorted : PySem.W.nsIn K mainGlobals "sorted" = some none)
    (z_set : PySem.W.nsIn K mainGlobals "set" = some none)
    (z_repr : PySem.W.nsIn K mainGlobals "repr" = some none)
    (z_str : PySem.W.nsIn K mainGlobals "str" = some none)
    (z_ValueError : PySem.W.nsIn K mainGlobals "ValueError" = some none)
    (et0 : PySem.W.typeIn K (.ref e0) = some (.type "type"))
    (eh0 : PySem.W.hasDictIn K e0 = true)
    (et1 : PySem.W.typeIn K (.ref e1) = some (.type "type"))
    (eh1 : PySem.W.hasDictIn K e1 = true)
    (et2 : PySem.W.typeIn K (.ref e2) = some (.type "type"))
    (eh2 : PySem.W.hasDictIn K e2 = true)
    (et3 : PySem.W.typeIn K (.ref e3) = some (.type "type"))
    (eh3 : PySem.W.hasDictIn K e3 = true)
    (et4 : PySem.W.typeIn K (.ref e4) = some (.type "type"))
    (eh4 : PySem.W.hasDictIn K e4 = true)
    (et5 : PySem.W.typeIn K (.ref e5) = some (.type "type"))
    (eh5 : PySem.W.hasDictIn K e5 = true)
    (et6 : PySem.W.typeIn K (.ref e6) = some (.type "type"))
    (eh6 : PySem.W.hasDictIn K e6 = true)
    (et7 : PySem.W.typeIn K (.ref e7) = some (.type "type"))
    (eh7 : PySem.W.hasDictIn K e7 = true)
    (et8 : PySem.W.typeIn K (.ref e8) = some (.type "type"))
    (eh8 : PySem.W.hasDictIn K e8 = true)
    (et9 : PySem.W.typeIn K (.ref e9) = some (.type "type"))
    (eh9 : PySem.W.hasDictIn K e9 = true)
    (et10 : PySem.W.typeIn K (.ref e10) = some (.type "type"))
    (eh10 : PySem.W.hasDictIn K e10 = true)
    (et11 : PySem.W.typeIn K (.ref e11) = some (.type "type"))
    (eh11 : PySem.W.hasDictIn K e11 = true)
    (ex4 : PySem.W.excIn K e4 [.type "ValueError", .type "Exception", .type "BaseException", .type "object"] "ValueError.__new__" = true)
    (ek4 : PySem.W.keepIn K (.ref e4) = true)
    (eb4 : PySem.W.subIn K (.ref e4) (.type "BaseException") = some true)
    (ex7 : PySem.W.excIn K e7 [.type "ValueError", .type "Exception", .type "BaseException", .type "object"] "ValueError.__new__" = true)
    (ek7 : PySem.W.keepIn K (.ref e7) = true)
    (eb7 : PySem.W.subIn K (.ref e7) (.type "BaseException") = some true)
    (ex8 : PySem.W.excIn K e8 [.type "ValueError", .type "Exception", .type "BaseException", .type "object"] "ValueError.__new__" = true)
    (ek8 : PySem.W.keepIn K (.ref e8) = true)
    (eb8 : PySem.W.subIn K (.ref e8) (.type "BaseException") = some true)
    (ex9 : PySem.W.excIn K e9 [.type "ValueError", .type "Exception", .type "BaseException", .type "object"] "ValueError.__new__" = true)
    (ek9 : PySem.W.keepIn K (.ref e9) = true)
    (eb9 : PySem.W.subIn K (.ref e9) (.type "BaseException") = some true)
    (ex10 : PySem.W.excIn K e10 [.type "ValueError", .type "Exception", .type "BaseException", .type "object"] "ValueError.__new__" = true)
    (ek10 : PySem.W.keepIn K (.ref e10) = true)
    (eb10 : PySem.W.subIn K (.ref e10) (.type "BaseException") = some true)
    (ek11 : PySem.W.keepIn K (.ref e11) = true)
    (eb11 : PySem.W.subIn K (.ref e11) (.type "BaseException") = some true)
    {eR : Addr}
    (egR : PySem.W.nsIn K mainGlobals "RideError" = some (some (.ref eR)))
    (etR : PySem.W.typeIn K (.ref eR) = some (.type "type"))
    (ehR : PySem.W.hasDictIn K eR = true)
    (ebR : PySem.W.subIn K (.ref eR) (.type "BaseException") = some true)
    (spR : PySem.W.specialIn K (.ref eR) "__getattribute__" = some (some (.builtin "type.__getattribute__")))
    (rdR : PySem.W.readsIn K eR (.type "type") = true)
    (fiR : PySem.W.findCls K (.ref eR) (.type "type") "__init__" = some (.val (.builtin "ValueError.__init__")))
    (hsp : PySem.W.specialIn K (.builtin "object.__class__") "__get__" = some (some (.builtin "getset_descriptor.__get__")))
    (htk : PySem.W.takesIn K (.builtin "object.__class__") = some true)
    (ev4 : PySem.W.subIn K (.ref e4) (.type "ValueError") = some true)
    (ea4 : PySem.W.findIn K (.ref e4) "__getattribute__" = some (some (.builtin "BaseException.__getattribute__")))
    (en4 : PySem.W.findIn K (.ref e4) "__getattr__" = some none)
    (ec4 : PySem.W.findIn K (.ref e4) "__class__" = some (some (.builtin "object.__class__")))
    (em4 : PySem.W.mroIn K e4 (.type "object") = some true)
    (er4 : PySem.W.subIn K (.ref e4) (.ref eR) = some true)
    (es4_0 : PySem.W.subIn K (.ref e4) (.ref e0) = some false)
    (es4_1 : PySem.W.subIn K (.ref e4) (.ref e1) = some false)
    (es4_2 : PySem.W.subIn K (.ref e4) (.ref e2) = some false)
    (es4_3 : PySem.W.subIn K (.ref e4) (.ref e3) = some false)
    (es4_4 : PySem.W.subIn K (.ref e4) (.ref e4) = some true)
    (es4_5 : PySem.W.subIn K (.ref e4) (.ref e5) = some false)
    (es4_6 : PySem.W.subIn K (.ref e4) (.ref e6) = some false)
    (es4_7 : PySem.W.subIn K (.ref e4) (.ref e7) = some false)
    (es4_8 : PySem.W.subIn K (.ref e4) (.ref e8) = some false)
    (es4_9 : PySem.W.subIn K (.ref e4) (.ref e9) = some false)
    (es4_10 : PySem.W.subIn K (.ref e4) (.ref e10) = some false)
    (es4_11 : PySem.W.subIn K (.ref e4) (.ref e11) = some false)
    (ed4_0 : (Value.ref e4 == Value.ref e0) = false)
    (ed4_1 : (Value.ref e4 == Value.ref e1) = false)
    (ed4_2 : (Value.ref e4 == Value.ref e2) = false)
    (ed4_3 : (Value.ref e4 == Value.ref e3) = false)
    (ed4_5 : (Value.ref e4 == Value.ref e5) = false)
    (ed4_6 : (Value.ref e4 == Value.ref e6) = false)
    (ed4_7 : (Value.ref e4 == Value.ref e7) = false)
    (ed4_8 : (Value.ref e4 == Value.ref e8) = false)
    (ed4_9 : (Value.ref e4 == Value.ref e9) = false)
    (ed4_10 : (Value.ref e4 == Value.ref e10) = false)
    (ev7 : PySem.W.subIn K (.ref e7) (.type "ValueError") = some true)
    (ea7 : PySem.W.findIn K (.ref e7) "__getattribute__" = some (some (.builtin "BaseException.__getattribute__")))
    (en7 : PySem.W.findIn K (.ref e7) "__getattr__" = some none)
    (ec7 : PySem.W.findIn K (.ref e7) "__class__" = some (some (.builtin "object.__class__")))
    (em7 : PySem.W.mroIn K e7 (.type "object") = some true)
    (er7 : PySem.W.subIn K (.ref e7) (.ref eR) = some true)
    (es7_0 : PySem.W.subIn K (.ref e7) (.ref e0) = some false)
    (es7_1 : PySem.W.subIn K (.ref e7) (.ref e1) = some false)
    (es7_2 : PySem.W.subIn K (.ref e7) (.ref e2) = some false)
    (es7_3 : PySem.W.subIn K (.ref e7) (.ref e3) = some false)
    (es7_4 : PySem.W.subIn K (.ref e7) (.ref e4) = some false)
    (es7_5 : PySem.W.subIn K (.ref e7) (.ref e5) = some false)
    (es7_6 : PySem.W.subIn K (.ref e7) (.ref e6) = some false)
    (es7_7 : PySem.W.subIn K (.ref e7) (.ref e7) = some true)
    (es7_8 : PySem.W.subIn K (.ref e7) (.ref e8) = some false)
    (es7_9 : PySem.W.subIn K (.ref e7) (.ref e9) = some false)
    (es7_10 : PySem.W.subIn K (.ref e7) (.ref e10) = some false)
    (es7_11 : PySem.W.subIn K (.ref e7) (.ref e11) = some false)
    (ed7_0 : (Value.ref e7 == Value.ref e0) = false)
    (ed7_1 : (Value.ref e7 == Value.ref e1) = false)
    (ed7_2 : (Value.ref e7 == Value.ref e2) = false)
    (ed7_3 : (Value.ref e7 == Value.ref e3) = false)
    (ed7_4 : (Value.ref e7 == Value.ref e4) = false)
    (ed7_5 : (Value.ref e7 == Value.ref e5) = false)
    (ed7_6 : (Value.ref e7 == Value.ref e6) = false)
    (ed7_8 : (Value.ref e7 == Value.ref e8) = false)
    (ed7_9 : (Value.ref e7 == Value.ref e9) = false)
    (ed7_10 : (Value.ref e7 == Value.ref e10) = false)
    (ev8 : PySem.W.subIn K (.ref e8) (.type "ValueError") = some true)
    (ea8 : PySem.W.findIn K (.ref e8) "__getattribute__" = some (some (.builtin "BaseException.__getattribute__")))
    (en8 : PySem.W.findIn K (.ref e8) "__getattr__" = some none)
    (ec8 : PySem.W.findIn K (.ref e8) "__class__" = some (some (.builtin "object.__class__")))
    (em8 : PySem.W.mroIn K e8 (.type "object") = some true)
    (er8 : PySem.W.subIn K (.ref e8) (.ref eR) = some true)
    (es8_0 : PySem.W.subIn K (.ref e8) (.ref e0) = some false)
    (es8_1 : PySem.W.subIn K (.ref e8) (.ref e1) = some false)
    (es8_2 : PySem.W.subIn K (.ref e8) (.ref e2) = some false)
    (es8_3 : PySem.W.subIn K (.ref e8) (.ref e3) = some false)
    (es8_4 : PySem.W.subIn K (.ref e8) (.ref e4) = some false)
    (es8_5 : PySem.W.subIn K (.ref e8) (.ref e5) = some false)
    (es8_6 : PySem.W.subIn K (.ref e8) (.ref e6) = some false)
    (es8_7 : PySem.W.subIn K (.ref e8) (.ref e7) = some false)
    (es8_8 : PySem.W.subIn K (.ref e8) (.ref e8) = some true)
    (es8_9 : PySem.W.subIn K (.ref e8) (.ref e9) = some false)
    (es8_10 : PySem.W.subIn K (.ref e8) (.ref e10) = some false)
    (es8_11 : PySem.W.subIn K (.ref e8) (.ref e11) = some false)
    (ed8_0 : (Value.ref e8 == Value.ref e0) = false)
    (ed8_1 : (Value.ref e8 == Value.ref e1) = false)
    (ed8_2 : (Value.ref e8 == Value.ref e2) = false)
    (ed8_3 : (Value.ref e8 == Value.ref e3) = false)
    (ed8_4 : (Value.ref e8 == Value.ref e4) = false)
    (ed8_5 : (Value.ref e8 == Value.ref e5) = false)
    (ed8_6 : (Value.ref e8 == Value.ref e6) = false)
    (ed8_7 : (Value.ref e8 == Value.ref e7) = false)
    (ed8_9 : (Value.ref e8 == Value.ref e9) = false)
    (ed8_10 : (Value.ref e8 == Value.ref e10) = false)
    (ev9 : PySem.W.subIn K (.ref e9) (.type "ValueError") = some true)
    (ea9 : PySem.W.findIn K (.ref e9) "__getattribute__" = some (some (.builtin "BaseException.__getattribute__")))
    (en9 : PySem.W.findIn K (.ref e9) "__getattr__" = some none)
    (ec9 : PySem.W.findIn K (.ref e9) "__class__" = some (some (.builtin "object.__class__")))
    (em9 : PySem.W.mroIn K e9 (.type "object") = some true)
    (er9 : PySem.W.subIn K (.ref e9) (.ref eR) = some true)
    (es9_0 : PySem.W.subIn K (.ref e9) (.ref e0) = some false)
    (es9_1 : PySem.W.subIn K (.ref e9) (.ref e1) = some false)
    (es9_2 : PySem.W.subIn K (.ref e9) (.ref e2) = some false)
    (es9_3 : PySem.W.subIn K (.ref e9) (.ref e3) = some false)
    (es9_4 : PySem.W.subIn K (.ref e9) (.ref e4) = some false)
    (es9_5 : PySem.W.subIn K (.ref e9) (.ref e5) = some false)
    (es9_6 : PySem.W.subIn K (.ref e9) (.ref e6) = some false)
    (es9_7 : PySem.W.subIn K (.ref e9) (.ref e7) = some false)
    (es9_8 : PySem.W.subIn K (.ref e9) (.ref e8) = some false)
    (es9_9 : PySem.W.subIn K (.ref e9) (.ref e9) = some true)
    (es9_10 : PySem.W.subIn K (.ref e9) (.ref e10) = some false)
    (es9_11 : PySem.W.subIn K (.ref e9) (.ref e11) = some false)
    (ed9_0 : (Value.ref e9 == Value.ref e0) = false)
    (ed9_1 : (Value.ref e9 == Value.ref e1) = false)
    (ed9_2 : (Value.ref e9 == Value.ref e2) = false)
    (ed9_3 : (Value.ref e9 == Value.ref e3) = false)
    (ed9_4 : (Value.ref e9 == Value.ref e4) = false)
    (ed9_5 : (Value.ref e9 == Value.ref e5) = false)
    (ed9_6 : (Value.ref e9 == Value.ref e6) = false)
    (ed9_7 : (Value.ref e9 == Value.ref e7) = false)
    (ed9_8 : (Value.ref e9 == Value.ref e8) = false)
    (ed9_10 : (Value.ref e9 == Value.ref e10) = false)
    (ev10 : PySem.W.subIn K (.ref e10) (.type "ValueError") = some true)
    (ea10 : PySem.W.findIn K (.ref e10) "__getattribute__" = some (some (.builtin "BaseException.__getattribute__")))
    (en10 : PySem.W.findIn K (.ref e10) "__getattr__" = some none)
    (ec10 : PySem.W.findIn K (.ref e10) "__class__" = some (some (.builtin "object.__class__")))
    (em10 : PySem.W.mroIn K e10 (.type "object") = some true)
    (er10 : PySem.W.subIn K (.ref e10) (.ref eR) = some true)
    (es10_0 : PySem.W.subIn K (.ref e10) (.ref e0) = some false)
    (es10_1 : PySem.W.subIn K (.ref e10) (.ref e1) = some false)
    (es10_2 : PySem.W.subIn K (.ref e10) (.ref e2) = some false)
    (es10_3 : PySem.W.subIn K (.ref e10) (.ref e3) = some false)
    (es10_4 : PySem.W.subIn K (.ref e10) (.ref e4) = some false)
    (es10_5 : PySem.W.subIn K (.ref e10) (.ref e5) = some false)
    (es10_6 : PySem.W.subIn K (.ref e10) (.ref e6) = some false)
    (es10_7 : PySem.W.subIn K (.ref e10) (.ref e7) = some false)
    (es10_8 : PySem.W.subIn K (.ref e10) (.ref e8) = some false)
    (es10_9 : PySem.W.subIn K (.ref e10) (.ref e9) = some false)
    (es10_10 : PySem.W.subIn K (.ref e10) (.ref e10) = some true)
    (es10_11 : PySem.W.subIn K (.ref e10) (.ref e11) = some false)
    (ed10_0 : (Value.ref e10 == Value.ref e0) = false)
    (ed10_1 : (Value.ref e10 == Value.ref e1) = false)
    (ed10_2 : (Value.ref e10 == Value.ref e2) = false)
    (ed10_3 : (Value.ref e10 == Value.ref e3) = false)
    (ed10_4 : (Value.ref e10 == Value.ref e4) = false)
    (ed10_5 : (Value.ref e10 == Value.ref e5) = false)
    (ed10_6 : (Value.ref e10 == Value.ref e6) = false)
    (ed10_7 : (Value.ref e10 == Value.ref e7) = false)
    (ed10_8 : (Value.ref e10 == Value.ref e8) = false)
    (ed10_9 : (Value.ref e10 == Value.ref e9) = false)
    (ev11 : PySem.W.subIn K (.ref e11) (.type "ValueError") = some true)
    (ea11 : PySem.W.findIn K (.ref e11) "__getattribute__" = some (some (.builtin "BaseException.__getattribute__")))
    (en11 : PySem.W.findIn K (.ref e11) "__getattr__" = some none)
    (ec11 : PySem.W.findIn K (.ref e11) "__class__" = some (some (.builtin "object.__class__")))
    (em11 : PySem.W.mroIn K e11 (.type "object") = some true)
    (er11 : PySem.W.subIn K (.ref e11) (.ref eR) = some true)
    (es11_0 : PySem.W.subIn K (.ref e11) (.ref e0) = some false)
    (es11_1 : PySem.W.subIn K (.ref e11) (.ref e1) = some false)
    (es11_2 : PySem.W.subIn K (.ref e11) (.ref e2) = some false)
    (es11_3 : PySem.W.subIn K (.ref e11) (.ref e3) = some false)
    (es11_4 : PySem.W.subIn K (.ref e11) (.ref e4) = some false)
    (es11_5 : PySem.W.subIn K (.ref e11) (.ref e5) = some false)
    (es11_6 : PySem.W.subIn K (.ref e11) (.ref e6) = some false)
    (es11_7 : PySem.W.subIn K (.ref e11) (.ref e7) = some false)
    (es11_8 : PySem.W.subIn K (.ref e11) (.ref e8) = some false)
    (es11_9 : PySem.W.subIn K (.ref e11) (.ref e9) = some false)
    (es11_10 : PySem.W.subIn K (.ref e11) (.ref e10) = some false)
    (es11_11 : PySem.W.subIn K (.ref e11) (.ref e11) = some true)
    (ed11_0 : (Value.ref e11 == Value.ref e0) = false)
    (ed11_1 : (Value.ref e11 == Value.ref e1) = false)
    (ed11_2 : (Value.ref e11 == Value.ref e2) = false)
    (ed11_3 : (Value.ref e11 == Value.ref e3) = false)
    (ed11_4 : (Value.ref e11 == Value.ref e4) = false)
    (ed11_5 : (Value.ref e11 == Value.ref e5) = false)
    (ed11_6 : (Value.ref e11 == Value.ref e6) = false)
    (ed11_7 : (Value.ref e11 == Value.ref e7) = false)
    (ed11_8 : (Value.ref e11 == Value.ref e8) = false)
    (ed11_9 : (Value.ref e11 == Value.ref e9) = false)
    (ed11_10 : (Value.ref e11 == Value.ref e10) = false)
    (sa11 : PySem.W.findIn K (.ref e11) "__setattr__" = some (some (.builtin "object.__setattr__")))
    (nk11 : PySem.W.findIn K (.ref e11) "kind" = some none)
    {nmT qT : Str} {NT : Addr} {bsT bmT suT : List Value} {snT : List Str} {abT : Bool} {coT : Option Bool} {ddT : Option Addr} {k0T k1T k2T k3T k5T : Option Value}
    (lkT : K.lookup e11 = some (excClassObj nmT qT e11 NT bsT bmT true snT suT abT coT ddT k0T k1T k2T k3T k5T "ValueError.__new__"))
    (rvT : PySem.HandSPX.refsVE bmT = true)
    (nT0 : h.get? pL0 = some (PySem.W.tabObj #[])) : LamX.LawAtS l w K CX0 7 63 "script" mg fa h := by
  have e := hfa.symm.trans (PySem.W.mg_of X G a46)
  cases e
  have b : Bt mg := { len_ := PySem.W.mg_none_of X G z_len, max_ := PySem.W.mg_none_of X G z_max, min_ := PySem.W.mg_none_of X G z_min, sum_ := PySem.W.mg_none_of X G z_sum, all_ := PySem.W.mg_none_of X G z_all, tuple_ := PySem.W.mg_none_of X G z_tuple, int_ := PySem.W.mg_none_of X G z_int, list_ := PySem.W.mg_none_of X G z_list, range_ := PySem.W.mg_none_of X G z_range, zip_ := PySem.W.mg_none_of X G z_zip, enumerate_ := PySem.W.mg_none_of X G z_enumerate, isinstance_ := PySem.W.mg_none_of X G z_isinstance, bool_ := PySem.W.mg_none_of X G z_bool, sorted_ := PySem.W.mg_none_of X G z_sorted, set_ := PySem.W.mg_none_of X G z_set, repr_ := PySem.W.mg_none_of X G z_repr, str_ := PySem.W.mg_none_of X G z_str, g_FAR := ⟨tF, PySem.W.mg_of X G gF⟩ }
  have fl : Fld K C := ⟨⟨pgC, hdC, poC, saC⟩, ncC, npC⟩
  have kc : KCls K mg C := ⟨⟨pgC, hdC, poC, saC⟩, ⟨caC, hsp, htk, cmC⟩, nfC, nfT, kit_mk hdC tyC sbC (fun _ => rfl), kit_tup hdC tyC sbT, PySem.W.mg_of X G gC⟩
  let sites : Nat → Option LamSite := fun n => match n with | 0 => some site_lam_law_0 | 1 => some site_lam_law_1 | _ => none
  have zo : ZO (ZKL K sites [(pL0, ("law" : Str) ++ ".<locals>." ++ "<lambda>")]) C := zkl_zo fun n hn => match n, hn with | 0, hn => absurd hn (by decide) | 1, hn => absurd hn (by decide) | n + 2, _ => rfl
  let cl : Nat → Addr := fun i => [e0, e1, e2, e3, e4, e5, e6, e7, e8, e9, e10, e11].getD i 0
  have E4 : ErrC K mg "NoNumber" (cl 4) := ⟨PySem.W.mg_of X G eg4, ex4, ek4, eb4, et4⟩
  have E7 : ErrC K mg "NoRide" (cl 7) := ⟨PySem.W.mg_of X G eg7, ex7, ek7, eb7, et7⟩
  have E8 : ErrC K mg "NoKind" (cl 8) := ⟨PySem.W.mg_of X G eg8, ex8, ek8, eb8, et8⟩
  have E9 : ErrC K mg "NoLoan" (cl 9) := ⟨PySem.W.mg_of X G eg9, ex9, ek9, eb9, et9⟩
  have E10 : ErrC K mg "NothingLeft" (cl 10) := ⟨PySem.W.mg_of X G eg10, ex10, ek10, eb10, et10⟩
  have er : Errs K mg cl eR liveK := {
    gT := PySem.W.mg_of X G eg11, gR := PySem.W.mg_of X G egR, nV := PySem.W.mg_none_of X G z_ValueError,
    g := lt11 (PySem.W.mg_of X G eg0) (PySem.W.mg_of X G eg1) (PySem.W.mg_of X G eg2) (PySem.W.mg_of X G eg3) (PySem.W.mg_of X G eg4) (PySem.W.mg_of X G eg5) (PySem.W.mg_of X G eg6) (PySem.W.mg_of X G eg7) (PySem.W.mg_of X G eg8) (PySem.W.mg_of X G eg9) (PySem.W.mg_of X G eg10),
    lt := (allc (by decide) (allc (by decide) (allc (by decide) (allc (by decide) (allc (by decide) (allc (by decide) alln)))))),
    exT := (allc (PySem.W.exm_ref eb11 eh11 et11 es4_11) (allc (PySem.W.exm_ref eb11 eh11 et11 es7_11) (allc (PySem.W.exm_ref eb11 eh11 et11 es8_11) (allc (PySem.W.exm_ref eb11 eh11 et11 es9_11) (allc (PySem.W.exm_ref eb11 eh11 et11 es10_11) (allc (PySem.W.exm_ref eb11 eh11 et11 es11_11) alln)))))),
    exR := (allc (PySem.W.exm_ref ebR ehR etR er4) (allc (PySem.W.exm_ref ebR ehR etR er7) (allc (PySem.W.exm_ref ebR ehR etR er8) (allc (PySem.W.exm_ref ebR ehR etR er9) (allc (PySem.W.exm_ref ebR ehR etR er10) (allc (PySem.W.exm_ref ebR ehR etR er11) alln)))))),
    kit := fun i j hi _ hj => ((allc (lt11 (kit_mk eh0 et0 es4_0 (fun z => absurd (ed4_0.symm.trans (show (Value.ref e4 == Value.ref e0) = true from z)) Bool.false_ne_true)) (kit_mk eh1 et1 es4_1 (fun z => absurd (ed4_1.symm.trans (show (Value.ref e4 == Value.ref e1) = true from z)) Bool.false_ne_true)) (kit_mk eh2 et2 es4_2 (fun z => absurd (ed4_2.symm.trans (show (Value.ref e4 == Value.ref e2) = true from z)) Bool.false_ne_true)) (kit_mk eh3 et3 es4_3 (fun z => absurd (ed4_3.symm.trans (show (Value.ref e4 == Value.ref e3) = true from z)) Bool.false_ne_true)) (kit_mk eh4 et4 es4_4 (fun z => rfl)) (kit_mk eh5 et5 es4_5 (fun z => absurd (ed4_5.symm.trans (show (Value.ref e4 == Value.ref e5) = true from z)) Bool.false_ne_true)) (kit_mk eh6 et6 es4_6 (fun z => absurd (ed4_6.symm.trans (show (Value.ref e4 == Value.ref e6) = true from z)) Bool.false_ne_true)) (kit_mk eh7 et7 es4_7 (fun z => absurd (ed4_7.symm.trans (show (Value.ref e4 == Value.ref e7) = true from z)) Bool.false_ne_true)) (kit_mk eh8 et8 es4_8 (fun z => absurd (ed4_8.symm.trans (show (Value.ref e4 == Value.ref e8) = true from z)) Bool.false_ne_true)) (kit_mk eh9 et9 es4_9 (fun z => absurd (ed4_9.symm.trans (show (Value.ref e4 == Value.ref e9) = true from z)) Bool.false_ne_true)) (kit_mk eh10 et10 es4_10 (fun z => absurd (ed4_10.symm.trans (show (Value.ref e4 == Value.ref e10) = true from z)) Bool.false_ne_true))) (allc (lt11 (kit_mk eh0 et0 es7_0 (fun z => absurd (ed7_0.symm.trans (show (Value.ref e7 == Value.ref e0) = true from z)) Bool.false_ne_true)) (kit_mk eh1 et1 es7_1 (fun z => absurd (ed7_1.symm.trans (show (Value.ref e7 == Value.ref e1) = true from z)) Bool.false_ne_true)) (kit_mk eh2 et2 es7_2 (fun z => absurd (ed7_2.symm.trans (show (Value.ref e7 == Value.ref e2) = true from z)) Bool.false_ne_true)) (kit_mk eh3 et3 es7_3 (fun z => absurd (ed7_3.symm.trans (show (Value.ref e7 == Value.ref e3) = true from z)) Bool.false_ne_true)) (kit_mk eh4 et4 es7_4 (fun z => absurd (ed7_4.symm.trans (show (Value.ref e7 == Value.ref e4) = true from z)) Bool.false_ne_true)) (kit_mk eh5 et5 es7_5 (fun z => absurd (ed7_5.symm.trans (show (Value.ref e7 == Value.ref e5) = true from z)) Bool.false_ne_true)) (kit_mk eh6 et6 es7_6 (fun z => absurd (ed7_6.symm.trans (show (Value.ref e7 == Value.ref e6) = true from z)) Bool.false_ne_true)) (kit_mk eh7 et7 es7_7 (fun z => rfl)) (kit_mk eh8 et8 es7_8 (fun z => absurd (ed7_8.symm.trans (show (Value.ref e7 == Value.ref e8) = true from z)) Bool.false_ne_true)) (kit_mk eh9 et9 es7_9 (fun z => absurd (ed7_9.symm.trans (show (Value.ref e7 == Value.ref e9) = true from z)) Bool.false_ne_true)) (kit_mk eh10 et10 es7_10 (fun z => absurd (ed7_10.symm.trans (show (Value.ref e7 == Value.ref e10) = true from z)) Bool.false_ne_true))) (allc (lt11 (kit_mk eh0 et0 es8_0 (fun z => absurd (ed8_0.symm.trans (show (Value.ref e8 == Value.ref e0) = true from z)) Bool.false_ne_true)) (kit_mk eh1 et1 es8_1 (fun z => absurd (ed8_1.symm.trans (show (Value.ref e8 == Value.ref e1) = true from z)) Bool.false_ne_true)) (kit_mk eh2 et2 es8_2 (fun z => absurd (ed8_2.symm.trans (show (Value.ref e8 == Value.ref e2) = true from z)) Bool.false_ne_true)) (kit_mk eh3 et3 es8_3 (fun z => absurd (ed8_3.symm.trans (show (Value.ref e8 == Value.ref e3) = true from z)) Bool.false_ne_true)) (kit_mk eh4 et4 es8_4 (fun z => absurd (ed8_4.symm.trans (show (Value.ref e8 == Value.ref e4) = true from z)) Bool.false_ne_true)) (kit_mk eh5 et5 es8_5 (fun z => absurd (ed8_5.symm.trans (show (Value.ref e8 == Value.ref e5) = true from z)) Bool.false_ne_true)) (kit_mk eh6 et6 es8_6 (fun z => absurd (ed8_6.symm.trans (show (Value.ref e8 == Value.ref e6) = true from z)) Bool.false_ne_true)) (kit_mk eh7 et7 es8_7 (fun z => absurd (ed8_7.symm.trans (show (Value.ref e8 == Value.ref e7) = true from z)) Bool.false_ne_true)) (kit_mk eh8 et8 es8_8 (fun z => rfl)) (kit_mk eh9 et9 es8_9 (fun z => absurd (ed8_9.symm.trans (show (Value.ref e8 == Value.ref e9) = true from z)) Bool.false_ne_true)) (kit_mk eh10 et10 es8_10 (fun z => absurd (ed8_10.symm.trans (show (Value.ref e8 == Value.ref e10) = true from z)) Bool.false_ne_true))) (allc (lt11 (kit_mk eh0 et0 es9_0 (fun z => absurd (ed9_0.symm.trans (show (Value.ref e9 == Value.ref e0) = true from z)) Bool.false_ne_true)) (kit_mk eh1 et1 es9_1 (fun z => absurd (ed9_1.symm.trans (show (Value.ref e9 == Value.ref e1) = true from z)) Bool.false_ne_true)) (kit_mk eh2 et2 es9_2 (fun z => absurd (ed9_2.symm.trans (show (Value.ref e9 == Value.ref e2) = true from z)) Bool.false_ne_true)) (kit_mk eh3 et3 es9_3 (fun z => absurd (ed9_3.symm.trans (show (Value.ref e9 == Value.ref e3) = true from z)) Bool.false_ne_true)) (kit_mk eh4 et4 es9_4 (fun z => absurd (ed9_4.symm.trans (show (Value.ref e9 == Value.ref e4) = true from z)) Bool.false_ne_true)) (kit_mk eh5 et5 es9_5 (fun z => absurd (ed9_5.symm.trans (show (Value.ref e9 == Value.ref e5) = true from z)) Bool.false_ne_true)) (kit_mk eh6 et6 es9_6 (fun z => absurd (ed9_6.symm.trans (show (Value.ref e9 == Value.ref e6) = true from z)) Bool.false_ne_true)) (kit_mk eh7 et7 es9_7 (fun z => absurd (ed9_7.symm.trans (show (Value.ref e9 == Value.ref e7) = true from z)) Bool.false_ne_true)) (kit_mk eh8 et8 es9_8 (fun z => absurd (ed9_8.symm.trans (show (Value.ref e9 == Value.ref e8) = true from z)) Bool.false_ne_true)) (kit_mk eh9 et9 es9_9 (fun z => rfl)) (kit_mk eh10 et10 es9_10 (fun z => absurd (ed9_10.symm.trans (show (Value.ref e9 == Value.ref e10) = true from z)) Bool.false_ne_true))) (allc (lt11 (kit_mk eh0 et0 es10_0 (fun z => absurd (ed10_0.symm.trans (show (Value.ref e10 == Value.ref e0) = true from z)) Bool.false_ne_true)) (kit_mk eh1 et1 es10_1 (fun z => absurd (ed10_1.symm.trans (show (Value.ref e10 == Value.ref e1) = true from z)) Bool.false_ne_true)) (kit_mk eh2 et2 es10_2 (fun z => absurd (ed10_2.symm.trans (show (Value.ref e10 == Value.ref e2) = true from z)) Bool.false_ne_true)) (kit_mk eh3 et3 es10_3 (fun z => absurd (ed10_3.symm.trans (show (Value.ref e10 == Value.ref e3) = true from z)) Bool.false_ne_true)) (kit_mk eh4 et4 es10_4 (fun z => absurd (ed10_4.symm.trans (show (Value.ref e10 == Value.ref e4) = true from z)) Bool.false_ne_true)) (kit_mk eh5 et5 es10_5 (fun z => absurd (ed10_5.symm.trans (show (Value.ref e10 == Value.ref e5) = true from z)) Bool.false_ne_true)) (kit_mk eh6 et6 es10_6 (fun z => absurd (ed10_6.symm.trans (show (Value.ref e10 == Value.ref e6) = true from z)) Bool.false_ne_true)) (kit_mk eh7 et7 es10_7 (fun z => absurd (ed10_7.symm.trans (show (Value.ref e10 == Value.ref e7) = true from z)) Bool.false_ne_true)) (kit_mk eh8 et8 es10_8 (fun z => absurd (ed10_8.symm.trans (show (Value.ref e10 == Value.ref e8) = true from z)) Bool.false_ne_true)) (kit_mk eh9 et9 es10_9 (fun z => absurd (ed10_9.symm.trans (show (Value.ref e10 == Value.ref e9) = true from z)) Bool.false_ne_true)) (kit_mk eh10 et10 es10_10 (fun z => rfl))) (allc (lt11 (kit_mk eh0 et0 es11_0 (fun z => absurd (ed11_0.symm.trans (show (Value.ref e11 == Value.ref e0) = true from z)) Bool.false_ne_true)) (kit_mk eh1 et1 es11_1 (fun z => absurd (ed11_1.symm.trans (show (Value.ref e11 == Value.ref e1) = true from z)) Bool.false_ne_true)) (kit_mk eh2 et2 es11_2 (fun z => absurd (ed11_2.symm.trans (show (Value.ref e11 == Value.ref e2) = true from z)) Bool.false_ne_true)) (kit_mk eh3 et3 es11_3 (fun z => absurd (ed11_3.symm.trans (show (Value.ref e11 == Value.ref e3) = true from z)) Bool.false_ne_true)) (kit_mk eh4 et4 es11_4 (fun z => absurd (ed11_4.symm.trans (show (Value.ref e11 == Value.ref e4) = true from z)) Bool.false_ne_true)) (kit_mk eh5 et5 es11_5 (fun z => absurd (ed11_5.symm.trans (show (Value.ref e11 == Value.ref e5) = true from z)) Bool.false_ne_true)) (kit_mk eh6 et6 es11_6 (fun z => absurd (ed11_6.symm.trans (show (Value.ref e11 == Value.ref e6) = true from z)) Bool.false_ne_true)) (kit_mk eh7 et7 es11_7 (fun z => absurd (ed11_7.symm.trans (show (Value.ref e11 == Value.ref e7) = true from z)) Bool.false_ne_true)) (kit_mk eh8 et8 es11_8 (fun z => absurd (ed11_8.symm.trans (show (Value.ref e11 == Value.ref e8) = true from z)) Bool.false_ne_true)) (kit_mk eh9 et9 es11_9 (fun z => absurd (ed11_9.symm.trans (show (Value.ref e11 == Value.ref e9) = true from z)) Bool.false_ne_true)) (kit_mk eh10 et10 es11_10 (fun z => absurd (ed11_10.symm.trans (show (Value.ref e11 == Value.ref e10) = true from z)) Bool.false_ne_true))) alln)))))) : ∀ i ∈ [4, 7, 8, 9, 10, 11], ∀ j, j < 11 → PySem.W.kitOne K (.ref (cl i)) (.ref (cl j)) = some (decide (i = j))) i hi j hj,
    kitV := (allc (kit_val ev4) (allc (kit_val ev7) (allc (kit_val ev8) (allc (kit_val ev9) (allc (kit_val ev10) (allc (kit_val ev11) alln)))))),
    exc := fun i hi _ => ((allc ⟨ea4, en4, eb4, eh4, ec4, hsp, htk, em4⟩ (allc ⟨ea7, en7, eb7, eh7, ec7, hsp, htk, em7⟩ (allc ⟨ea8, en8, eb8, eh8, ec8, hsp, htk, em8⟩ (allc ⟨ea9, en9, eb9, eh9, ec9, hsp, htk, em9⟩ (allc ⟨ea10, en10, eb10, eh10, ec10, hsp, htk, em10⟩ (allc ⟨ea11, en11, eb11, eh11, ec11, hsp, htk, em11⟩ alln)))))) : ∀ i ∈ [4, 7, 8, 9, 10, 11], ExcC K (cl i)) i hi }
  have ex11 : ExcC K (cl 11) := ⟨ea11, en11, eb11, eh11, ec11, hsp, htk, em11⟩
  have T11 : OexC K (cl 11) := ⟨⟨_, _, _, _, _, _, _, _, _, _, _, _, _, _, _, lkT, rvT⟩, sa11, eb11, et11, ek11⟩
  have F0 := fun_mk (st := st_law_cell_at) l0 c0 k0
  have d0 : Def K mg "_law_cell_at" st_law_cell_at ["script", "k"] := ⟨f0, _, F0, PySem.W.mg_of X G a0, F0.binds (ps := ["script", "k"]) fun _ _ _ _ _ _ us hl => match us, hl with | [_, _], _ => rfl⟩
  have F1 := fun_mk (st := st_law_draws) l1 c1 k1
  have d1 : Def K mg "_law_draws" st_law_draws ["cell", "many", "size"] := ⟨f1, _, F1, PySem.W.mg_of X G a1, F1.binds (ps := ["cell", "many", "size"]) fun _ _ _ _ _ _ us hl => match us, hl with | [_, _, _], _ => rfl⟩
  have F2 := fun_mk (st := st_law_bag) l2 c2 k2
  have d2 : Def K mg "_law_bag" st_law_bag ["script", "k"] := ⟨f2, _, F2, PySem.W.mg_of X G a2, F2.binds (ps := ["script", "k"]) fun _ _ _ _ _ _ us hl => match us, hl with | [_, _], _ => rfl⟩
  have F3 := fun_mk (st := st_law_bags) l3 c3 k3
  have d3 : Def K mg "_law_bags" st_law_bags ["script", "limit"] := ⟨f3, _, F3, PySem.W.mg_of X G a3, F3.binds (ps := ["script", "limit"]) fun _ _ _ _ _ _ us hl => match us, hl with | [_, _], _ => rfl⟩
  have F4 := fun_mk (st := st_law_take) l4 c4 k4
  have d4 : Def K mg "_law_take" st_law_take ["bag", "many"] := ⟨f4, _, F4, PySem.W.mg_of X G a4, F4.binds (ps := ["bag", "many"]) fun _ _ _ _ _ _ us hl => match us, hl with | [_, _], _ => rfl⟩
  have F5 := fun_mk (st := st_law_kinds) l5 c5 k5
  have d5 : Def K mg "_law_kinds" st_law_kinds ["bag", "far"] := ⟨f5, _, F5, PySem.W.mg_of X G a5, F5.binds (ps := ["bag", "far"]) fun _ _ _ _ _ _ us hl => match us, hl with | [_, _], _ => rfl⟩
  have F6 := fun_mk (st := st_law_far_draw) l6 c6 k6
  have d6 : Def K mg "_law_far_draw" st_law_far_draw ["bag", "many"] := ⟨f6, _, F6, PySem.W.mg_of X G a6, F6.binds (ps := ["bag", "many"]) fun _ _ _ _ _ _ us hl => match us, hl with | [_, _], _ => rfl⟩
  have F7 := fun_mk (st := st_law_stamps_for) l7 c7 k7
  have d7 : Def K mg "_law_stamps_for" st_law_stamps_for ["bag", "kinds", "far"] := ⟨f7, _, F7, PySem.W.mg_of X G a7, F7.binds (ps := ["bag", "kinds", "far"]) fun _ _ _ _ _ _ us hl => match us, hl with | [_, _, _], _ => rfl⟩
  have F8 := fun_mk (st := st_law_had) l8 c8 k8
  have d8 : Def K mg "_law_had" st_law_had ["bag", "kinds", "far"] := ⟨f8, _, F8, PySem.W.mg_of X G a8, F8.binds (ps := ["bag", "kinds", "far"]) fun _ _ _ _ _ _ us hl => match us, hl with | [_, _, _], _ => rfl⟩
  have F9 := fun_mk (st := st_is_within) l9 c9 k9
  have d9 : Def K mg "is_within" st_is_within ["thing", "low", "high"] := ⟨f9, _, F9, PySem.W.mg_of X G a9, F9.binds (ps := ["thing", "low", "high"]) fun _ _ _ _ _ _ us hl => match us, hl with | [_, _, _], _ => rfl⟩
  have F10 := fun_mk (st := st_are_cards) l10 c10 k10
  have d10 : Def K mg "are_cards" st_are_cards ["thing"] := ⟨f10, _, F10, PySem.W.mg_of X G a10, F10.binds (ps := ["thing"]) fun _ _ _ _ _ _ us hl => match us, hl with | [_], _ => rfl⟩
  have F11 := fun_mk (st := st_need_cards) l11 c11 k11
  have d11 : Def K mg "need_cards" st_need_cards ["cards"] := ⟨f11, _, F11, PySem.W.mg_of X G a11, F11.binds (ps := ["cards"]) fun _ _ _ _ _ _ us hl => match us, hl with | [_], _ => rfl⟩
  have F12 := fun_mk (st := st_are_stamps) l12 c12 k12
  have d12 : Def K mg "are_stamps" st_are_stamps ["cards", "thing"] := ⟨f12, _, F12, PySem.W.mg_of X G a12, F12.binds (ps := ["cards", "thing"]) fun _ _ _ _ _ _ us hl => match us, hl with | [_, _], _ => rfl⟩
  have F13 := fun_mk (st := st_is_all_purse) l13 c13 k13
  have d13 : Def K mg "is_all_purse" st_is_all_purse ["cards", "thing"] := ⟨f13, _, F13, PySem.W.mg_of X G a13, F13.binds (ps := ["cards", "thing"]) fun _ _ _ _ _ _ us hl => match us, hl with | [_, _], _ => rfl⟩
  have F14 := fun_mk (st := st_need_purse) l14 c14 k14
  have d14 : Def K mg "need_purse" st_need_purse ["cards", "purse"] := ⟨f14, _, F14, PySem.W.mg_of X G a14, F14.binds (ps := ["cards", "purse"]) fun _ _ _ _ _ _ us hl => match us, hl with | [_, _], _ => rfl⟩
  have F15 := fun_mk (st := st_Kept_init) l15 c15 k15
  have b15 := F15.binds (ps := ["self", "cards", "purse"]) fun _ _ _ _ _ _ us hl => match us, hl with | [_, _, _], _ => rfl
  have F16 := fun_mk (st := st_law_step) l16 c16 k16
  have d16 : Def K mg "_law_step" st_law_step ["kinds", "had", "deed"] := ⟨f16, _, F16, PySem.W.mg_of X G a16, F16.binds (ps := ["kinds", "had", "deed"]) fun _ _ _ _ _ _ us hl => match us, hl with | [_, _, _], _ => rfl⟩
  have F17 := fun_mk (st := st_law_from) l17 c17 k17
  have d17 : Def K mg "_law_from" st_law_from ["thing", "least", "top"] := ⟨f17, _, F17, PySem.W.mg_of X G a17, F17.binds (ps := ["thing", "least", "top"]) fun _ _ _ _ _ _ us hl => match us, hl with | [_, _, _], _ => rfl⟩
  have F18 := fun_mk (st := st_law_after) l18 c18 k18
  have d18 : Def K mg "_law_after" st_law_after ["kinds", "state", "deed"] := ⟨f18, _, F18, PySem.W.mg_of X G a18, F18.binds (ps := ["kinds", "state", "deed"]) fun _ _ _ _ _ _ us hl => match us, hl with | [_, _, _], _ => rfl⟩
  have F19 := fun_mk (st := st_done) l19 c19 k19
  have d19 : Def K mg "done" st_done ["cards", "purse", "deed"] := ⟨f19, _, F19, PySem.W.mg_of X G a19, F19.binds (ps := ["cards", "purse", "deed"]) fun _ _ _ _ _ _ us hl => match us, hl with | [_, _, _], _ => rfl⟩
  have F20 := fun_mk (st := st_Kept_ride) l20 c20 k20
  have b20 := F20.binds (ps := ["self"]) fun _ _ _ _ _ _ us hl => match us, hl with | [_], _ => rfl
  have F21 := fun_mk (st := st_TooFew_init) l21 c21 k21
  have b21 := F21.binds (ps := ["self", "kind"]) fun _ _ _ _ _ _ us hl => match us, hl with | [_, _], _ => rfl
  have F22 := fun_mk (st := st_Kept_give) l22 c22 k22
  have b22 := F22.binds (ps := ["self", "kind"]) fun _ _ _ _ _ _ us hl => match us, hl with | [_, _], _ => rfl
  have F23 := fun_mk (st := st_Kept_lend) l23 c23 k23
  have b23 := F23.binds (ps := ["self", "number"]) fun _ _ _ _ _ _ us hl => match us, hl with | [_, _], _ => rfl
  have F24 := fun_mk (st := st_Kept_back) l24 c24 k24
  have b24 := F24.binds (ps := ["self"]) fun _ _ _ _ _ _ us hl => match us, hl with | [_], _ => rfl
  have F25 := fun_mk (st := st_Kept_pay) l25 c25 k25
  have b25 := F25.binds (ps := ["self", "number"]) fun _ _ _ _ _ _ us hl => match us, hl with | [_, _], _ => rfl
  have F26 := fun_mk (st := st_law_do) l26 c26 k26
  have d26 : Def K mg "_law_do" st_law_do ["kept", "deed"] := ⟨f26, _, F26, PySem.W.mg_of X G a26, F26.binds (ps := ["kept", "deed"]) fun _ _ _ _ _ _ us hl => match us, hl with | [_, _], _ => rfl⟩
  have F27 := fun_mk (st := st_law_refused) l27 c27 k27
  have d27 : Def K mg "_law_refused" st_law_refused ["call", "one", "two", "three"] := ⟨f27, _, F27, PySem.W.mg_of X G a27, F27.binds (ps := ["call", "one", "two", "three"]) fun _ _ _ _ _ _ us hl => match us, hl with | [_, _, _, _], _ => rfl⟩
  have F28 := fun_mk (st := st_Kept_len) l28 c28 k28
  have b28 := F28.binds (ps := ["self"]) fun _ _ _ _ _ _ us hl => match us, hl with | [_], _ => rfl
  have F29 := fun_mk (st := st_Kept_lent) l29 c29 k29
  have b29 := F29.binds (ps := ["self"]) fun _ _ _ _ _ _ us hl => match us, hl with | [_], _ => rfl
  have F30 := fun_mk (st := st_Kept_ridden) l30 c30 k30
  have b30 := F30.binds (ps := ["self"]) fun _ _ _ _ _ _ us hl => match us, hl with | [_], _ => rfl
  have F31 := fun_mk (st := st_Kept_purse) l31 c31 k31
  have b31 := F31.binds (ps := ["self"]) fun _ _ _ _ _ _ us hl => match us, hl with | [_], _ => rfl
  have F32 := fun_mk (st := st_Kept_eq) l32 c32 k32
  have b32 := F32.binds (ps := ["self", "other"]) fun _ _ _ _ _ _ us hl => match us, hl with | [_, _], _ => rfl
  have F33 := fun_mk (st := st_common) l33 c33 k33
  have d33 : Def K mg "common" st_common ["one", "other"] := ⟨f33, _, F33, PySem.W.mg_of X G a33, F33.binds (ps := ["one", "other"]) fun _ _ _ _ _ _ us hl => match us, hl with | [_, _], _ => rfl⟩
  have F34 := fun_mk (st := st_period) l34 c34 k34
  have d34 : Def K mg "period" st_period ["cards"] := ⟨f34, _, F34, PySem.W.mg_of X G a34, F34.binds (ps := ["cards"]) fun _ _ _ _ _ _ us hl => match us, hl with | [_], _ => rfl⟩
  have F35 := fun_mk (st := st_wears_off) l35 c35 k35
  have d35 : Def K mg "wears_off" st_wears_off ["cards"] := ⟨f35, _, F35, PySem.W.mg_of X G a35, F35.binds (ps := ["cards"]) fun _ _ _ _ _ _ us hl => match us, hl with | [_], _ => rfl⟩
  have F36 := fun_mk (st := st_paid) l36 c36 k36
  have d36 : Def K mg "paid" st_paid ["cards", "purse", "rides"] := ⟨f36, _, F36, PySem.W.mg_of X G a36, F36.binds (ps := ["cards", "purse", "rides"]) fun _ _ _ _ _ _ us hl => match us, hl with | [_, _, _], _ => rfl⟩
  have F37 := fun_mk (st := st_wanted) l37 c37 k37
  have d37 : Def K mg "wanted" st_wanted ["cards", "stamps", "low", "high"] := ⟨f37, _, F37, PySem.W.mg_of X G a37, F37.binds (ps := ["cards", "stamps", "low", "high"]) fun _ _ _ _ _ _ us hl => match us, hl with | [_, _, _, _], _ => rfl⟩
  have F38 := fun_mk (st := st_endless_from) l38 c38 k38
  have d38 : Def K mg "endless_from" st_endless_from ["cards", "stamps"] := ⟨f38, _, F38, PySem.W.mg_of X G a38, F38.binds (ps := ["cards", "stamps"]) fun _ _ _ _ _ _ us hl => match us, hl with | [_, _], _ => rfl⟩
  have F39 := fun_mk (st := st_in_all) l39 c39 k39
  have d39 : Def K mg "in_all" st_in_all ["cards", "purse"] := ⟨f39, _, F39, PySem.W.mg_of X G a39, F39.binds (ps := ["cards", "purse"]) fun _ _ _ _ _ _ us hl => match us, hl with | [_, _], _ => rfl⟩
  have F40 := fun_mk (st := st_Kept_still) l40 c40 k40
  have b40 := F40.binds (ps := ["self"]) fun _ _ _ _ _ _ us hl => match us, hl with | [_], _ => rfl
  have F41 := fun_mk (st := st_law_paid) l41 c41 k41
  have d41 : Def K mg "_law_paid" st_law_paid ["kinds", "had", "rides"] := ⟨f41, _, F41, PySem.W.mg_of X G a41, F41.binds (ps := ["kinds", "had", "rides"]) fun _ _ _ _ _ _ us hl => match us, hl with | [_, _, _], _ => rfl⟩
  have F42 := fun_mk (st := st_law_common) l42 c42 k42
  have d42 : Def K mg "_law_common" st_law_common ["one", "other"] := ⟨f42, _, F42, PySem.W.mg_of X G a42, F42.binds (ps := ["one", "other"]) fun _ _ _ _ _ _ us hl => match us, hl with | [_, _], _ => rfl⟩
  have F43 := fun_mk (st := st_law_whole) l43 c43 k43
  have d43 : Def K mg "_law_whole" st_law_whole ["kinds"] := ⟨f43, _, F43, PySem.W.mg_of X G a43, F43.binds (ps := ["kinds"]) fun _ _ _ _ _ _ us hl => match us, hl with | [_], _ => rfl⟩
  have F44 := fun_mk (st := st_law_wears) l44 c44 k44
  have d44 : Def K mg "_law_wears" st_law_wears ["kinds"] := ⟨f44, _, F44, PySem.W.mg_of X G a44, F44.binds (ps := ["kinds"]) fun _ _ _ _ _ _ us hl => match us, hl with | [_], _ => rfl⟩
  have F45 := fun_mk (st := st_law_rest) l45 c45 k45
  have d45 : Def K mg "_law_rest" st_law_rest ["kinds", "had"] := ⟨f45, _, F45, PySem.W.mg_of X G a45, F45.binds (ps := ["kinds", "had"]) fun _ _ _ _ _ _ us hl => match us, hl with | [_, _], _ => rfl⟩
  have one : ∀ (T : Addr × Addr → Prop), T (cL0, pL0) → ∀ p ∈ [(cL0, pL0)], T p := fun T h0 p m => by
    rcases List.mem_cons.mp m with e | m
    · cases e; exact h0
    nomatch m
  refine ⟨PySem.W.fnOf "law" "law" (defArgs st_law) (defBody st_law) (defScope st_law) .none kV46 dc46 pm46 an46 (.ref cL0) ct46, [(cL0, pL0)], spLT K [(cL0, pL0)], one _ nT0, one _ nP0, one _ (PySem.W.codeHd_of_K X hC0), fun s v => .of_eq rfl, fun H a ns hl _ hT hS => ⟨a, ns, rfl, hl, hT, hS, fun _ => rfl⟩, fun base _ _ hB => ?_⟩
  have tb0 := hB (cL0, pL0) (.head _)
  have tt0 : (ZKL K sites [(pL0, ("law" : Str) ++ ".<locals>." ++ "<lambda>")]).tab pL0 (("law" : Str) ++ ".<locals>." ++ "<lambda>") := (.head _)
  have tu0 : ∀ q, (ZKL K sites [(pL0, ("law" : Str) ++ ".<locals>." ++ "<lambda>")]).tab pL0 q → q = (("law" : Str) ++ ".<locals>." ++ "<lambda>") := fun q z => by
    rcases List.mem_cons.mp z with e | z
    · exact (Prod.mk.inj e).2
    nomatch z
  have ht : ∀ b q, (ZKL K sites [(pL0, ("law" : Str) ++ ".<locals>." ++ "<lambda>")]).tab b q → ∃ c, (c, b) ∈ [(cL0, pL0)] := fun b q z => by
    rcases List.mem_cons.mp z with e | z
    · cases e; exact ⟨cL0, .head _⟩
    nomatch z
  have C0 : Cal (ZKL K sites [(pL0, ("law" : Str) ++ ".<locals>." ++ "<lambda>")]) l.prog w mg base 1 "_law_cell_at" ["script", "k"] wf_law_cell_at := cal_law_cell_at b d0
  have C1 : Cal (ZKL K sites [(pL0, ("law" : Str) ++ ".<locals>." ++ "<lambda>")]) l.prog w mg base 1 "_law_draws" ["cell", "many", "size"] wf_law_draws := cal_law_draws b d1
  have C2 : Cal (ZKL K sites [(pL0, ("law" : Str) ++ ".<locals>." ++ "<lambda>")]) l.prog w mg base 2 "_law_bag" ["script", "k"] wf_law_bag := cal_law_bag b d2 C0 C1
  have C3 : Cal (ZKL K sites [(pL0, ("law" : Str) ++ ".<locals>." ++ "<lambda>")]) l.prog w mg base 3 "_law_bags" ["script", "limit"] wf_law_bags := cal_law_bags b d3 C2
  have C4 : Cal (ZKL K sites [(pL0, ("law" : Str) ++ ".<locals>." ++ "<lambda>")]) l.prog w mg base 1 "_law_take" ["bag", "many"] wf_law_take := cal_law_take b d4
  have C5 : Cal (ZKL K sites [(pL0, ("law" : Str) ++ ".<locals>." ++ "<lambda>")]) l.prog w mg base 2 "_law_kinds" ["bag", "far"] wf_law_kinds := cal_law_kinds b d5 C4
  have C6 : Cal (ZKL K sites [(pL0, ("law" : Str) ++ ".<locals>." ++ "<lambda>")]) l.prog w mg base 2 "_law_far_draw" ["bag", "many"] wf_law_far_draw := cal_law_far_draw b d6 C4
  have C7 : Cal (ZKL K sites [(pL0, ("law" : Str) ++ ".<locals>." ++ "<lambda>")]) l.prog w mg base 3 "_law_stamps_for" ["bag", "kinds", "far"] wf_law_stamps_for := cal_law_stamps_for b d7 C6 C4
  have C8 : Cal (ZKL K sites [(pL0, ("law" : Str) ++ ".<locals>." ++ "<lambda>")]) l.prog w mg base 4 "_law_had" ["bag", "kinds", "far"] wf_law_had := cal_law_had b d8 C7 C6
  have C9 : Cal (ZKL K sites [(pL0, ("law" : Str) ++ ".<locals>." ++ "<lambda>")]) l.prog w mg base 1 "is_within" ["thing", "low", "high"] wf_is_within := cal_is_within b d9
  have C10 : Cal (ZKL K sites [(pL0, ("law" : Str) ++ ".<locals>." ++ "<lambda>")]) l.prog w mg base 2 "are_cards" ["thing"] wf_are_cards := cal_are_cards b d10 C9
  have C11 : Cal (ZKL K sites [(pL0, ("law" : Str) ++ ".<locals>." ++ "<lambda>")]) l.prog w mg base 3 "need_cards" ["cards"] wf_need_cards := cal_need_cards b d11 C10
  have C12 : Cal (ZKL K sites [(pL0, ("law" : Str) ++ ".<locals>." ++ "<lambda>")]) l.prog w mg base 2 "are_stamps" ["cards", "thing"] wf_are_stamps := cal_are_stamps b d12 C9
  have C13 : Cal (ZKL K sites [(pL0, ("law" : Str) ++ ".<locals>." ++ "<lambda>")]) l.prog w mg base 3 "is_all_purse" ["cards", "thing"] wf_is_all_purse := cal_is_all_purse b d13 C9 C12
  have C14 : Cal (ZKL K sites [(pL0, ("law" : Str) ++ ".<locals>." ++ "<lambda>")]) l.prog w mg base 4 "need_purse" ["cards", "purse"] wf_need_purse := cal_need_purse b d14 C11 C13
  have C15 : Ini2 cl (ZKL K sites [(pL0, ("law" : Str) ++ ".<locals>." ++ "<lambda>")]) C l.prog w mg base 5 "Kept" ["self", "cards", "purse"] wi_Kept_init := cal_Kept_init zo fl b F15 ⟨mkC, i15, n15, kpC⟩ (PySem.W.mg_of X G gC) b15 C14
  have C16 : Cal (ZKL K sites [(pL0, ("law" : Str) ++ ".<locals>." ++ "<lambda>")]) l.prog w mg base 1 "_law_step" ["kinds", "had", "deed"] wf_law_step := cal_law_step b d16
  have C17 : Cal (ZKL K sites [(pL0, ("law" : Str) ++ ".<locals>." ++ "<lambda>")]) l.prog w mg base 1 "_law_from" ["thing", "least", "top"] wf_law_from := cal_law_from b d17
  have C18 : Cal (ZKL K sites [(pL0, ("law" : Str) ++ ".<locals>." ++ "<lambda>")]) l.prog w mg base 2 "_law_after" ["kinds", "state", "deed"] wf_law_after := cal_law_after b d18 C16 C17
  have C19 : Cal (ZKL K sites [(pL0, ("law" : Str) ++ ".<locals>." ++ "<lambda>")]) l.prog w mg base 1 "done" ["cards", "purse", "deed"] wf_done := cal_done b d19
  have C20 : Met cl (ZKL K sites [(pL0, ("law" : Str) ++ ".<locals>." ++ "<lambda>")]) C l.prog w mg base 2 "ride" ["self"] wm_Kept_ride := cal_Kept_ride zo fl kc b F20 ⟨i20, n20, k20⟩ b20 C19 E7
  have C21 : TooF cl l.prog w K mg base 1 "TooFew" := ⟨f21, _, _, T11, i21, n21, cal_TooFew_init (Z := (ZKL K sites [(pL0, ("law" : Str) ++ ".<locals>." ++ "<lambda>")])) F21 T11 nk11 (PySem.W.mg_of X G egR) spR rdR fiR, b21, PySem.W.mg_of X G eg11⟩
  have C22 : Met cl (ZKL K sites [(pL0, ("law" : Str) ++ ".<locals>." ++ "<lambda>")]) C l.prog w mg base 3 "give" ["self", "kind"] wm_Kept_give := cal_Kept_give zo fl kc b F22 ⟨i22, n22, k22⟩ b22 C9 C21 C19 E8
  have C23 : Met cl (ZKL K sites [(pL0, ("law" : Str) ++ ".<locals>." ++ "<lambda>")]) C l.prog w mg base 2 "lend" ["self", "number"] wm_Kept_lend := cal_Kept_lend zo fl kc b F23 ⟨i23, n23, k23⟩ b23 C9 E4
  have C24 : Met cl (ZKL K sites [(pL0, ("law" : Str) ++ ".<locals>." ++ "<lambda>")]) C l.prog w mg base 1 "back" ["self"] wm_Kept_back := cal_Kept_back zo fl kc b F24 ⟨i24, n24, k24⟩ b24 E10
  have C25 : Met cl (ZKL K sites [(pL0, ("law" : Str) ++ ".<locals>." ++ "<lambda>")]) C l.prog w mg base 2 "pay" ["self", "number"] wm_Kept_pay := cal_Kept_pay zo fl kc b F25 ⟨i25, n25, k25⟩ b25 C9 E9 E4 E7
  have C26 : CalX2 cl (ZKL K sites [(pL0, ("law" : Str) ++ ".<locals>." ++ "<lambda>")]) C l.prog w mg base 4 "_law_do" ["kept", "deed"] wx_law_do := cal_law_do zo fl kc b d26 C20 C22 C23 C24 C25
  have A0 : Callee2 cl (ZKL K sites [(pL0, ("law" : Str) ++ ".<locals>." ++ "<lambda>")]) C l.prog w mg base 5 0 (Sx2 0) := (cal_lam_law_0 zo fl kc b (fun F f z => by rcases z with ⟨e1, _⟩ | ⟨s, c', e1, e2⟩; (exact absurd e1 (by show ¬ ((0 : Nat) = 1000 + f); omega)); (cases e1; exact ⟨c', e2⟩)) C26).mono (by decide)
  have A1 : Callee2 cl (ZKL K sites [(pL0, ("law" : Str) ++ ".<locals>." ++ "<lambda>")]) C l.prog w mg base 5 1 (Sx2 1) := (cal_lam_law_1 zo fl kc b (fun F f z => by rcases z with ⟨e1, _⟩ | ⟨s, c', e1, e2⟩; (exact absurd e1 (by show ¬ ((1 : Nat) = 1000 + f); omega)); (cases e1; exact ⟨c', e2⟩)) C24).mono (by decide)
  have AA : ∀ n, n < 1000 → Callee2 cl (ZKL K sites [(pL0, ("law" : Str) ++ ".<locals>." ++ "<lambda>")]) C l.prog w mg base 5 n (Sx2 n) := fun n hn => match n, hn with | 0, _ => A0 | 1, _ => A1 | n + 2, hn => ⟨fun f F H h z => (by rcases z with ⟨e1, _⟩ | ⟨s, c', e1, _⟩; (exact absurd e1 (by omega)); (cases e1)), fun f F A outer s H us vs Q E z => (by rcases z with ⟨e1, _⟩ | ⟨s, c', e1, _⟩; (exact absurd e1 (by omega)); (cases e1))⟩
  have C27 : Cal2 (ZKL K sites [(pL0, ("law" : Str) ++ ".<locals>." ++ "<lambda>")]) C l.prog w mg base 6 "_law_refused" ["call", "one", "two", "three"] wc_law_refused := cal_law_refused b d27 AA er (show 11 ∈ [4, 7, 8, 9, 10, 11] by decide) nk11 ex11
  have C28 : Met cl (ZKL K sites [(pL0, ("law" : Str) ++ ".<locals>." ++ "<lambda>")]) C l.prog w mg base 1 "__len__" ["self"] wm_Kept_len := cal_Kept_len zo fl kc b F28 ⟨i28, n28, k28⟩ b28
  have C29 : Met cl (ZKL K sites [(pL0, ("law" : Str) ++ ".<locals>." ++ "<lambda>")]) C l.prog w mg base 1 "lent" ["self"] wm_Kept_lent := cal_Kept_lent zo fl kc b F29 ⟨i29, n29, k29⟩ b29
  have C30 : Met cl (ZKL K sites [(pL0, ("law" : Str) ++ ".<locals>." ++ "<lambda>")]) C l.prog w mg base 1 "ridden" ["self"] wm_Kept_ridden := cal_Kept_ridden zo fl kc b F30 ⟨i30, n30, k30⟩ b30
  have C31 : Met cl (ZKL K sites [(pL0, ("law" : Str) ++ ".<locals>." ++ "<lambda>")]) C l.prog w mg base 1 "purse" ["self"] wm_Kept_purse := cal_Kept_purse zo fl kc b F31 ⟨i31, n31, k31⟩ b31
  have C32 : Met cl (ZKL K sites [(pL0, ("law" : Str) ++ ".<locals>." ++ "<lambda>")]) C l.prog w mg base 1 "__eq__" ["self", "other"] wm_Kept_eq := cal_Kept_eq zo fl kc b F32 ⟨i32, n32, k32⟩ b32
  have C33 : Cal (ZKL K sites [(pL0, ("law" : Str) ++ ".<locals>." ++ "<lambda>")]) l.prog w mg base 1 "common" ["one", "other"] wf_common := cal_common b d33
  have C34 : Cal (ZKL K sites [(pL0, ("law" : Str) ++ ".<locals>." ++ "<lambda>")]) l.prog w mg base 2 "period" ["cards"] wf_period := cal_period b d34 C33
  have C35 : Cal (ZKL K sites [(pL0, ("law" : Str) ++ ".<locals>." ++ "<lambda>")]) l.prog w mg base 3 "wears_off" ["cards"] wf_wears_off := cal_wears_off b d35 C34
  have C36 : Cal (ZKL K sites [(pL0, ("law" : Str) ++ ".<locals>." ++ "<lambda>")]) l.prog w mg base 1 "paid" ["cards", "purse", "rides"] wf_paid := cal_paid b d36
  have C37 : Cal (ZKL K sites [(pL0, ("law" : Str) ++ ".<locals>." ++ "<lambda>")]) l.prog w mg base 2 "wanted" ["cards", "stamps", "low", "high"] wf_wanted := cal_wanted b d37 C36
  have C38 : Cal (ZKL K sites [(pL0, ("law" : Str) ++ ".<locals>." ++ "<lambda>")]) l.prog w mg base 4 "endless_from" ["cards", "stamps"] wf_endless_from := cal_endless_from b d38 C35 C34 C37
  have C39 : Cal (ZKL K sites [(pL0, ("law" : Str) ++ ".<locals>." ++ "<lambda>")]) l.prog w mg base 5 "in_all" ["cards", "purse"] wf_in_all := cal_in_all b d39 C38 C36
  have C40 : Met cl (ZKL K sites [(pL0, ("law" : Str) ++ ".<locals>." ++ "<lambda>")]) C l.prog w mg base 6 "still" ["self"] wm_Kept_still := cal_Kept_still zo fl kc b F40 ⟨i40, n40, k40⟩ b40 C39
  have C41 : Cal (ZKL K sites [(pL0, ("law" : Str) ++ ".<locals>." ++ "<lambda>")]) l.prog w mg base 1 "_law_paid" ["kinds", "had", "rides"] wf_law_paid := cal_law_paid b d41
  have C42 : Cal (ZKL K sites [(pL0, ("law" : Str) ++ ".<locals>." ++ "<lambda>")]) l.prog w mg base 1 "_law_common" ["one", "other"] wf_law_common := cal_law_common b d42
  have C43 : Cal (ZKL K sites [(pL0, ("law" : Str) ++ ".<locals>." ++ "<lambda>")]) l.prog w mg base 2 "_law_whole" ["kinds"] wf_law_whole := cal_law_whole b d43 C42
  have C44 : Cal (ZKL K sites [(pL0, ("law" : Str) ++ ".<locals>." ++ "<lambda>")]) l.prog w mg base 3 "_law_wears" ["kinds"] wf_law_wears := cal_law_wears b d44 C43
  have C45 : Cal (ZKL K sites [(pL0, ("law" : Str) ++ ".<locals>." ++ "<lambda>")]) l.prog w mg base 4 "_law_rest" ["kinds", "had"] wf_law_rest := cal_law_rest b d45 C41 C43 C44
  exact (fn_law (cl := cl) zo fl kc b l46 c46 C3 C4 C5 C8 C15 C18 C27 C26 C28 C29 C30 C31 C32 C40 C45 C24 tb0 tt0 tu0 (fun F f c' e1 e2 => .inr ⟨_, c', rfl, e1, e2⟩) (fun F f c' e1 e2 => .inr ⟨_, c', rfl, e1, e2⟩)).imp fun vs H Q E h => spLT_of (Z := (ZKL K sites [(pL0, ("law" : Str) ++ ".<locals>." ++ "<lambda>")])) ht (fun ns post p => ⟨ns, rfl, p⟩) h
end DL
open PySem PySem.W PyProof.Rows
set_option maxHeartbeats 0 in
theorem PySem.Challenge.cw_freerides_k12_whole_a_purse_kept_deed_by_holds : PySem.Challenge.rw_freerides_k12_whole_a_purse_kept_deed_by.Holds := by
  w_on; o_law; k_head; (case hw => w_witness2)
  k_fill
  refine LamX.walk_ofTs (l := PySem.Challenge.rw_freerides_k12_whole_a_purse_kept_deed_by) (n := 63) (k := 7) (x := "script") (CX := fun _ => L2.CX0) rfl (by decide) rfl ⟨rfl, by decide, by decide⟩ (fun w h Y => PySem.W.km_in_of Y) ?F (fun _ _ _ _ _ h => h)
  case F =>
    intro w mg fa h Y KX G hmg
    refine' DL.all_mk KX G hmg ?gC ?pgC ?hdC ?poC ?saC ?ncC ?npC ?mkC ?kpC ?caC ?cmC ?nfC ?nfT ?tyC ?sbC ?sbT ?eg0 ?eg1 ?eg2 ?eg3 ?eg4 ?eg5 ?eg6 ?eg7 ?eg8 ?eg9 ?eg10 ?eg11 ?a0 ?l0 ?c0 ?k0 ?a1 ?l1 ?c1 ?k1 ?a2 ?l2 ?c2 ?k2 ?a3 ?l3 ?c3 ?k3 ?a4 ?l4 ?c4 ?k4 ?a5 ?l5 ?c5 ?k5 ?a6 ?l6 ?c6 ?k6 ?a7 ?l7 ?c7 ?k7 ?a8 ?l8 ?c8 ?k8 ?a9 ?l9 ?c9 ?k9 ?a10 ?l10 ?c10 ?k10 ?a11 ?l11 ?c11 ?k11 ?a12 ?l12 ?c12 ?k12 ?a13 ?l13 ?c13 ?k13 ?a14 ?l14 ?c14 ?k14 ?i15 ?n15 ?l15 ?c15 ?k15 ?a16 ?l16 ?c16 ?k16 ?a17 ?l17 ?c17 ?k17 ?a18 ?l18 ?c18 ?k18 ?a19 ?l19 ?c19 ?k19 ?i20 ?n20 ?l20 ?c20 ?k20 ?i21 ?n21 ?l21 ?c21 ?k21 ?i22 ?n22 ?l22 ?c22 ?k22 ?i23 ?n23 ?l23 ?c23 ?k23 ?i24 ?n24 ?l24 ?c24 ?k24 ?i25 ?n25 ?l25 ?c25 ?k25 ?a26 ?l26 ?c26 ?k26 ?a27 ?l27 ?c27 ?k27 ?i28 ?n28 ?l28 ?c28 ?k28 ?i29 ?n29 ?l29 ?c29 ?k29 ?i30 ?n30 ?l30 ?c30 ?k30 ?i31 ?n31 ?l31 ?c31 ?k31 ?i32 ?n32 ?l32 ?c32 ?k32 ?a33 ?l33 ?c33 ?k33 ?a34 ?l34 ?c34 ?k34 ?a35 ?l35 ?c35 ?k35 ?a36 ?l36 ?c36 ?k36 ?a37 ?l37 ?c37 ?k37 ?a38 ?l38 ?c38 ?k38 ?a39 ?l39 ?c39 ?k39 ?i40 ?n40 ?l40 ?c40 ?k40 ?a41 ?l41 ?c41 ?k41 ?a42 ?l42 ?c42 ?k42 ?a43 ?l43 ?c43 ?k43 ?a44 ?l44 ?c44 ?k44 ?a45 ?l45 ?c45 ?k45 ?a46 ?l46 ?c46 ?k46 ?lC0 ?lP0 ?hC0 ?nP0 ?gF ?z_len ?z_max ?z_min ?z_sum ?z_all ?z_tuple ?z_int ?z_list ?z_range ?z_zip ?z_enumerate ?z_isinstance ?z_bool ?z_sorted ?z_set ?z_repr ?z_str ?z_ValueError ?et0 ?eh0 ?et1 ?eh1 ?et2 ?eh2 ?et3 ?eh3 ?et4 ?eh4 ?et5 ?eh5 ?et6 ?eh6 ?et7 ?eh7 ?et8 ?eh8 ?et9 ?eh9 ?et10 ?eh10 ?et11 ?eh11 ?ex4 ?ek4 ?eb4 ?ex7 ?ek7 ?eb7 ?ex8 ?ek8 ?eb8 ?ex9 ?ek9 ?eb9 ?ex10 ?ek10 ?eb10 ?ek11 ?eb11 ?egR ?etR ?ehR ?ebR ?spR ?rdR ?fiR ?hsp ?htk ?ev4 ?ea4 ?en4 ?ec4 ?em4 ?er4 ?es4_0 ?es4_1 ?es4_2 ?es4_3 ?es4_4 ?es4_5 ?es4_6 ?es4_7 ?es4_8 ?es4_9 ?es4_10 ?es4_11 ?ed4_0 ?ed4_1 ?ed4_2 ?ed4_3 ?ed4_5 ?ed4_6 ?ed4_7 ?ed4_8 ?ed4_9 ?ed4_10 ?ev7 ?ea7 ?en7 ?ec7 ?em7 ?er7 ?es7_0 ?es7_1 ?es7_2 ?es7_3 ?es7_4 ?es7_5 ?es7_6 ?es7_7 ?es7_8 ?es7_9 ?es7_10 ?es7_11 ?ed7_0 ?ed7_1 ?ed7_2 ?ed7_3 ?ed7_4 ?ed7_5 ?ed7_6 ?ed7_8 ?ed7_9 ?ed7_10 ?ev8 ?ea8 ?en8 ?ec8 ?em8 ?er8 ?es8_0 ?es8_1 ?es8_2 ?es8_3 ?es8_4 ?es8_5 ?es8_6 ?es8_7 ?es8_8 ?es8_9 ?es8_10 ?es8_11 ?ed8_0 ?ed8_1 ?ed8_2 ?ed8_3 ?ed8_4 ?ed8_5 ?ed8_6 ?ed8_7 ?ed8_9 ?ed8_10 ?ev9 ?ea9 ?en9 ?ec9 ?em9 ?er9 ?es9_0 ?es9_1 ?es9_2 ?es9_3 ?es9_4 ?es9_5 ?es9_6 ?es9_7 ?es9_8 ?es9_9 ?es9_10 ?es9_11 ?ed9_0 ?ed9_1 ?ed9_2 ?ed9_3 ?ed9_4 ?ed9_5 ?ed9_6 ?ed9_7 ?ed9_8 ?ed9_10 ?ev10 ?ea10 ?en10 ?ec10 ?em10 ?er10 ?es10_0 ?es10_1 ?es10_2 ?es10_3 ?es10_4 ?es10_5 ?es10_6 ?es10_7 ?es10_8 ?es10_9 ?es10_10 ?es10_11 ?ed10_0 ?ed10_1 ?ed10_2 ?ed10_3 ?ed10_4 ?ed10_5 ?ed10_6 ?ed10_7 ?ed10_8 ?ed10_9 ?ev11 ?ea11 ?en11 ?ec11 ?em11 ?er11 ?es11_0 ?es11_1 ?es11_2 ?es11_3 ?es11_4 ?es11_5 ?es11_6 ?es11_7 ?es11_8 ?es11_9 ?es11_10 ?es11_11 ?ed11_0 ?ed11_1 ?ed11_2 ?ed11_3 ?ed11_4 ?ed11_5 ?ed11_6 ?ed11_7 ?ed11_8 ?ed11_9 ?ed11_10 ?sa11 ?nk11 ?lkT ?rvT ?nT0
    (case gC => k_is); (case pgC => k_is); (case hdC => k_is); (case poC => k_is); (case saC => k_is); (case ncC => k_is); (case npC => k_is); (case mkC => k_is); (case kpC => k_is); (case caC => k_is); (case cmC => k_is); (case nfC => k_is); (case nfT => k_is); (case tyC => k_is); (case sbC => k_is); (case sbT => k_is); (case eg0 => k_is); (case eg1 => k_is); (case eg2 => k_is); (case eg3 => k_is); (case eg4 => k_is); (case eg5 => k_is); (case eg6 => k_is); (case eg7 => k_is); (case eg8 => k_is); (case eg9 => k_is); (case eg10 => k_is); (case eg11 => k_is); (case a0 => k_is); (case l0 => k_is); (case c0 => k_is); (case k0 => k_is); (case a1 => k_is); (case l1 => k_is); (case c1 => k_is); (case k1 => k_is); (case a2 => k_is); (case l2 => k_is); (case c2 => k_is); (case k2 => k_is); (case a3 => k_is); (case l3 => k_is); (case c3 => k_is); (case k3 => k_is); (case a4 => k_is); (case l4 => k_is); (case c4 => k_is); (case k4 => k_is); (case a5 => k_is); (case l5 => k_is); (case c5 => k_is); (case k5 => k_is); (case a6 => k_is); (case l6 => k_is); (case c6 => k_is); (case k6 => k_is); (case a7 => k_is); (case l7 => k_is); (case c7 => k_is); (case k7 => k_is); (case a8 => k_is); (case l8 => k_is); (case c8 => k_is); (case k8 => k_is); (case a9 => k_is); (case l9 => k_is); (case c9 => k_is); (case k9 => k_is); (case a10 => k_is); (case l10 => k_is); (case c10 => k_is); (case k10 => k_is); (case a11 => k_is); (case l11 => k_is); (case c11 => k_is); (case k11 => k_is); (case a12 => k_is); (case l12 => k_is); (case c12 => k_is); (case k12 => k_is); (case a13 => k_is); (case l13 => k_is); (case c13 => k_is); (case k13 => k_is); (case a14 => k_is); (case l14 => k_is); (case c14 => k_is); (case k14 => k_is); (case i15 => k_is); (case n15 => k_is); (case l15 => k_is); (case c15 => k_is); (case k15 => k_is); (case a16 => k_is); (case l16 => k_is); (case c16 => k_is); (case k16 => k_is); (case a17 => k_is); (case l17 => k_is); (case c17 => k_is); (case k17 => k_is); (case a18 => k_is); (case l18 => k_is); (case c18 => k_is); (case k18 => k_is); (case a19 => k_is); (case l19 => k_is); (case c19 => k_is); (case k19 => k_is); (case i20 => k_is); (case n20 => k_is); (case l20 => k_is); (case c20 => k_is); (case k20 => k_is); (case i21 => k_is); (case n21 => k_is); (case l21 => k_is); (case c21 => k_is); (case k21 => k_is); (case i22 => k_is); (case n22 => k_is); (case l22 => k_is); (case c22 => k_is); (case k22 => k_is); (case i23 => k_is); (case n23 => k_is); (case l23 => k_is); (case c23 => k_is); (case k23 => k_is); (case i24 => k_is); (case n24 => k_is); (case l24 => k_is); (case c24 => k_is); (case k24 => k_is); (case i25 => k_is); (case n25 => k_is); (case l25 => k_is); (case c25 => k_is); (case k25 => k_is); (case a26 => k_is); (case l26 => k_is); (case c26 => k_is); (case k26 => k_is); (case a27 => k_is); (case l27 => k_is); (case c27 => k_is); (case k27 => k_is); (case i28 => k_is); (case n28 => k_is); (case l28 => k_is); (case c28 => k_is); (case k28 => k_is); (case i29 => k_is); (case n29 => k_is); (case l29 => k_is); (case c29 => k_is); (case k29 => k_is); (case i30 => k_is); (case n30 => k_is); (case l30 => k_is); (case c30 => k_is); (case k30 => k_is); (case i31 => k_is); (case n31 => k_is); (case l31 => k_is); (case c31 => k_is); (case k31 => k_is); (case i32 => k_is); (case n32 => k_is); (case l32 => k_is); (case c32 => k_is); (case k32 => k_is); (case a33 => k_is); (case l33 => k_is); (case c33 => k_is); (case k33 => k_is); (case a34 => k_is); (case l34 => k_is); (case c34 => k_is); (case k34 => k_is); (case a35 => k_is); (case l35 => k_is); (case c35 => k_is); (case k35 => k_is); (case a36 => k_is); (case l36 => k_is); (case c36 => k_is); (case k36 => k_is); (case a37 => k_is); (case l37 => k_is); (case c37 => k_is); (case k37 => k_is); (case a38 => k_is); (case l38 => k_is); (case c38 => k_is); (case k38 => k_is); (case a39 => k_is); (case l39 => k_is); (case c39 => k_is); (case k39 => k_is); (case i40 => k_is); (case n40 => k_is); (case l40 => k_is); (case c40 => k_is); (case k40 => k_is); (case a41 => k_is); (case l41 => k_is); (case c41 => k_is); (case k41 => k_is); (case a42 => k_is); (case l42 => k_is); (case c42 => k_is); (case k42 => k_is); (case a43 => k_is); (case l43 => k_is); (case c43 => k_is); (case k43 => k_is); (case a44 => k_is); (case l44 => k_is); (case c44 => k_is); (case k44 => k_is); (case a45 => k_is); (case l45 => k_is); (case c45 => k_is); (case k45 => k_is); (case a46 => k_is); (case l46 => k_is); (case c46 => k_is); (case k46 => k_is); (case lC0 => k_is); (case lP0 => rfl); (case hC0 => kernel_rfl); (case nP0 => kernel_rfl); (case gF => k_is); (case z_len => k_is); (case z_max => k_is); (case z_min => k_is); (case z_sum => k_is); (case z_all => k_is); (case z_tuple => k_is); (case z_int => k_is); (case z_list => k_is); (case z_range => k_is); (case z_zip => k_is); (case z_enumerate => k_is); (case z_isinstance => k_is); (case z_bool => k_is); (case z_sorted => k_is); (case z_set => k_is); (case z_repr => k_is); (case z_str => k_is); (case z_ValueError => k_is); (case et0 => k_is); (case eh0 => k_is); (case et1 => k_is); (case eh1 => k_is); (case et2 => k_is); (case eh2 => k_is); (case et3 => k_is); (case eh3 => k_is); (case et4 => k_is); (case eh4 => k_is); (case et5 => k_is); (case eh5 => k_is); (case et6 => k_is); (case eh6 => k_is); (case et7 => k_is); (case eh7 => k_is); (case et8 => k_is); (case eh8 => k_is); (case et9 => k_is); (case eh9 => k_is); (case et10 => k_is); (case eh10 => k_is); (case et11 => k_is); (case eh11 => k_is); (case ex4 => k_exc); (case ek4 => k_is); (case eb4 => k_is); (case ex7 => k_exc); (case ek7 => k_is); (case eb7 => k_is); (case ex8 => k_exc); (case ek8 => k_is); (case eb8 => k_is); (case ex9 => k_exc); (case ek9 => k_is); (case eb9 => k_is); (case ex10 => k_exc); (case ek10 => k_is); (case eb10 => k_is); (case ek11 => k_is); (case eb11 => k_is); (case egR => k_is); (case etR => k_is); (case ehR => k_is); (case ebR => k_is); (case spR => k_is); (case rdR => k_is); (case fiR => k_is); (case hsp => k_is); (case htk => k_is); (case ev4 => k_is); (case ea4 => k_is); (case en4 => k_is); (case ec4 => k_is); (case em4 => k_is); (case er4 => k_is); (case es4_0 => k_is); (case es4_1 => k_is); (case es4_2 => k_is); (case es4_3 => k_is); (case es4_4 => k_is); (case es4_5 => k_is); (case es4_6 => k_is); (case es4_7 => k_is); (case es4_8 => k_is); (case es4_9 => k_is); (case es4_10 => k_is); (case es4_11 => k_is); (case ed4_0 => exact rfl); (case ed4_1 => exact rfl); (case ed4_2 => exact rfl); (case ed4_3 => exact rfl); (case ed4_5 => exact rfl); (case ed4_6 => exact rfl); (case ed4_7 => exact rfl); (case ed4_8 => exact rfl); (case ed4_9 => exact rfl); (case ed4_10 => exact rfl); (case ev7 => k_is); (case ea7 => k_is); (case en7 => k_is); (case ec7 => k_is); (case em7 => k_is); (case er7 => k_is); (case es7_0 => k_is); (case es7_1 => k_is); (case es7_2 => k_is); (case es7_3 => k_is); (case es7_4 => k_is); (case es7_5 => k_is); (case es7_6 => k_is); (case es7_7 => k_is); (case es7_8 => k_is); (case es7_9 => k_is); (case es7_10 => k_is); (case es7_11 => k_is); (case ed7_0 => exact rfl); (case ed7_1 => exact rfl); (case ed7_2 => exact rfl); (case ed7_3 => exact rfl); (case ed7_4 => exact rfl); (case ed7_5 => exact rfl); (case ed7_6 => exact rfl); (case ed7_8 => exact rfl); (case ed7_9 => exact rfl); (case ed7_10 => exact rfl); (case ev8 => k_is); (case ea8 => k_is); (case en8 => k_is); (case ec8 => k_is); (case em8 => k_is); (case er8 => k_is); (case es8_0 => k_is); (case es8_1 => k_is); (case es8_2 => k_is); (case es8_3 => k_is); (case es8_4 => k_is); (case es8_5 => k_is); (case es8_6 => k_is); (case es8_7 => k_is); (case es8_8 => k_is); (case es8_9 => k_is); (case es8_10 => k_is); (case es8_11 => k_is); (case ed8_0 => exact rfl); (case ed8_1 => exact rfl); (case ed8_2 => exact rfl); (case ed8_3 => exact rfl); (case ed8_4 => exact rfl); (case ed8_5 => exact rfl); (case ed8_6 => exact rfl); (case ed8_7 => exact rfl); (case ed8_9 => exact rfl); (case ed8_10 => exact rfl); (case ev9 => k_is); (case ea9 => k_is); (case en9 => k_is); (case ec9 => k_is); (case em9 => k_is); (case er9 => k_is); (case es9_0 => k_is); (case es9_1 => k_is); (case es9_2 => k_is); (case es9_3 => k_is); (case es9_4 => k_is); (case es9_5 => k_is); (case es9_6 => k_is); (case es9_7 => k_is); (case es9_8 => k_is); (case es9_9 => k_is); (case es9_10 => k_is); (case es9_11 => k_is); (case ed9_0 => exact rfl); (case ed9_1 => exact rfl); (case ed9_2 => exact rfl); (case ed9_3 => exact rfl); (case ed9_4 => exact rfl); (case ed9_5 => exact rfl); (case ed9_6 => exact rfl); (case ed9_7 => exact rfl); (case ed9_8 => exact rfl); (case ed9_10 => exact rfl); (case ev10 => k_is); (case ea10 => k_is); (case en10 => k_is); (case ec10 => k_is); (case em10 => k_is); (case er10 => k_is); (case es10_0 => k_is); (case es10_1 => k_is); (case es10_2 => k_is); (case es10_3 => k_is); (case es10_4 => k_is); (case es10_5 => k_is); (case es10_6 => k_is); (case es10_7 => k_is); (case es10_8 => k_is); (case es10_9 => k_is); (case es10_10 => k_is); (case es10_11 => k_is); (case ed10_0 => exact rfl); (case ed10_1 => exact rfl); (case ed10_2 => exact rfl); (case ed10_3 => exact rfl); (case ed10_4 => exact rfl); (case ed10_5 => exact rfl); (case ed10_6 => exact rfl); (case ed10_7 => exact rfl); (case ed10_8 => exact rfl); (case ed10_9 => exact rfl); (case ev11 => k_is); (case ea11 => k_is); (case en11 => k_is); (case ec11 => k_is); (case em11 => k_is); (case er11 => k_is); (case es11_0 => k_is); (case es11_1 => k_is); (case es11_2 => k_is); (case es11_3 => k_is); (case es11_4 => k_is); (case es11_5 => k_is); (case es11_6 => k_is); (case es11_7 => k_is); (case es11_8 => k_is); (case es11_9 => k_is); (case es11_10 => k_is); (case es11_11 => k_is); (case ed11_0 => exact rfl); (case ed11_1 => exact rfl); (case ed11_2 => exact rfl); (case ed11_3 => exact rfl); (case ed11_4 => exact rfl); (case ed11_5 => exact rfl); (case ed11_6 => exact rfl); (case ed11_7 => exact rfl); (case ed11_8 => exact rfl); (case ed11_9 => exact rfl); (case ed11_10 => exact rfl); (case sa11 => k_is); (case nk11 => k_is); (case lkT => k_is); (case rvT => kernel_rfl); (case nT0 => exact PySem.W.km_tabs_of Y _ (by repeat first | exact .head _ | apply List.Mem.tail))
