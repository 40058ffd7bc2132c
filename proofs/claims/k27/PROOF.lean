import PyProof.Rows.All
import PySem.Challenge.RW_screwshop_k27_whole_turned_exchanged_mir
import HandS.Ends
import HandS.More
import HandS.Words
import HandS.WordsExc
import HandS.Defaults
import HandS.Head0
import HandS.Head1
import HandS.Head2
import HandS.Head3
import HandS.HeadEnd
import HandS.HeadHook1
import HandS.HeadHook2
import HandS.ForMost
import HandS.Gcd
import HandS.Wide
import HandS.Evl
import HandS.Zip
import HandS.Strs
import HandS.SetFor
import HandS.TupSets
import HandS.SortOrd
import HandS.TupAny
import HandS.Deep
import HandS.Flow
import HandS.Style
import HandS.IsInst
import KE.SortData
import KE.KDictKeyed
/-! HX -/
set_option Elab.async false
set_option linter.all false
set_option maxRecDepth 100000
namespace Sc
open PySem PySem.Spec PyProof.Rows L2
/-! The head is run first: it asks for memory. -/
/-- the row's text -/
def topS (i : Nat) : Stmt := PySem.Challenge.pw_screwshop_k27_whole_turned_exchanged_mir.main.body.getD i (.Pass ⟨0, 0, 0, 0⟩)
def tabD : List (Str × Nat) := [(("part_of" : Str), 3), (("part_plus" : Str), 4), (("part_minus" : Str), 5), (("part_less" : Str), 6), (("part_times" : Str), 7), (("part_over" : Str), 8), (("part_size" : Str), 9), (("at_most" : Str), 10), (("wholes_in" : Str), 11), (("round_by" : Str), 12), (("angle_of" : Str), 13), (("in_order" : Str), 14), (("tupled" : Str), 16), (("set_of" : Str), 17), (("lead_line" : Str), 19), (("line_moved" : Str), 20), (("line_mirrored" : Str), 21), (("ends_turned" : Str), 22), (("lines_of" : Str), 24), (("depth_between" : Str), 25), (("plain_row" : Str), 26), (("plain_grooves" : Str), 27), (("plain_bar" : Str), 28), (("sort_of" : Str), 30), (("turned_bar" : Str), 31), (("turn_to" : Str), 32), (("turns_between" : Str), 33), (("ends_exchanged" : Str), 34), (("bar_mirrored" : Str), 35), (("alike_bars" : Str), 36), (("is_handed" : Str), 37), (("_law_box" : Str), 39), (("_law_take" : Str), 40), (("_law_cells" : Str), 41), (("_law_of" : Str), 42), (("_law_lists" : Str), 43), (("_law_same" : Str), 44), (("_law_common" : Str), 45), (("_law_part" : Str), 46), (("_law_sum" : Str), 47), (("_law_minus" : Str), 48), (("_law_less" : Str), 49), (("_law_prod" : Str), 50), (("_law_quot" : Str), 51), (("_law_times" : Str), 52), (("_law_under" : Str), 53), (("_law_size" : Str), 54), (("_law_floor" : Str), 55), (("_law_round" : Str), 56), (("_law_angle" : Str), 57), (("_law_by_value" : Str), 58), (("_law_fraction" : Str), 59), (("_law_drawn_angle" : Str), 60), (("_law_drawn_lead" : Str), 61), (("_law_lead_line" : Str), 62), (("_law_line" : Str), 63), (("_law_on" : Str), 64), (("_law_moved_line" : Str), 65), (("_law_mirrored_line" : Str), 66), (("_law_groove" : Str), 67), (("_law_bar" : Str), 68), (("_law_depth" : Str), 69), (("_law_points" : Str), 70), (("_law_sort" : Str), 71), (("_law_turned_bar" : Str), 72), (("_law_ended_line" : Str), 73), (("_law_ended_bar" : Str), 74), (("_law_mirrored_bar" : Str), 75), (("_law_plain" : Str), 76), (("_law_turns" : Str), 77), (("_law_by_hand_right" : Str), 78), (("_law_alike" : Str), 79), (("_law_points_right" : Str), 80), (("_law_right" : Str), 81), (("law" : Str), 82)]
def tabF : List Str := ["abs", "len", "set", "sorted", "tuple", "list", "isinstance", "zip", "range", "enumerate", "all", "int", "max", "bool", "str"]
/-! ### the head -/
def defDs : List He.DefD := tabD.map fun y => ⟨(y.1, none), y.1, y.1, defArgs (topS y.2), defBody (topS y.2), defScope (topS y.2), [], []⟩
def factsL : List He.Fa := (tabD.map fun y => He.Fa.glo y.1) ++ tabF.map He.Fa.free
def extra (K : PySem.W.Frag) : Bool := He.eqO (PySem.W.nsIn K mainGlobals "gcd") (some (some (.builtin "math.gcd"))) && (He.eqO (PySem.W.nsIn K mainGlobals "NONE") (some (some (.ref (He.ga K "NONE")))) && He.tupB K "NONE" [He.Dv.int 0, He.Dv.int 1])
abbrev AlX : Type := He.AlD × Bool
def obX (g : Addr → Option Obj) : AlX := (He.obsDG 4 factsL defDs g, extra (He.frG g (He.asD g 4)))
def hkX : PySem.W.Hook where
  α := AlX
  obs := fun s => obX s.heap.get?
  val := fun _ => (He.valD defDs, true)
  says := fun _ h => ∃ K : PySem.W.Frag, K.In h ∧ He.SaysD factsL defDs K ∧ extra K = true
  of := fun _ _ e => ⟨_, He.frG_in, (Prod.mk.inj e).1, (Prod.mk.inj e).2⟩
  keeps := fun _ _ _ ⟨K, hK, c⟩ k => ⟨K, PySem.W.Frag.In.keeps hK k, c⟩
abbrev RX : PySem.W.OpenRow := PySem.W.OpenLaw.row PySem.Challenge.rw_screwshop_k27_whole_turned_exchanged_mir
def obT (s : PySem.W.SharedT) : AlX := obX (HandSHeadRun.getT s)
theorem obT_eq (s : PySem.W.SharedT) : obT s = hkX.obs s.abs := by
  have e : HandSHeadRun.getT s = s.abs.heap.get? := funext (HandSHeadRun.getT_eq s)
  show obX _ = obX _
  rw [e]
def looseX : List Str := ((tabD.map (·.1)).filter fun x => x != (("law" : Str))) ++ [(("NONE" : Str))]
set_option maxHeartbeats 0 in
theorem runX (w : World) : HandSHeadRun.RunEqI RX (PySem.W.view RX.prog [0, 82]) hkX obT 3000 looseX w := by
  unfold HandSHeadRun.RunEqI
  kernel_rfl
end Sc

/-! DL1 -/
set_option Elab.async false
set_option linter.all false
set_option maxRecDepth 100000
/-! THE DATA LAYER. A state is told by entries of slots (data), hidden behind are two heaps: F, what is frozen, within H, what stands. -/
namespace Sc
open PySem PySem.Spec PyProof.Rows L2 Evl

abbrev PD := PyData
/-- the drawing list's three numbers -/
abbrev Tn := Int × Int × Int
/-- what a slot holds: nothing known, a datum, a list that is this frame's own, the drawing list -/
inductive En where
  | no
  | v (d : PD)
  | own (ds : List PD)
  | tin

section
variable {K : PySem.W.Frag} {p : Bool} {ta : Addr}

mutual
theorem dp_up {F F' : Hp} (e : Ex F F') : ∀ (d : PD) (v : V), Dp K F v d → Dp K F' v d
  | .none, _, h => by cases h; exact Dp.non
  | .bool b, _, h => by cases h; exact Dp.bl b
  | .int i, _, h => by cases h; exact Dp.int i
  | .str x, _, h => by cases h; exact Dp.str x
  | .list ds, _, h => by
    cases h with
    | lst hs ha => exact Dp.lst (ex_l e hs) (dps_up e ds _ ha)
  | .tuple ds, _, h => by
    cases h with
    | tup hs ha => exact Dp.tup (ex_t e hs) (dps_up e ds _ ha)
  | .dict _, _, h => by cases h
theorem dps_up {F F' : Hp} (e : Ex F F') : ∀ (ds : List PD) (vs : List V), DpAll K F vs ds → DpAll K F' vs ds
  | [], _, h => by cases h; exact DpAll.nil
  | d :: ds, _, h => by
    cases h with
    | cons h1 h2 => exact DpAll.cons (dp_up e d _ h1) (dps_up e ds _ h2)
end
theorem dps_len {F : Hp} : ∀ {vs : List V} {ds : List PD}, DpAll K F vs ds → vs.length = ds.length
  | [], [], _ => rfl
  | [], _ :: _, h => by cases h
  | _ :: _, [], h => by cases h
  | v :: vs, d :: ds, h => by
    cases h with
    | cons h1 h2 =>
      rw [List.length_cons, List.length_cons, dps_len h2]
theorem dps_get {F : Hp} : ∀ {vs : List V} {ds : List PD} {i : Nat} {d : PD}, DpAll K F vs ds → ds[i]? = some d → ∃ v, vs[i]? = some v ∧ Dp K F v d
  | _, [], _, _, _, e => by simp at e
  | [], _ :: _, _, _, h, _ => by cases h
  | v :: vs, d0 :: ds, 0, d, h, e => by
    cases h with
    | cons h1 h2 =>
      have q : d0 = d := by simpa using e
      exact ⟨v, rfl, q ▸ h1⟩
  | v :: vs, d0 :: ds, i + 1, d, h, e => by
    cases h with
    | cons h1 h2 =>
      obtain ⟨u, e1, e2⟩ := dps_get (i := i) h2 (by simpa using e)
      exact ⟨u, by simpa using e1, e2⟩
theorem dps_getV {F : Hp} {vs : List V} {ds : List PD} {i : Nat} {v : V} (h : DpAll K F vs ds) (e : vs[i]? = some v) : ∃ d, ds[i]? = some d ∧ Dp K F v d := by
  have hl := dps_len h
  obtain ⟨hi, _⟩ := List.getElem?_eq_some_iff.mp e
  have q : ds[i]? = some (ds[i]'(by omega)) := List.getElem?_eq_getElem (by omega)
  obtain ⟨u, e1, e2⟩ := dps_get h q
  rw [e] at e1
  cases e1
  exact ⟨_, q, e2⟩
theorem dps_app {F : Hp} : ∀ {vs ws : List V} {ds es : List PD}, DpAll K F vs ds → DpAll K F ws es → DpAll K F (vs ++ ws) (ds ++ es)
  | [], ws, [], es, _, h2 => h2
  | [], _, _ :: _, _, h, _ => by cases h
  | _ :: _, _, [], _, h, _ => by cases h
  | v :: vs, ws, d :: ds, es, h, h2 => by
    cases h with
    | cons h1 h3 => exact DpAll.cons h1 (dps_app h3 h2)
theorem dps_set {F : Hp} {v : V} {d : PD} (hv : Dp K F v d) : ∀ {vs : List V} {ds : List PD} (i : Nat), DpAll K F vs ds → DpAll K F (vs.set i v) (ds.set i d)
  | [], [], _, _ => DpAll.nil
  | [], _ :: _, _, h => by cases h
  | _ :: _, [], _, h => by cases h
  | _ :: _, _ :: _, 0, h => by
    cases h with
    | cons h1 h2 => exact DpAll.cons hv h2
  | _ :: _, _ :: _, i + 1, h => by
    cases h with
    | cons h1 h2 => exact DpAll.cons h1 (dps_set hv i h2)
theorem dps_drop {F : Hp} : ∀ {vs : List V} {ds : List PD} (n : Nat), DpAll K F vs ds → DpAll K F (vs.drop n) (ds.drop n)
  | _, _, 0, h => h
  | [], [], _ + 1, _ => DpAll.nil
  | [], _ :: _, _ + 1, h => by cases h
  | _ :: _, [], _ + 1, h => by cases h
  | _ :: vs, _ :: ds, n + 1, h => by
    cases h with
    | cons h1 h2 => exact dps_drop n h2
theorem dps_take {F : Hp} : ∀ {vs : List V} {ds : List PD} (n : Nat), DpAll K F vs ds → DpAll K F (vs.take n) (ds.take n)
  | _, _, 0, _ => DpAll.nil
  | [], [], _ + 1, _ => DpAll.nil
  | [], _ :: _, _ + 1, h => by cases h
  | _ :: _, [], _ + 1, h => by cases h
  | _ :: vs, _ :: ds, n + 1, h => by
    cases h with
    | cons h1 h2 => exact DpAll.cons h1 (dps_take n h2)

/-- what a piece of code does to the two heaps -/
structure Stp (p : Bool) (ta : Addr) (F H F' H' : Hp) : Prop where
  ff : Ex F F'
  fh : Ex F' H'
  old : ∀ a o, H a = some o → (p = true → a ≠ ta) → H' a = some o
  new : ∀ a, H a ≠ none → F' a = F a
  dom : ∀ a, H a ≠ none → H' a ≠ none
/-- the drawing list stands, and is not frozen -/
def Tin (p : Bool) (ta : Addr) (t : Tn) (F H : Hp) : Prop := p = true → F ta = none ∧ H ta = some (.lst [.int t.1, .int t.2.1, .int t.2.2])

theorem Stp.refl {F H : Hp} (h : Ex F H) : Stp p ta F H F H := ⟨Ex.refl F, h, fun _ _ e _ => e, fun _ _ => rfl, fun _ e => e⟩
theorem Stp.trans {F H F1 H1 F2 H2 : Hp} (a : Stp p ta F H F1 H1) (b : Stp p ta F1 H1 F2 H2) : Stp p ta F H F2 H2 :=
  ⟨a.ff.trans b.ff, b.fh, fun x o e n => b.old x o (a.old x o e n) n, fun x e => (b.new x (a.dom x e)).trans (a.new x e), fun x e => b.dom x (a.dom x e)⟩
/-- a new object, frozen -/
theorem Stp.frz {F H : Hp} {q : Addr} {o : HO} (h : Ex F H) (hq : H q = none) : Stp p ta F H (upd F q o) (upd H q o) := by
  have hf : F q = none := fresh_back h hq
  refine ⟨Ex.new hf, fun a u e => ?_, fun a u e _ => ?_, fun a e => ?_, fun a e => ?_⟩
  · by_cases z : a = q
    · subst z
      rw [upd_same] at e ⊢
      exact e
    · rw [upd_ne z] at e ⊢
      exact h a u e
  · rw [upd_ne (ne_of_none e hq)]
    exact e
  · exact upd_ne (fun z => e (by rw [z]; exact hq))
  · rw [upd_ne (fun z => e (by rw [z]; exact hq))]
    exact e
/-- a new object, not frozen -/
theorem Stp.add {F H : Hp} {q : Addr} {o : HO} (h : Ex F H) (hq : H q = none) : Stp p ta F H F (upd H q o) := by
  refine ⟨Ex.refl F, h.trans (Ex.new hq), fun a u e _ => ?_, fun a e => rfl, fun a e => ?_⟩
  · rw [upd_ne (ne_of_none e hq)]
    exact e
  · rw [upd_ne (fun z => e (by rw [z]; exact hq))]
    exact e
theorem Tin.frz {t : Tn} {F H : Hp} {q : Addr} {o : HO} (h : Tin p ta t F H) (hq : H q = none) : Tin p ta t (upd F q o) (upd H q o) := fun z => by
  obtain ⟨h1, h2⟩ := h z
  have ne : ta ≠ q := ne_of_none h2 hq
  rw [upd_ne ne, upd_ne ne]
  exact ⟨h1, h2⟩
theorem Tin.add {t : Tn} {F H : Hp} {q : Addr} {o : HO} (h : Tin p ta t F H) (hq : H q = none) : Tin p ta t F (upd H q o) := fun z => by
  obtain ⟨h1, h2⟩ := h z
  have ne : ta ≠ q := ne_of_none h2 hq
  rw [upd_ne ne]
  exact ⟨h1, h2⟩
/-- a list that was not yet there is frozen -/
theorem Tin.cool {t : Tn} {F H : Hp} {q : Addr} {o : HO} (h : Tin p ta t F H) (hq : p = true → q ≠ ta) : Tin p ta t (upd F q o) H := fun z => by
  obtain ⟨h1, h2⟩ := h z
  rw [upd_ne (fun e => hq z e.symm)]
  exact ⟨h1, h2⟩

/-- what a slot's entry says -/
def EnOk (K : PySem.W.Frag) (p : Bool) (ta : Addr) (H0 F H : Hp) (sv : Option (Option V)) : En → Prop
  | .no => True
  | .v d => ∃ v, sv = some (some v) ∧ Dp K F v d
  | .own ds => ∃ a vs, sv = some (some (.ref a)) ∧ H0 a = none ∧ F a = none ∧ H a = some (.lst vs) ∧ DpAll K F vs ds
  | .tin => p = true ∧ sv = some (some (.ref ta))

structure Ok (K : PySem.W.Frag) (p : Bool) (ta : Addr) (F0 H0 : Hp) (t : Tn) (Γ : List En) (σ : L2.St) (F H : Hp) : Prop where
  stp : Stp p ta F0 H0 F H
  t0 : p = true → H0 ta ≠ none
  tin : Tin p ta t F H
  len : σ.length = Γ.length
  ent : ∀ (i : Nat) (e : En), Γ[i]? = some e → EnOk K p ta H0 F H (σ[i]?) e
  apart : ∀ (i j : Nat) (a : Addr) (ds es : List PD), Γ[i]? = some (.own ds) → Γ[j]? = some (.own es) → σ[i]? = some (some (.ref a)) → σ[j]? = some (some (.ref a)) → i = j

theorem EnOk.step {H0 F H F' H' : Hp} {sv : Option (Option V)} (s : Stp p ta F H F' H') (h0 : p = true → H0 ta ≠ none) : ∀ {e : En}, EnOk K p ta H0 F H sv e → EnOk K p ta H0 F' H' sv e
  | .no, _ => trivial
  | .v d, h => by
    obtain ⟨v, e1, e2⟩ := h
    exact ⟨v, e1, dp_up s.ff d v e2⟩
  | .own ds, h => by
    obtain ⟨a, vs, e1, e2, e3, e4, e5⟩ := h
    refine ⟨a, vs, e1, e2, ?_, s.old a _ e4 (fun z q => h0 z (q ▸ e2)), dps_up s.ff ds vs e5⟩
    rw [s.new a (by rw [e4]; exact fun z => nomatch z)]
    exact e3
  | .tin, h => h
theorem Ok.step {F0 H0 F H F' H' : Hp} {t t' : Tn} {Γ : List En} {σ : L2.St} (o : Ok K p ta F0 H0 t Γ σ F H) (s : Stp p ta F H F' H') (ti : Tin p ta t' F' H') : Ok K p ta F0 H0 t' Γ σ F' H' :=
  ⟨o.stp.trans s, o.t0, ti, o.len, fun i e h => (o.ent i e h).step s o.t0, o.apart⟩
theorem Ok.fh {F0 H0 F H : Hp} {t : Tn} {Γ : List En} {σ : L2.St} (o : Ok K p ta F0 H0 t Γ σ F H) : Ex F H := o.stp.fh
end
end Sc

/-! DL2 -/
set_option Elab.async false
set_option linter.all false
set_option maxRecDepth 100000
namespace Sc
open PySem PySem.Spec PyProof.Rows L2 Evl

/-- where a piece of text stands: the module's facts, the names by slot, the scope, the room -/
structure Sta where
  P : Program
  w : World
  K : PySem.W.Frag
  mg : Str → Option Value
  base : Heap
  N : List Str
  sc : Scope
  k : Nat
  top : Bool
structure Cxs (S : Sta) (X : Cx) : Prop where
  prog : X.prog = S.P
  w : X.w = S.w
  K : X.K = S.K
  mg : X.mg = S.mg
  base : X.base = S.base
  N : X.N = S.N
  sc : X.env.scope = S.sc
  calm : X.calm = true
  room : Room S.k X.A
  nd : S.N.Nodup
  xe : X.xe = fun _ _ => False
  fn : S.top = true → ∀ x, X.fn x = true
  kd : S.sc.kind = .function

/-- a name of the module, or a built-in one -/
def glb (S : Sta) (x : Str) : Prop := S.sc.names.lookup x = some .globalImplicit
theorem glb.gl {S : Sta} {x : Str} (h : glb S x) {X : Cx} (hX : Cxs S X) : Gl X x := by
  unfold Gl Env.kindOf
  rw [hX.sc]
  exact h
/-! ### what a reading gives -/
section
variable (K : PySem.W.Frag) (p : Bool)
/-- a datum, frozen -/
def EvD (te : TE) (Γ : List En) (t : Tn) (d : PD) (t' : Tn) : Prop :=
  ∀ ta F0 H0 σ F H, Ok K p ta F0 H0 t Γ σ F H → ∀ Q : VK, (∀ v F' H', Stp p ta F H F' H' → Tin p ta t' F' H' → Dp K F' v d → Q v H') → te σ H Q
/-- a new list, nobody's yet -/
def EvN (te : TE) (Γ : List En) (t : Tn) (ds : List PD) (t' : Tn) : Prop :=
  ∀ ta F0 H0 σ F H, Ok K p ta F0 H0 t Γ σ F H → ∀ Q : VK, (∀ a vs F' H', Stp p ta F H F' H' → Tin p ta t' F' H' → H a = none → F' a = none → H' a = some (.lst vs) → DpAll K F' vs ds → Q (.ref a) H') → te σ H Q
/-- a list that stands by itself (new, or one's own) -/
def EvO (te : TE) (Γ : List En) (t : Tn) (ds : List PD) (t' : Tn) : Prop :=
  ∀ ta F0 H0 σ F H, Ok K p ta F0 H0 t Γ σ F H → ∀ Q : VK, (∀ a vs F' H', Stp p ta F H F' H' → Tin p ta t' F' H' → (p = true → a ≠ ta) → F' a = none → H' a = some (.lst vs) → DpAll K F' vs ds → Q (.ref a) H') → te σ H Q
/-- a list (true) or a tuple (false) that can be read -/
def EvQ (te : TE) (Γ : List En) (t : Tn) (l : Bool) (ds : List PD) (t' : Tn) : Prop :=
  ∀ ta F0 H0 σ F H, Ok K p ta F0 H0 t Γ σ F H → ∀ Q : VK, (∀ a vs F' H', Stp p ta F H F' H' → Tin p ta t' F' H' → (∀ F2 H2, Stp p ta F' H' F2 H2 → if l = true then SqL K H2 a vs else SqT K H2 a vs) → DpAll K F' vs ds → Q (.ref a) H') → te σ H Q
/-- something that reads as a datum -/
def EvR (te : TE) (Γ : List En) (t : Tn) (d : PD) (t' : Tn) : Prop :=
  ∀ ta F0 H0 σ F H, Ok K p ta F0 H0 t Γ σ F H → ∀ Q : VK, (∀ v F' H', Stp p ta F H F' H' → Tin p ta t' F' H' → (∀ F2 H2, Stp p ta F' H' F2 H2 → Dp K H2 v d) → Q v H') → te σ H Q
/-- a test -/
def EvT (tt : TT) (Γ : List En) (t : Tn) (b : Bool) (t' : Tn) : Prop :=
  ∀ ta F0 H0 σ F H, Ok K p ta F0 H0 t Γ σ F H → ∀ Q : Bool → Hp → Prop, (∀ F' H', Stp p ta F H F' H' → Tin p ta t' F' H' → Q b H') → tt σ H Q
/-- arguments -/
def ArgOk (p : Bool) (ta : Addr) (F : Hp) : V → En → Prop
  | v, .v d => Dp K F v d
  | v, .tin => p = true ∧ v = .ref ta
  | _, _ => False
inductive ArgsOk (p : Bool) (ta : Addr) (F : Hp) : List V → List En → Prop
  | nil : ArgsOk p ta F [] []
  | cons {v : V} {e : En} {vs : List V} {es : List En} : ArgOk K p ta F v e → ArgsOk p ta F vs es → ArgsOk p ta F (v :: vs) (e :: es)
def EvA (ts : TA) (Γ : List En) (t : Tn) (es : List En) (t' : Tn) : Prop :=
  ∀ ta F0 H0 σ F H, Ok K p ta F0 H0 t Γ σ F H → ∀ Q : List V → Hp → Prop, (∀ vs F' H', Stp p ta F H F' H' → Tin p ta t' F' H' → ArgsOk K p ta F' vs es → Q vs H') → ts σ H Q
end

section
variable {K : PySem.W.Frag} {p : Bool} {te ta tb : TE} {Γ : List En} {t t1 t2 : Tn} {d e : PD} {ds : List PD}
theorem ArgOk.up {at_ : Addr} {F F' : Hp} (h : Ex F F') {v : V} : ∀ {e : En}, ArgOk K p at_ F v e → ArgOk K p at_ F' v e
  | .v d, a => dp_up h d v a
  | .tin, a => a
  | .no, a => a
  | .own _, a => a
theorem EvN.own (h : EvN K p te Γ t ds t1) : EvO K p te Γ t ds t1 := fun ta F0 H0 σ F H o Q q => h ta F0 H0 σ F H o Q fun a vs F' H' s i hn hf hl hd =>
  q a vs F' H' s i (fun z e => by
    have w := (o.tin z).2
    rw [← e, hn] at w
    cases w) hf hl hd
theorem EvO.seq (h : EvO K p te Γ t ds t1) : EvQ K p te Γ t true ds t1 := fun ta F0 H0 σ F H o Q q => h ta F0 H0 σ F H o Q fun a vs F' H' s i hne hf hl hd =>
  q a vs F' H' s i (fun F2 H2 s2 => by rw [if_pos rfl]; exact SqL.of (s2.old a _ hl hne)) hd
theorem EvD.lst (h : EvD K p te Γ t (.list ds) t1) : EvQ K p te Γ t true ds t1 := fun ta F0 H0 σ F H o Q q => h ta F0 H0 σ F H o Q fun v F' H' s i hd => by
  cases hd with
  | lst hs ha => exact q _ _ F' H' s i (fun F2 H2 s2 => by rw [if_pos rfl]; exact ex_l (s2.ff.trans s2.fh) hs) ha
theorem EvD.tup (h : EvD K p te Γ t (.tuple ds) t1) : EvQ K p te Γ t false ds t1 := fun ta F0 H0 σ F H o Q q => h ta F0 H0 σ F H o Q fun v F' H' s i hd => by
  cases hd with
  | tup hs ha => exact q _ _ F' H' s i (fun F2 H2 s2 => by rw [if_neg (by decide)]; exact ex_t (s2.ff.trans s2.fh) hs) ha
theorem EvD.rd (h : EvD K p te Γ t d t1) : EvR K p te Γ t d t1 := fun ta F0 H0 σ F H o Q q => h ta F0 H0 σ F H o Q fun v F' H' s i hd =>
  q v F' H' s i fun F2 H2 s2 => dp_up (s2.ff.trans s2.fh) d v hd
theorem EvQ.rdL (h : EvQ K p te Γ t true ds t1) : EvR K p te Γ t (.list ds) t1 := fun ta F0 H0 σ F H o Q q => h ta F0 H0 σ F H o Q fun a vs F' H' s i hs hd =>
  q _ F' H' s i fun F2 H2 s2 => Dp.lst (by have z := hs F2 H2 s2; rw [if_pos rfl] at z; exact z) (dps_up (s2.ff.trans s2.fh) ds vs hd)
/-- a new list is frozen -/
theorem EvN.frz (h : EvN K p te Γ t ds t1) : EvD K p te Γ t (.list ds) t1 := fun ta F0 H0 σ F H o Q q => h ta F0 H0 σ F H o Q fun a vs F' H' s i hn hf hl hd => by
  have hne : p = true → a ≠ ta := fun z e => by
    have w := (o.tin z).2
    rw [← e, hn] at w
    cases w
  have up : Ex F' (upd F' a (.lst vs)) := Ex.new hf
  refine q _ (upd F' a (.lst vs)) H' ⟨s.ff.trans up, fun b u e => ?_, s.old, fun b e => ?_, s.dom⟩ (i.cool hne) (Dp.lst (SqL.of upd_same) (dps_up up ds vs hd))
  · by_cases z : b = a
    · subst z
      rw [upd_same] at e
      rw [← e]
      exact hl
    · rw [upd_ne z] at e
      exact s.fh b u e
  · rw [upd_ne (fun z => e (by rw [z]; exact hn))]
    exact s.new b e
/-- two operands, a value that needs nothing new -/
theorem ev2 {r : R2} {dr : PD} (ha : EvD K p ta Γ t d t1) (hb : EvD K p tb Γ t1 e t2) (hr : ∀ x y (F H : Hp), Ex F H → Dp K F x d → Dp K F y e → ∀ Q : VK, (∀ v, Dp K F v dr → Q v H) → r x y H Q) : EvD K p (tOp r ta tb) Γ t dr t2 :=
  fun at_ F0 H0 σ F H o Q q => ha at_ F0 H0 σ F H o _ fun x F1 H1 s1 i1 d1 => hb at_ F0 H0 σ F1 H1 (o.step s1 i1) _ fun y F2 H2 s2 i2 d2 =>
    hr x y F2 H2 s2.fh (dp_up s2.ff _ _ d1) d2 Q fun v dv => q v F2 H2 (s1.trans s2) i2 dv
/-- two operands that can be read, a truth value -/
theorem evR2 {r : R2} {b : Bool} (ha : EvR K p ta Γ t d t1) (hb : EvR K p tb Γ t1 e t2) (hr : ∀ x y (H : Hp), Dp K H x d → Dp K H y e → ∀ Q : VK, Q (.bl b) H → r x y H Q) : EvD K p (tOp r ta tb) Γ t (.bool b) t2 :=
  fun at_ F0 H0 σ F H o Q q => ha at_ F0 H0 σ F H o _ fun x F1 H1 s1 i1 d1 => hb at_ F0 H0 σ F1 H1 (o.step s1 i1) _ fun y F2 H2 s2 i2 d2 =>
    hr x y H2 (d1 F2 H2 s2) (d2 F2 H2 (Stp.refl s2.fh)) Q (q _ F2 H2 (s1.trans s2) i2 (Dp.bl b))
/-- one operand -/
theorem ev1 {r : V → Hp → VK → Prop} {dr : PD} (ha : EvD K p ta Γ t d t1) (hr : ∀ x (F H : Hp), Ex F H → Dp K F x d → ∀ Q : VK, (∀ v, Dp K F v dr → Q v H) → r x H Q) : EvD K p (tUn r ta) Γ t dr t1 :=
  fun at_ F0 H0 σ F H o Q q => ha at_ F0 H0 σ F H o _ fun x F1 H1 s1 i1 d1 => hr x F1 H1 s1.fh d1 Q fun v dv => q v F1 H1 s1 i1 dv
end

/-! ### the judgements -/
section
variable (S : Sta) (p : Bool)
def DE (e : Expr) (Γ : List En) (t : Tn) (d : PD) (t' : Tn) : Prop := ∀ X, Cxs S X → ∃ te, PE X e te ∧ EvD X.K p te Γ t d t'
def DN (e : Expr) (Γ : List En) (t : Tn) (ds : List PD) (t' : Tn) : Prop := ∀ X, Cxs S X → ∃ te, PE X e te ∧ EvN X.K p te Γ t ds t'
def DO (e : Expr) (Γ : List En) (t : Tn) (ds : List PD) (t' : Tn) : Prop := ∀ X, Cxs S X → ∃ te, PE X e te ∧ EvO X.K p te Γ t ds t'
def DQ (e : Expr) (Γ : List En) (t : Tn) (l : Bool) (ds : List PD) (t' : Tn) : Prop := ∀ X, Cxs S X → ∃ te, PE X e te ∧ EvQ X.K p te Γ t l ds t'
def DR (e : Expr) (Γ : List En) (t : Tn) (d : PD) (t' : Tn) : Prop := ∀ X, Cxs S X → ∃ te, PE X e te ∧ EvR X.K p te Γ t d t'
def DT (e : Expr) (Γ : List En) (t : Tn) (b : Bool) (t' : Tn) : Prop := ∀ X, Cxs S X → ∃ tt, PT X e tt ∧ EvT X.K p tt Γ t b t'
def DW (e : Expr) (Γ : List En) (t : Tn) (b : Bool) (t' : Tn) : Prop := ∀ X, Cxs S X → ∃ tt, PW X e tt ∧ EvT X.K p tt Γ t b t'
def DA (es : List Expr) (Γ : List En) (t : Tn) (as : List En) (t' : Tn) : Prop := ∀ X, Cxs S X → ∃ ts, PA X es ts ∧ EvA X.K p ts Γ t as t'
/-- a comparison -/
def DC (op : CmpOp) (a b : Expr) (Γ : List En) (t : Tn) (c : Bool) (t' : Tn) : Prop :=
  ∀ X, Cxs S X → ∃ (r : R2) (ta tb : TE), OpR X (compareOp op) r ∧ PE X a ta ∧ PE X b tb ∧ behindInMarks op b = false ∧ EvD X.K p (tOp r ta tb) Γ t (.bool c) t'
end

section
variable {S : Sta} {p : Bool} {e a b : Expr} {Γ : List En} {t t1 t2 : Tn} {d : PD} {ds : List PD} {pos : Pos}
theorem DN.own (h : DN S p e Γ t ds t1) : DO S p e Γ t ds t1 := fun X hX => let ⟨te, h1, h2⟩ := h X hX; ⟨te, h1, h2.own⟩
theorem DN.frz (h : DN S p e Γ t ds t1) : DE S p e Γ t (.list ds) t1 := fun X hX => let ⟨te, h1, h2⟩ := h X hX; ⟨te, h1, h2.frz⟩
theorem DO.seq (h : DO S p e Γ t ds t1) : DQ S p e Γ t true ds t1 := fun X hX => let ⟨te, h1, h2⟩ := h X hX; ⟨te, h1, h2.seq⟩
theorem DE.lst (h : DE S p e Γ t (.list ds) t1) : DQ S p e Γ t true ds t1 := fun X hX => let ⟨te, h1, h2⟩ := h X hX; ⟨te, h1, h2.lst⟩
theorem DE.tup (h : DE S p e Γ t (.tuple ds) t1) : DQ S p e Γ t false ds t1 := fun X hX => let ⟨te, h1, h2⟩ := h X hX; ⟨te, h1, h2.tup⟩
theorem DE.rd (h : DE S p e Γ t d t1) : DR S p e Γ t d t1 := fun X hX => let ⟨te, h1, h2⟩ := h X hX; ⟨te, h1, h2.rd⟩
theorem DO.rd (h : DO S p e Γ t ds t1) : DR S p e Γ t (.list ds) t1 := fun X hX => let ⟨te, h1, h2⟩ := h X hX; ⟨te, h1, h2.seq.rdL⟩
theorem DE.is {d' : PD} (h : DE S p e Γ t d t1) (q : d = d') : DE S p e Γ t d' t1 := q ▸ h
theorem DN.is {ds' : List PD} (h : DN S p e Γ t ds t1) (q : ds = ds') : DN S p e Γ t ds' t1 := q ▸ h
theorem DT.is {c c' : Bool} (h : DT S p e Γ t c t1) (q : c = c') : DT S p e Γ t c' t1 := q ▸ h

/-! ### names, constants -/
theorem de_n (i : Nat) {x : Str} (he : Γ[i]? = some (.v d)) (hN : S.N[i]? = some x := by rfl) (hv : Vis S.sc x := by first | exact Or.inl rfl | exact Or.inr (Or.inl rfl) | exact Or.inr (Or.inr rfl))
    (hd : (x == ("__debug__" : Str)) = false := by decide) (hcd : (x == ("__classdict__" : Str)) = false := by decide) : DE S p (.Name x pos) Γ t d t := fun X hX =>
  ⟨tVar i, pe_var (by rw [hX.N]; exact hN) (by rw [hX.sc]; exact hv) hd hcd, fun ta F0 H0 σ F H o Q q => by
    obtain ⟨v, e1, e2⟩ := o.ent i _ he
    exact ⟨v, e1, q v F H (Stp.refl o.fh) o.tin e2⟩⟩
theorem do_n (i : Nat) {x : Str} (he : Γ[i]? = some (.own ds)) (hN : S.N[i]? = some x := by rfl) (hv : Vis S.sc x := by first | exact Or.inl rfl | exact Or.inr (Or.inl rfl) | exact Or.inr (Or.inr rfl))
    (hd : (x == ("__debug__" : Str)) = false := by decide) (hcd : (x == ("__classdict__" : Str)) = false := by decide) : DO S p (.Name x pos) Γ t ds t := fun X hX =>
  ⟨tVar i, pe_var (by rw [hX.N]; exact hN) (by rw [hX.sc]; exact hv) hd hcd, fun ta F0 H0 σ F H o Q q => by
    obtain ⟨a, vs, e1, e2, e3, e4, e5⟩ := o.ent i _ he
    exact ⟨_, e1, q a vs F H (Stp.refl o.fh) o.tin (fun z w => o.t0 z (w ▸ e2)) e3 e4 e5⟩⟩
theorem de_c {te : TE} {v : V} (h : ∀ X, Cxs S X → PE X e (tC v)) (hd : ∀ (K : PySem.W.Frag) (F : Hp), Dp K F v d) : DE S p e Γ t d t := fun X hX =>
  ⟨tC v, h X hX, fun ta F0 H0 σ F H o Q q => q v F H (Stp.refl o.fh) o.tin (hd _ _)⟩
theorem de_int {i j} : DE S p (.Constant (.int i) j pos) Γ t (.int i) t := de_c (te := tC (.int i)) (fun _ _ => pe_int) fun _ _ => Dp.int i
theorem de_bl {c j} : DE S p (.Constant (.bool c) j pos) Γ t (.bool c) t := de_c (te := tC (.bl c)) (fun _ _ => pe_bl) fun _ _ => Dp.bl c
theorem de_non {j} : DE S p (.Constant .none j pos) Γ t .none t := de_c (te := tC .non) (fun _ _ => pe_non) fun _ _ => Dp.non
theorem de_str {x j} : DE S p (.Constant (.str x) j pos) Γ t (.str x) t := de_c (te := tC (.str x)) (fun _ _ => pe_str) fun _ _ => Dp.str x
/-- a constant of the module: a tuple of ints that the top made -/
theorem de_glob {x : Str} {c : Addr} {vs : List V} (hg : glb S x) (hm : S.mg x = some (.ref c)) (hs : ∀ H, SqT S.K H c vs) (hd : ∀ F, DpAll S.K F vs ds) (hdb : (x == ("__debug__" : Str)) = false := by decide) :
    DE S p (.Name x pos) Γ t (.tuple ds) t := fun X hX =>
  ⟨tC (.ref c), pe_glob (hg.gl hX) (by rw [hX.mg]; exact hm) rfl hdb, fun ta F0 H0 σ F H o Q q => q _ F H (Stp.refl o.fh) o.tin (by rw [hX.K]; exact Dp.tup (hs F) (hd F))⟩

/-! ### ints -/
section
variable {i j : Int}
theorem de_add (ha : DE S p a Γ t (.int i) t1) (hb : DE S p b Γ t1 (.int j) t2) : DE S p (.BinOp a .Add b pos) Γ t (.int (i + j)) t2 := fun X hX =>
  let ⟨_, a1, a2⟩ := ha X hX; let ⟨_, b1, b2⟩ := hb X hX
  ⟨_, pe_op op_add a1 b1, ev2 a2 b2 fun x y F H _ h1 h2 Q q => by cases h1; cases h2; exact ⟨i, j, rfl, rfl, q _ (Dp.int _)⟩⟩
theorem de_sub (ha : DE S p a Γ t (.int i) t1) (hb : DE S p b Γ t1 (.int j) t2) : DE S p (.BinOp a .Sub b pos) Γ t (.int (i - j)) t2 := fun X hX =>
  let ⟨_, a1, a2⟩ := ha X hX; let ⟨_, b1, b2⟩ := hb X hX
  ⟨_, pe_op op_sub a1 b1, ev2 a2 b2 fun x y F H _ h1 h2 Q q => by cases h1; cases h2; exact ⟨i, j, rfl, rfl, q _ (Dp.int _)⟩⟩
/-- a product, one factor small -/
theorem de_mulS (ha : DE S p a Γ t (.int i) t1) (hb : DE S p b Γ t1 (.int j) t2) (hc : CMul i j) : DE S p (.BinOp a .Mult b pos) Γ t (.int (i * j)) t2 := fun X hX =>
  let ⟨_, a1, a2⟩ := ha X hX; let ⟨_, b1, b2⟩ := hb X hX
  ⟨_, pe_op op_mul a1 b1, ev2 a2 b2 fun x y F H _ h1 h2 Q q => by cases h1; cases h2; exact ⟨i, j, rfl, rfl, hc, q _ (Dp.int _)⟩⟩
/-- a product, both bounded -/
theorem de_mulW (ha : DE S p a Γ t (.int i) t1) (hb : DE S p b Γ t1 (.int j) t2) (hc : CMulW i j) : DE S p (.BinOp a .Mult b pos) Γ t (.int (i * j)) t2 := fun X hX =>
  let ⟨_, a1, a2⟩ := ha X hX; let ⟨_, b1, b2⟩ := hb X hX
  ⟨_, pe_op op_mulW a1 b1, ev2 a2 b2 fun x y F H _ h1 h2 Q q => by cases h1; cases h2; exact ⟨i, j, rfl, rfl, hc, q _ (Dp.int _)⟩⟩
/-- // by a positive number below 2 ^ 9000 -/
theorem de_divW (ha : DE S p a Γ t (.int i) t1) (hb : DE S p b Γ t1 (.int j) t2) (hc : CDivW i j) : DE S p (.BinOp a .FloorDiv b pos) Γ t (.int (i / j)) t2 := fun X hX =>
  let ⟨_, a1, a2⟩ := ha X hX; let ⟨_, b1, b2⟩ := hb X hX
  ⟨_, pe_op op_fdivW a1 b1, ev2 a2 b2 fun x y F H _ h1 h2 Q q => by cases h1; cases h2; exact ⟨i, j, rfl, rfl, hc, q _ (Dp.int _)⟩⟩
theorem de_mod (ha : DE S p a Γ t (.int i) t1) (hb : DE S p b Γ t1 (.int j) t2) (hc : 0 < j) : DE S p (.BinOp a .Mod b pos) Γ t (.int (i % j)) t2 := fun X hX =>
  let ⟨_, a1, a2⟩ := ha X hX; let ⟨_, b1, b2⟩ := hb X hX
  ⟨_, pe_op op_mod a1 b1, ev2 a2 b2 fun x y F H _ h1 h2 Q q => by cases h1; cases h2; exact ⟨i, j, rfl, rfl, hc, q _ (Dp.int _)⟩⟩
theorem de_pow (ha : DE S p a Γ t (.int i) t1) (hb : DE S p b Γ t1 (.int j) t2) (hc : CPow i j) : DE S p (.BinOp a .Pow b pos) Γ t (.int (i ^ j.toNat)) t2 := fun X hX =>
  let ⟨_, a1, a2⟩ := ha X hX; let ⟨_, b1, b2⟩ := hb X hX
  ⟨_, pe_op op_pow a1 b1, ev2 a2 b2 fun x y F H _ h1 h2 Q q => by cases h1; cases h2; exact ⟨i, j, rfl, rfl, hc, q _ (Dp.int _)⟩⟩
theorem de_neg (ha : DE S p a Γ t (.int i) t1) : DE S p (.UnaryOp .USub a pos) Γ t (.int (-i)) t1 := fun X hX =>
  let ⟨_, a1, a2⟩ := ha X hX
  ⟨_, pe_un un_neg a1, ev1 a2 fun x F H _ h1 Q q => by cases h1; exact ⟨i, rfl, q _ (Dp.int _)⟩⟩

/-! ### comparisons -/
theorem dc_lt (ha : DE S p a Γ t (.int i) t1) (hb : DE S p b Γ t1 (.int j) t2) : DC S p .Lt a b Γ t (decide (i < j)) t2 := fun X hX =>
  let ⟨_, a1, a2⟩ := ha X hX; let ⟨_, b1, b2⟩ := hb X hX
  ⟨_, _, _, op_lt, a1, b1, nomark _, ev2 a2 b2 fun x y F H _ h1 h2 Q q => by cases h1; cases h2; exact ⟨i, j, rfl, rfl, q _ (Dp.bl _)⟩⟩
theorem dc_le (ha : DE S p a Γ t (.int i) t1) (hb : DE S p b Γ t1 (.int j) t2) : DC S p .LtE a b Γ t (decide (i ≤ j)) t2 := fun X hX =>
  let ⟨_, a1, a2⟩ := ha X hX; let ⟨_, b1, b2⟩ := hb X hX
  ⟨_, _, _, op_le, a1, b1, nomark _, ev2 a2 b2 fun x y F H _ h1 h2 Q q => by cases h1; cases h2; exact ⟨i, j, rfl, rfl, q _ (Dp.bl _)⟩⟩
theorem dc_gt (ha : DE S p a Γ t (.int i) t1) (hb : DE S p b Γ t1 (.int j) t2) : DC S p .Gt a b Γ t (decide (j < i)) t2 := fun X hX =>
  let ⟨_, a1, a2⟩ := ha X hX; let ⟨_, b1, b2⟩ := hb X hX
  ⟨_, _, _, op_gt, a1, b1, nomark _, ev2 a2 b2 fun x y F H _ h1 h2 Q q => by cases h1; cases h2; exact ⟨i, j, rfl, rfl, q _ (Dp.bl _)⟩⟩
theorem dc_ge (ha : DE S p a Γ t (.int i) t1) (hb : DE S p b Γ t1 (.int j) t2) : DC S p .GtE a b Γ t (decide (j ≤ i)) t2 := fun X hX =>
  let ⟨_, a1, a2⟩ := ha X hX; let ⟨_, b1, b2⟩ := hb X hX
  ⟨_, _, _, op_ge, a1, b1, nomark _, ev2 a2 b2 fun x y F H _ h1 h2 Q q => by cases h1; cases h2; exact ⟨i, j, rfl, rfl, q _ (Dp.bl _)⟩⟩
end
/-- ==, != of data -/
theorem dc_eq {d' : PD} (ha : DR S p a Γ t d t1) (hb : DR S p b Γ t1 d' t2) (h1 : SeqAt.shaped d = true) (h2 : SeqAt.shaped d' = true) : DC S p .Eq a b Γ t (PyData.eqv d d') t2 := fun X hX =>
  let ⟨_, a1, a2⟩ := ha X hX; let ⟨_, b1, b2⟩ := hb X hX
  ⟨_, _, _, op_eqD hX.room.units, a1, b1, nomark _, evR2 a2 b2 fun x y H z1 z2 Q q => ⟨d, d', z1, z2, h1, h2, q⟩⟩
theorem dc_ne {d' : PD} (ha : DR S p a Γ t d t1) (hb : DR S p b Γ t1 d' t2) (h1 : SeqAt.shaped d = true) (h2 : SeqAt.shaped d' = true) : DC S p .NotEq a b Γ t (!PyData.eqv d d') t2 := fun X hX =>
  let ⟨_, a1, a2⟩ := ha X hX; let ⟨_, b1, b2⟩ := hb X hX
  ⟨_, _, _, op_neD hX.room.units, a1, b1, nomark _, evR2 a2 b2 fun x y H z1 z2 Q q => ⟨d, d', z1, z2, h1, h2, q⟩⟩
/-- not in a list -/
theorem dc_nin (ha : DR S p a Γ t d t1) (hb : DR S p b Γ t1 (.list ds) t2) (h1 : SeqAt.shaped d = true) (h2 : SeqAt.shaped (.list ds) = true) (hm : behindInMarks .NotIn b = false) : DC S p .NotIn a b Γ t (!ds.any fun z => PyData.eqv z d) t2 := fun X hX =>
  let ⟨_, a1, a2⟩ := ha X hX; let ⟨_, b1, b2⟩ := hb X hX
  ⟨_, _, _, op_notInD (by have := hX.room.un; omega), a1, b1, hm, evR2 a2 b2 fun x y H z1 z2 Q q => ⟨d, ds, z1, z2, h1, h2, q⟩⟩
theorem de_cmp {op : CmpOp} {c : Bool} (h : DC S p op a b Γ t c t1) : DE S p (.Compare a [op] [b] pos) Γ t (.bool c) t1 := fun X hX =>
  let ⟨_, _, _, h1, h2, h3, h4, h5⟩ := h X hX
  ⟨_, pe_cmpR h1 h2 h3 h4, h5⟩
theorem dt_cmp {op : CmpOp} {c : Bool} (h : DC S p op a b Γ t c t1) : DT S p (.Compare a [op] [b] pos) Γ t c t1 := fun X hX =>
  let ⟨_, _, _, h1, h2, h3, h4, h5⟩ := h X hX
  ⟨_, pt_cmpR h1 h2 h3 h4, fun ta F0 H0 σ F H o Q q => h5 ta F0 H0 σ F H o _ fun v F' H' s i hd => by cases hd; exact ⟨c, rfl, q F' H' s i⟩⟩
end
end Sc

/-! DL3 -/
set_option Elab.async false
set_option linter.all false
set_option maxRecDepth 100000
namespace Sc
open PySem PySem.Spec PyProof.Rows L2 Evl

theorem pe_never {X : Cx} {e : Expr} : PE X e (fun _ _ _ => False) := ⟨fun _ _ _ _ _ _ h => h.elim⟩
theorem pw_never {X : Cx} {e : Expr} : PW X e (fun _ _ _ => False) := ⟨fun _ _ _ _ _ _ _ h => h.elim⟩

/-! ### tests -/
section
variable {S : Sta} {p : Bool} {e a b : Expr} {Γ : List En} {t t1 t2 : Tn} {d : PD} {ds : List PD} {pos : Pos} {rest : List Expr}
/-- a truth value as a test (he by the form of e) -/
theorem dt_v {c : Bool} (h : DE S p e Γ t (.bool c) t1) (he : ∀ X : Cx, ∀ whole, isTrue e X.env whole = (do let v ← whole; standAt e.pos; holding [v] (truthy v)) := by intro _ _; rfl) : DT S p e Γ t c t1 := fun X hX =>
  let ⟨_, h1, h2⟩ := h X hX
  ⟨_, pt_val h1 (he X), fun ta F0 H0 σ F H o Q q => h2 ta F0 H0 σ F H o _ fun v F' H' s i hd => by cases hd; exact ⟨c, rfl, q F' H' s i⟩⟩
theorem dt_not {c : Bool} (h : DT S p a Γ t c t1) : DT S p (.UnaryOp .Not a pos) Γ t (!c) t1 := fun X hX =>
  let ⟨_, h1, h2⟩ := h X hX
  ⟨_, pt_not h1, fun ta F0 H0 σ F H o Q q => h2 ta F0 H0 σ F H o _ fun F' H' s i => q F' H' s i⟩
theorem dw_pt {c : Bool} (h : DW S p e Γ t c t1) : DT S p e Γ t c t1 := fun X hX => let ⟨_, h1, h2⟩ := h X hX; ⟨_, h1.pt, h2⟩
theorem dw_and1 {c : Bool} (h : DT S p a Γ t c t1) : DW S p (.BoolOp .And [a] pos) Γ t c t1 := fun X hX => let ⟨_, h1, h2⟩ := h X hX; ⟨_, pw_and1 h1, h2⟩
theorem dw_or1 {c : Bool} (h : DT S p a Γ t c t1) : DW S p (.BoolOp .Or [a] pos) Γ t c t1 := fun X hX => let ⟨_, h1, h2⟩ := h X hX; ⟨_, pw_or1 h1, h2⟩
/-- a and b; what is behind is looked at only if a is so -/
theorem dw_and {c c' : Bool} (h : DT S p a Γ t c t) (h' : c = true → DW S p (.BoolOp .And (b :: rest) pos) Γ t c' t) : DW S p (.BoolOp .And (a :: b :: rest) pos) Γ t (c && c') t := fun X hX => by
  obtain ⟨_, h1, h2⟩ := h X hX
  cases c with
  | true =>
    obtain ⟨_, b1, b2⟩ := h' rfl X hX
    refine ⟨_, pw_and h1 b1, fun ta F0 H0 σ F H o Q q => h2 ta F0 H0 σ F H o _ fun F' H' s i => ?_⟩
    rw [if_pos rfl]
    exact b2 ta F0 H0 σ F' H' (o.step s i) Q fun F2 H2 s2 i2 => q F2 H2 (s.trans s2) i2
  | false =>
    refine ⟨_, pw_and h1 pw_never, fun ta F0 H0 σ F H o Q q => h2 ta F0 H0 σ F H o _ fun F' H' s i => ?_⟩
    rw [if_neg (by decide)]
    exact q F' H' s i
theorem dw_or {c c' : Bool} (h : DT S p a Γ t c t) (h' : c = false → DW S p (.BoolOp .Or (b :: rest) pos) Γ t c' t) : DW S p (.BoolOp .Or (a :: b :: rest) pos) Γ t (c || c') t := fun X hX => by
  obtain ⟨_, h1, h2⟩ := h X hX
  cases c with
  | false =>
    obtain ⟨_, b1, b2⟩ := h' rfl X hX
    refine ⟨_, pw_or h1 b1, fun ta F0 H0 σ F H o Q q => h2 ta F0 H0 σ F H o _ fun F' H' s i => ?_⟩
    rw [if_neg (by decide)]
    exact b2 ta F0 H0 σ F' H' (o.step s i) Q fun F2 H2 s2 i2 => q F2 H2 (s.trans s2) i2
  | true =>
    refine ⟨_, pw_or h1 pw_never, fun ta F0 H0 σ F H o Q q => h2 ta F0 H0 σ F H o _ fun F' H' s i => ?_⟩
    rw [if_pos rfl]
    exact q F' H' s i
/-! ### truth values by and, or, not -/
theorem de_one {op} (h : DE S p a Γ t d t1) : DE S p (.BoolOp op [a] pos) Γ t d t1 := fun X hX => let ⟨_, h1, h2⟩ := h X hX; ⟨_, pe_one h1, h2⟩
theorem de_and {c c' : Bool} (h : DE S p a Γ t (.bool c) t1) (hn : c = false → t1 = t2) (h' : c = true → DE S p (.BoolOp .And (b :: rest) pos) Γ t1 (.bool c') t2) : DE S p (.BoolOp .And (a :: b :: rest) pos) Γ t (.bool (c && c')) t2 := fun X hX => by
  obtain ⟨_, h1, h2⟩ := h X hX
  cases c with
  | true =>
    obtain ⟨_, b1, b2⟩ := h' rfl X hX
    refine ⟨_, pe_and h1 b1, fun ta F0 H0 σ F H o Q q => h2 ta F0 H0 σ F H o _ fun v F' H' s i hd => ?_⟩
    cases hd
    refine ⟨true, rfl, ?_⟩
    rw [if_pos rfl]
    exact b2 ta F0 H0 σ F' H' (o.step s i) Q fun v F2 H2 s2 i2 => q v F2 H2 (s.trans s2) i2
  | false =>
    obtain rfl := hn rfl
    refine ⟨_, pe_and h1 pe_never, fun ta F0 H0 σ F H o Q q => h2 ta F0 H0 σ F H o _ fun v F' H' s i hd => ?_⟩
    cases hd
    refine ⟨false, rfl, ?_⟩
    rw [if_neg (by decide)]
    exact q _ F' H' s i (Dp.bl _)
theorem de_or {c c' : Bool} (h : DE S p a Γ t (.bool c) t1) (hn : c = true → t1 = t2) (h' : c = false → DE S p (.BoolOp .Or (b :: rest) pos) Γ t1 (.bool c') t2) : DE S p (.BoolOp .Or (a :: b :: rest) pos) Γ t (.bool (c || c')) t2 := fun X hX => by
  obtain ⟨_, h1, h2⟩ := h X hX
  cases c with
  | false =>
    obtain ⟨_, b1, b2⟩ := h' rfl X hX
    refine ⟨_, pe_or h1 b1, fun ta F0 H0 σ F H o Q q => h2 ta F0 H0 σ F H o _ fun v F' H' s i hd => ?_⟩
    cases hd
    refine ⟨false, rfl, ?_⟩
    rw [if_neg (by decide)]
    exact b2 ta F0 H0 σ F' H' (o.step s i) Q fun v F2 H2 s2 i2 => q v F2 H2 (s.trans s2) i2
  | true =>
    obtain rfl := hn rfl
    refine ⟨_, pe_or h1 pe_never, fun ta F0 H0 σ F H o Q q => h2 ta F0 H0 σ F H o _ fun v F' H' s i hd => ?_⟩
    cases hd
    refine ⟨true, rfl, ?_⟩
    rw [if_pos rfl]
    exact q _ F' H' s i (Dp.bl _)
theorem de_not {c : Bool} (h : DE S p a Γ t (.bool c) t1) : DE S p (.UnaryOp .Not a pos) Γ t (.bool (!c)) t1 := fun X hX =>
  let ⟨_, h1, h2⟩ := h X hX
  ⟨_, pe_not h1, fun ta F0 H0 σ F H o Q q => h2 ta F0 H0 σ F H o _ fun v F' H' s i hd => by cases hd; exact ⟨c, rfl, q _ F' H' s i (Dp.bl _)⟩⟩
/-- xs or [..], xs a new list -/
theorem dn_or {es : List PD} (h : DN S p a Γ t ds t1) (hn : ds ≠ [] → t1 = t2) (h' : ds = [] → DN S p (.BoolOp .Or (b :: rest) pos) Γ t1 es t2) : DN S p (.BoolOp .Or (a :: b :: rest) pos) Γ t (if ds = [] then es else ds) t2 := fun X hX => by
  obtain ⟨_, h1, h2⟩ := h X hX
  by_cases c : ds = []
  · obtain ⟨_, b1, b2⟩ := h' c X hX
    refine ⟨_, pe_orT h1 b1, fun ta F0 H0 σ F H o Q q => h2 ta F0 H0 σ F H o _ fun a vs F' H' s i hn hf hl hd => ?_⟩
    subst c
    have ev : vs = [] := List.eq_nil_of_length_eq_zero (dps_len hd)
    subst ev
    refine ⟨false, .inl ⟨_, SqL.of hl, rfl⟩, ?_⟩
    rw [if_neg (by decide)]
    rw [if_pos rfl] at q
    refine b2 ta F0 H0 σ F' H' (o.step s i) Q fun a2 vs2 F2 H2 s2 i2 hn2 hf2 hl2 hd2 => q a2 vs2 F2 H2 (s.trans s2) i2 ?_ hf2 hl2 hd2
    cases z : H a2 with
    | none => rfl
    | some u => exact absurd hn2 (s.dom a2 (by rw [z]; exact fun w => nomatch w))
  · refine ⟨_, pe_orT h1 pe_never, fun ta F0 H0 σ F H o Q q => h2 ta F0 H0 σ F H o _ fun a vs F' H' s i hn2 hf hl hd => ?_⟩
    obtain rfl := hn c
    have ev : vs.isEmpty = false := by
      cases vs with
      | nil => exact absurd (List.eq_nil_of_length_eq_zero (dps_len hd).symm) c
      | cons _ _ => rfl
    refine ⟨true, .inl ⟨_, SqL.of hl, by rw [ev] <;> rfl⟩, ?_⟩
    rw [if_pos rfl]
    rw [if_neg c] at q
    exact q a vs F' H' s i hn2 hf hl hd
/-- a if test else b -/
theorem de_if {cd : Expr} {c : Bool} (hc : DT S p cd Γ t c t1) (h1 : c = true → DE S p a Γ t1 d t2) (h2 : c = false → DE S p b Γ t1 d t2) : DE S p (.IfExp cd a b pos) Γ t d t2 := fun X hX => by
  obtain ⟨_, c1, c2⟩ := hc X hX
  cases c with
  | true =>
    obtain ⟨_, a1, a2⟩ := h1 rfl X hX
    refine ⟨_, pe_ifExp c1 a1 pe_never, fun ta F0 H0 σ F H o Q q => c2 ta F0 H0 σ F H o _ fun F' H' s i => ?_⟩
    rw [if_pos rfl]
    exact a2 ta F0 H0 σ F' H' (o.step s i) Q fun v F2 H2 s2 i2 => q v F2 H2 (s.trans s2) i2
  | false =>
    obtain ⟨_, b1, b2⟩ := h2 rfl X hX
    refine ⟨_, pe_ifExp c1 pe_never b1, fun ta F0 H0 σ F H o Q q => c2 ta F0 H0 σ F H o _ fun F' H' s i => ?_⟩
    rw [if_neg (by decide)]
    exact b2 ta F0 H0 σ F' H' (o.step s i) Q fun v F2 H2 s2 i2 => q v F2 H2 (s.trans s2) i2
/-- is None, is not None -/
theorem dc_isN {j pos'} (h : DE S p a Γ t d t1) (ht : ∀ (K : PySem.W.Frag) (F : Hp) v, Dp K F v d → decide (v = V.non) = c) : DC S p .Is a (.Constant .none j pos') Γ t c t1 := fun X hX =>
  let ⟨_, h1, h2⟩ := h X hX
  ⟨_, _, _, op_isN, h1, pe_non, nomark _, fun ta F0 H0 σ F H o Q q => h2 ta F0 H0 σ F H o _ fun v F' H' s i hd => ⟨rfl, by rw [ht _ _ v hd]; exact q _ F' H' s i (Dp.bl _)⟩⟩
theorem dc_notN {j pos'} (h : DE S p a Γ t d t1) (ht : ∀ (K : PySem.W.Frag) (F : Hp) v, Dp K F v d → (!decide (v = V.non)) = c) : DC S p .IsNot a (.Constant .none j pos') Γ t c t1 := fun X hX =>
  let ⟨_, h1, h2⟩ := h X hX
  ⟨_, _, _, op_notN, h1, pe_non, nomark _, fun ta F0 H0 σ F H o Q q => h2 ta F0 H0 σ F H o _ fun v F' H' s i hd => ⟨rfl, by rw [ht _ _ v hd]; exact q _ F' H' s i (Dp.bl _)⟩⟩

/-! ### arguments, displays -/
/-- not a starred argument -/
def Ns (e : Expr) : Prop := ∀ env es, starEach (e :: es) env = (false, eval e env) :: starEach es env
theorem da_nil : DA S p [] Γ t [] t := fun X _ => ⟨_, pa_nil, fun ta F0 H0 σ F H o Q q => q _ F H (Stp.refl o.fh) o.tin .nil⟩
theorem da_cons {es : List Expr} {as : List En} (h : DE S p e Γ t d t1) (hr : DA S p es Γ t1 as t2) (hs : Ns e := by intro _ _; rfl) : DA S p (e :: es) Γ t (.v d :: as) t2 := fun X hX =>
  let ⟨_, h1, h2⟩ := h X hX; let ⟨_, b1, b2⟩ := hr X hX
  ⟨_, pa_cons h1 b1 (hs _ _), fun ta F0 H0 σ F H o Q q => h2 ta F0 H0 σ F H o _ fun v F1 H1 s1 i1 d1 => b2 ta F0 H0 σ F1 H1 (o.step s1 i1) _ fun vs F2 H2 s2 i2 d2 =>
    q _ F2 H2 (s1.trans s2) i2 (.cons (dp_up s2.ff _ _ d1) d2)⟩
/-- the drawing list handed on -/
theorem da_tin (i : Nat) {x : Str} {es : List Expr} {as : List En} (he : Γ[i]? = some .tin) (hr : DA S p es Γ t as t2) (hN : S.N[i]? = some x := by rfl) (hv : Vis S.sc x := by first | exact Or.inl rfl | exact Or.inr (Or.inl rfl) | exact Or.inr (Or.inr rfl))
    (hd : (x == ("__debug__" : Str)) = false := by decide) (hcd : (x == ("__classdict__" : Str)) = false := by decide) : DA S p (.Name x pos :: es) Γ t (.tin :: as) t2 := fun X hX =>
  let ⟨_, b1, b2⟩ := hr X hX
  ⟨_, pa_cons (pe_var (i := i) (by rw [hX.N]; exact hN) (by rw [hX.sc]; exact hv) hd hcd) b1 rfl, fun ta F0 H0 σ F H o Q q => by
    obtain ⟨z, e1⟩ := o.ent i _ he
    exact ⟨_, e1, b2 ta F0 H0 σ F H o _ fun vs F2 H2 s2 i2 d2 => q _ F2 H2 s2 i2 (.cons ⟨z, rfl⟩ d2)⟩⟩
theorem args_v {K : PySem.W.Frag} {p : Bool} {ta : Addr} {F : Hp} : ∀ {ds : List PD} {vs : List V}, ArgsOk K p ta F vs (ds.map En.v) → DpAll K F vs ds
  | [], _, h => by cases h; exact .nil
  | d :: ds, _, h => by
    cases h with
    | cons h1 h2 => exact .cons h1 (args_v h2)
theorem args_len {K : PySem.W.Frag} {p : Bool} {ta : Addr} {F : Hp} : ∀ {es : List En} {vs : List V}, ArgsOk K p ta F vs es → vs.length = es.length
  | [], _, h => by cases h; rfl
  | e :: es, _, h => by
    cases h with
    | cons h1 h2 => rw [List.length_cons, List.length_cons, args_len h2]
theorem few_sz {n : Nat} (h : n ≤ 100000) : n ≤ sizeLine := sz_of h
theorem de_tup {x1} {es : List Expr} (h : DA S p es Γ t (ds.map En.v) t1) (hl : ds.length ≤ 100000) : DE S p (.Tuple es x1 pos) Γ t (.tuple ds) t1 := fun X hX =>
  let ⟨_, h1, h2⟩ := h X hX
  ⟨_, pe_tup h1, fun ta F0 H0 σ F H o Q q => h2 ta F0 H0 σ F H o _ fun vs F1 H1 s1 i1 d1 => ⟨by rw [args_len d1, List.length_map]; exact few_sz hl, fun a ha => by
    have s2 : Stp p ta F1 H1 (upd F1 a (.tup vs)) (upd H1 a (.tup vs)) := Stp.frz s1.fh ha
    exact q _ _ _ (s1.trans s2) (i1.frz ha) (Dp.tup (SqT.of upd_same) (dps_up s2.ff _ _ (args_v d1)))⟩⟩
theorem fresh0 {F H F' H' : Hp} {ta a : Addr} (s : Stp p ta F H F' H') (h : H' a = none) : H a = none := by
  cases z : H a with
  | none => rfl
  | some u => exact absurd h (s.dom a (by rw [z]; exact fun w => nomatch w))
theorem dn_lst {es : List Expr} (h : DA S p es Γ t (ds.map En.v) t1) (hl : ds.length ≤ 100000) : DN S p (.List es pos) Γ t ds t1 := fun X hX =>
  let ⟨_, h1, h2⟩ := h X hX
  ⟨_, pe_lst h1, fun ta F0 H0 σ F H o Q q => h2 ta F0 H0 σ F H o _ fun vs F1 H1 s1 i1 d1 => ⟨by rw [args_len d1, List.length_map]; exact few_sz hl, fun a ha =>
    q a vs F1 _ (s1.trans (Stp.add s1.fh ha)) (i1.add ha) (fresh0 s1 ha) (fresh_back s1.fh ha) upd_same (args_v d1)⟩⟩

/-! ### subscripts, slices -/
theorem dps_at {K : PySem.W.Frag} {F : Hp} {vs : List V} {ds : List PD} {i : Int} (h : DpAll K F vs ds) (e : atI ds i = some d) : ∃ v, atI vs i = some v ∧ Dp K F v d := by
  unfold atI at e ⊢
  rw [dps_len h]
  cases q : ixN ds.length i with
  | none => rw [q] at e; cases e
  | some j =>
    rw [q] at e
    exact dps_get h e
theorem de_ix {l : Bool} {i : Int} (ha : DQ S p a Γ t l ds t1) (hb : DE S p b Γ t1 (.int i) t2) (he : atI ds i = some d) (hs : PlainIx b := by intro _ _; rfl) : DE S p (.Subscript a b pos) Γ t d t2 := fun X hX => by
  obtain ⟨_, a1, a2⟩ := ha X hX
  obtain ⟨_, b1, b2⟩ := hb X hX
  cases l with
  | true =>
    refine ⟨_, pe_ix ix_list a1 b1 hs, fun ta F0 H0 σ F H o Q q => a2 ta F0 H0 σ F H o _ fun a vs F1 H1 s1 i1 r1 d1 => b2 ta F0 H0 σ F1 H1 (o.step s1 i1) _ fun y F2 H2 s2 i2 d2 => ?_⟩
    cases d2
    obtain ⟨v, e1, e2⟩ := dps_at (dps_up s2.ff _ _ d1) he
    have z := r1 F2 H2 s2
    rw [if_pos rfl] at z
    exact ⟨a, vs, i, v, rfl, rfl, z, e1, q v F2 H2 (s1.trans s2) i2 e2⟩
  | false =>
    refine ⟨_, pe_ix ix_tup a1 b1 hs, fun ta F0 H0 σ F H o Q q => a2 ta F0 H0 σ F H o _ fun a vs F1 H1 s1 i1 r1 d1 => b2 ta F0 H0 σ F1 H1 (o.step s1 i1) _ fun y F2 H2 s2 i2 d2 => ?_⟩
    cases d2
    obtain ⟨v, e1, e2⟩ := dps_at (dps_up s2.ff _ _ d1) he
    have z := r1 F2 H2 s2
    rw [if_neg (by decide)] at z
    exact ⟨a, vs, i, v, rfl, rfl, z, e1, q v F2 H2 (s1.trans s2) i2 e2⟩
/-- the part of a list from lo to hi -/
def cutD {α : Type} (xs : List α) (lo hi : Option Int) : List α := (xs.drop (HT.sIx xs.length 0 lo)).take (HT.sIx xs.length xs.length hi - HT.sIx xs.length 0 lo)
theorem cutD_map {α β : Type} (f : α → β) (xs : List α) (lo hi : Option Int) : cutD (xs.map f) lo hi = (cutD xs lo hi).map f := by
  unfold cutD
  rw [List.length_map, ← List.map_drop, ← List.map_take]
theorem cutD_from {α : Type} (xs : List α) (n : Nat) : cutD xs (some (n : Int)) none = xs.drop n := by
  unfold cutD
  rw [HT.sIx_nat, HT.sIx_none]
  rcases Nat.le_total n xs.length with h | h
  · rw [Nat.min_eq_left h]
    exact List.take_of_length_le (by rw [List.length_drop]; omega)
  · rw [Nat.min_eq_right h, List.drop_length, List.drop_of_length_le h]
    exact List.take_nil
theorem cutD_to {α : Type} (xs : List α) (n : Nat) : cutD xs none (some (n : Int)) = xs.take n := by
  unfold cutD
  rw [HT.sIx_nat, HT.sIx_none, List.drop_zero, Nat.sub_zero]
  rcases Nat.le_total n xs.length with h | h
  · rw [Nat.min_eq_left h]
  · rw [Nat.min_eq_right h, List.take_length, List.take_of_length_le h]
theorem dps_cut {K : PySem.W.Frag} {F : Hp} {vs : List V} {ds : List PD} {lo hi : Option Int} (h : DpAll K F vs ds) : DpAll K F (cutV vs lo hi) (cutD ds lo hi) := by
  unfold cutV cutD
  rw [dps_len h]
  exact dps_take _ (dps_drop _ h)
/-- a slice's part -/
def DPt (S : Sta) (p : Bool) (o : Option Expr) (Γ : List En) (t : Tn) (i : Option Int) : Prop := match o, i with
  | none, none => True
  | some e, some i => DE S p e Γ t (.int i) t
  | _, _ => False
def EvP (K : PySem.W.Frag) (p : Bool) (to : TO) (Γ : List En) (t : Tn) (i : Option Int) : Prop :=
  ∀ ta F0 H0 σ F H, Ok K p ta F0 H0 t Γ σ F H → ∀ Q : Option Int → Hp → Prop, (∀ F' H', Stp p ta F H F' H' → Tin p ta t F' H' → Q i H') → to σ H Q
theorem dpt_po {o : Option Expr} {i : Option Int} (h : DPt S p o Γ t i) (X : Cx) (hX : Cxs S X) : ∃ to, PO X o to ∧ EvP X.K p to Γ t i := by
  cases o with
  | none =>
    cases i with
    | none => exact ⟨_, po_none, fun ta F0 H0 σ F H o Q q => q F H (Stp.refl o.fh) o.tin⟩
    | some i => exact h.elim
  | some e =>
    cases i with
    | none => exact h.elim
    | some i =>
      obtain ⟨_, h1, h2⟩ := (show DE S p e Γ t (.int i) t from h) X hX
      exact ⟨_, po_some h1, fun ta F0 H0 σ F H o Q q => h2 ta F0 H0 σ F H o _ fun v F' H' s j hd => by cases hd; exact ⟨i, rfl, q F' H' s j⟩⟩
theorem de_slT {lo hi : Option Expr} {i j : Option Int} {p2 : Pos} (ha : DE S p a Γ t (.tuple ds) t1) (h1 : DPt S p lo Γ t1 i) (h2 : DPt S p hi Γ t1 j) : DE S p (.Subscript a (.Slice lo hi none p2) pos) Γ t (.tuple (cutD ds i j)) t1 := fun X hX => by
  obtain ⟨_, a1, a2⟩ := ha X hX
  obtain ⟨_, l1, l2⟩ := dpt_po h1 X hX
  obtain ⟨_, u1, u2⟩ := dpt_po h2 X hX
  refine ⟨_, pe_slice sl_tupA a1 l1 u1, fun ta F0 H0 σ F H o Q q => a2 ta F0 H0 σ F H o _ fun v F1 H1 s1 i1 d0 => l2 ta F0 H0 σ F1 H1 (o.step s1 i1) _ fun F2 H2 s2 i2 => u2 ta F0 H0 σ F2 H2 ((o.step s1 i1).step s2 i2) _ fun F3 H3 s3 i3 => ?_⟩
  cases d0 with
  | @tup a vs _ r1 d1 =>
    have z := ex_t (s2.ff.trans s3.ff) r1
    have d3 := dps_up (s2.ff.trans s3.ff) _ _ d1
    have hl := dps_len d1
    refine ⟨a, vs, rfl, ex_t s3.fh z, fun hw => ?_, fun _ c hc => ?_⟩
    · have e1 : cutD ds i j = ds := by
        unfold cutD
        rw [← hl, hw.1, hw.2, List.drop_zero, Nat.sub_zero, hl, List.take_length]
      rw [e1] at q
      exact q _ F3 H3 ((s1.trans s2).trans s3) i3 (Dp.tup z d3)
    · have s4 : Stp p ta F3 H3 (upd F3 c (.tup (cutV vs i j))) (upd H3 c (.tup (cutV vs i j))) := Stp.frz s3.fh hc
      exact q _ _ _ (((s1.trans s2).trans s3).trans s4) (i3.frz hc) (Dp.tup (SqT.of upd_same) (dps_up s4.ff _ _ (dps_cut d3)))
theorem dn_slL {lo hi : Option Expr} {i j : Option Int} {p2 : Pos} (ha : DQ S p a Γ t true ds t1) (h1 : DPt S p lo Γ t1 i) (h2 : DPt S p hi Γ t1 j) : DN S p (.Subscript a (.Slice lo hi none p2) pos) Γ t (cutD ds i j) t1 := fun X hX => by
  obtain ⟨_, a1, a2⟩ := ha X hX
  obtain ⟨_, l1, l2⟩ := dpt_po h1 X hX
  obtain ⟨_, u1, u2⟩ := dpt_po h2 X hX
  refine ⟨_, pe_slice sl_list a1 l1 u1, fun ta F0 H0 σ F H o Q q => a2 ta F0 H0 σ F H o _ fun a vs F1 H1 s1 i1 r1 d1 => l2 ta F0 H0 σ F1 H1 (o.step s1 i1) _ fun F2 H2 s2 i2 => u2 ta F0 H0 σ F2 H2 ((o.step s1 i1).step s2 i2) _ fun F3 H3 s3 i3 => ?_⟩
  have z := r1 F3 H3 (s2.trans s3)
  rw [if_pos rfl] at z
  have d3 := dps_up (s2.ff.trans s3.ff) _ _ d1
  have s13 := (s1.trans s2).trans s3
  exact ⟨a, vs, rfl, z, fun c hc => q c _ F3 _ (s13.trans (Stp.add s3.fh hc)) (i3.add hc) (fresh0 s13 hc) (fresh_back s3.fh hc) upd_same (dps_cut d3)⟩
/-- xs + ys, both standing by themselves -/
theorem dn_cat {es : List PD} (ha : DO S p a Γ t ds t1) (hb : DO S p b Γ t1 es t2) (hl : ds.length + es.length ≤ 100000) : DN S p (.BinOp a .Add b pos) Γ t (ds ++ es) t2 := fun X hX =>
  let ⟨_, a1, a2⟩ := ha X hX; let ⟨_, b1, b2⟩ := hb X hX
  ⟨_, pe_op op_cat a1 b1, fun ta F0 H0 σ F H o Q q => a2 ta F0 H0 σ F H o _ fun a vs F1 H1 s1 i1 n1 f1 l1 d1 => b2 ta F0 H0 σ F1 H1 (o.step s1 i1) _ fun b ws F2 H2 s2 i2 n2 f2 l2 d2 =>
    ⟨a, b, vs, ws, rfl, rfl, s2.old a _ l1 n1, l2, by rw [dps_len d1, dps_len d2]; exact few_sz hl, fun c hc =>
      q c _ F2 _ ((s1.trans s2).trans (Stp.add s2.fh hc)) (i2.add hc) (fresh0 (s1.trans s2) hc) (fresh_back s2.fh hc) upd_same (dps_app (dps_up s2.ff _ _ d1) d2)⟩⟩
/-- t + u of tuples -/
theorem de_catT {es : List PD} (ha : DE S p a Γ t (.tuple ds) t1) (hb : DE S p b Γ t1 (.tuple es) t2) (hl : ds.length + es.length ≤ 100000) : DE S p (.BinOp a .Add b pos) Γ t (.tuple (ds ++ es)) t2 := fun X hX =>
  let ⟨_, a1, a2⟩ := ha X hX; let ⟨_, b1, b2⟩ := hb X hX
  ⟨_, pe_op op_catA a1 b1, fun ta F0 H0 σ F H o Q q => a2 ta F0 H0 σ F H o _ fun v F1 H1 s1 i1 d1 => b2 ta F0 H0 σ F1 H1 (o.step s1 i1) _ fun u F2 H2 s2 i2 d2 => by
    have d1' := dp_up s2.ff _ _ d1
    cases d1' with
    | @tup a vs _ r1 c1 =>
      cases d2 with
      | @tup b ws _ r2 c2 =>
        refine ⟨a, b, vs, ws, rfl, rfl, ex_t s2.fh r1, ex_t s2.fh r2, by rw [dps_len c1, dps_len c2]; exact few_sz hl, fun hv => ?_, fun _ hw => ?_, fun _ _ c hc => ?_⟩
        · subst hv
          have e0 : ds = [] := List.eq_nil_of_length_eq_zero (dps_len c1).symm
          subst e0
          exact q _ F2 H2 (s1.trans s2) i2 (Dp.tup r2 c2)
        · subst hw
          have e0 : es = [] := List.eq_nil_of_length_eq_zero (dps_len c2).symm
          subst e0
          rw [List.append_nil] at q
          exact q _ F2 H2 (s1.trans s2) i2 (Dp.tup r1 c1)
        · have s4 : Stp p ta F2 H2 (upd F2 c (.tup (vs ++ ws))) (upd H2 c (.tup (vs ++ ws))) := Stp.frz s2.fh hc
          exact q _ _ _ ((s1.trans s2).trans s4) (i2.frz hc) (Dp.tup (SqT.of upd_same) (dps_up s4.ff _ _ (dps_app c1 c2)))⟩
end
end Sc

/-! DL4 -/
set_option Elab.async false
set_option linter.all false
set_option maxRecDepth 100000
namespace Sc
open PySem PySem.Spec PyProof.Rows L2 Evl

/-! ### slots written -/
section
variable {K : PySem.W.Frag} {p : Bool} {ta : Addr} {F0 H0 F H : Hp} {t : Tn} {Γ : List En} {σ : L2.St}
theorem Ok.set (o : Ok K p ta F0 H0 t Γ σ F H) {i : Nat} {v : V} {d : PD} (hd : Dp K F v d) : Ok K p ta F0 H0 t (Γ.set i (.v d)) (σ.set i (some v)) F H := by
  refine ⟨o.stp, o.t0, o.tin, by rw [List.length_set, List.length_set]; exact o.len, fun j e he => ?_, fun j k a ds es h1 h2 h3 h4 => ?_⟩
  · by_cases z : i = j
    · subst z
      have hi : i < Γ.length := by
        have := (List.getElem?_eq_some_iff.mp he).1
        rwa [List.length_set] at this
      rw [List.getElem?_set_self hi] at he
      cases he
      exact ⟨v, List.getElem?_set_self (by rw [o.len]; exact hi), hd⟩
    · rw [List.getElem?_set_ne z] at he ⊢
      exact o.ent j e he
  · have n1 : i ≠ j := fun z => by
      subst z
      have hi := (List.getElem?_eq_some_iff.mp h1).1
      rw [List.length_set] at hi
      rw [List.getElem?_set_self hi] at h1
      cases h1
    have n2 : i ≠ k := fun z => by
      subst z
      have hi := (List.getElem?_eq_some_iff.mp h2).1
      rw [List.length_set] at hi
      rw [List.getElem?_set_self hi] at h2
      cases h2
    rw [List.getElem?_set_ne n1] at h1 h3
    rw [List.getElem?_set_ne n2] at h2 h4
    exact o.apart j k a ds es h1 h2 h3 h4
/-- a new list becomes one's own -/
theorem Ok.own {Fb Hb : Hp} {tb : Tn} (o : Ok K p ta F0 H0 t Γ σ F H) (ob : Ok K p ta F0 H0 tb Γ σ Fb Hb) {i : Nat} {a : Addr} {vs : List V} {ds : List PD} (hn : Hb a = none) (hf : F a = none) (hl : H a = some (.lst vs)) (hd : DpAll K F vs ds) :
    Ok K p ta F0 H0 t (Γ.set i (.own ds)) (σ.set i (some (.ref a))) F H := by
  have h0 : H0 a = none := fresh0 ob.stp hn
  have nob : ∀ (j : Nat) (es : List PD), Γ[j]? = some (.own es) → σ[j]? ≠ some (some (.ref a)) := fun j es he z => by
    obtain ⟨b, ws, e1, _, _, e4, _⟩ := ob.ent j _ he
    rw [z] at e1
    cases e1
    rw [hn] at e4
    cases e4
  refine ⟨o.stp, o.t0, o.tin, by rw [List.length_set, List.length_set]; exact o.len, fun j e he => ?_, fun j k b es fs h1 h2 h3 h4 => ?_⟩
  · by_cases z : i = j
    · subst z
      have hi : i < Γ.length := by
        have := (List.getElem?_eq_some_iff.mp he).1
        rwa [List.length_set] at this
      rw [List.getElem?_set_self hi] at he
      cases he
      exact ⟨a, vs, List.getElem?_set_self (by rw [o.len]; exact hi), h0, hf, hl, hd⟩
    · rw [List.getElem?_set_ne z] at he ⊢
      exact o.ent j e he
  · by_cases z : i = j
    · subst z
      have hi : i < Γ.length := by
        have := (List.getElem?_eq_some_iff.mp h1).1
        rwa [List.length_set] at this
      rw [List.getElem?_set_self (by rw [o.len]; exact hi)] at h3
      cases h3
      by_cases y : i = k
      · exact y
      · rw [List.getElem?_set_ne y] at h2 h4
        exact absurd h4 (nob k _ h2)
    · rw [List.getElem?_set_ne z] at h1 h3
      by_cases y : i = k
      · subst y
        have hi : i < Γ.length := by
          have := (List.getElem?_eq_some_iff.mp h2).1
          rwa [List.length_set] at this
        rw [List.getElem?_set_self (by rw [o.len]; exact hi)] at h4
        cases h4
        exact absurd h3 (nob j _ h1)
      · rw [List.getElem?_set_ne y] at h2 h4
        exact o.apart j k b es fs h1 h2 h3 h4
/-- one's own list is written -/
theorem Ok.write (o : Ok K p ta F0 H0 t Γ σ F H) {i : Nat} {a : Addr} {ds es : List PD} {ws : List V} (he : Γ[i]? = some (.own ds)) (hs : σ[i]? = some (some (.ref a))) (hd : DpAll K F ws es) :
    Ok K p ta F0 H0 t (Γ.set i (.own es)) σ F (upd H a (.lst ws)) := by
  obtain ⟨b, vs, e1, e2, e3, e4, e5⟩ := o.ent i _ he
  rw [hs] at e1
  cases e1
  have hi : i < Γ.length := (List.getElem?_eq_some_iff.mp he).1
  have old : ∀ b u, H b = some u → b ≠ a → (upd H a (.lst ws)) b = some u := fun b u h n => by rw [upd_ne n]; exact h
  refine ⟨⟨o.stp.ff, fun b u h => ?_, fun b u h n => ?_, o.stp.new, fun b h => ?_⟩, o.t0, fun z => ?_, by rw [List.length_set]; exact o.len, fun j e he' => ?_, fun j k b fs gs h1 h2 h3 h4 => ?_⟩
  · exact old b u (o.stp.fh b u h) (ne_of_none h e3)
  · exact old b u (o.stp.old b u h n) (ne_of_none h e2)
  · by_cases y : b = a
    · subst y
      exact absurd e2 h
    · rw [upd_ne y]
      exact o.stp.dom b h
  · obtain ⟨h1, h2⟩ := o.tin z
    have n : ta ≠ a := fun y => o.t0 z (y ▸ e2)
    exact ⟨h1, by rw [upd_ne n]; exact h2⟩
  · by_cases z : i = j
    · subst z
      rw [List.getElem?_set_self hi] at he'
      cases he'
      exact ⟨a, ws, hs, e2, e3, upd_same, hd⟩
    · rw [List.getElem?_set_ne z] at he'
      have q := o.ent j e he'
      cases e with
      | no => trivial
      | v d => exact q
      | tin => exact q
      | own fs =>
        obtain ⟨c, us, f1, f2, f3, f4, f5⟩ := q
        refine ⟨c, us, f1, f2, f3, old c _ f4 (fun y => ?_), f5⟩
        subst y
        exact z (o.apart i j c ds fs he he' hs f1)
  · have g : ∀ (j : Nat) (fs : List PD), (Γ.set i (.own es))[j]? = some (.own fs) → ∃ fs', Γ[j]? = some (.own fs') := fun j fs h => by
      by_cases z : i = j
      · subst z
        exact ⟨ds, he⟩
      · rw [List.getElem?_set_ne z] at h
        exact ⟨fs, h⟩
    obtain ⟨fs', g1⟩ := g j fs h1
    obtain ⟨gs', g2⟩ := g k gs h2
    exact o.apart j k b fs' gs' g1 g2 h3 h4
/-- one's own list is written no more -/
theorem Ok.cool (o : Ok K p ta F0 H0 t Γ σ F H) {i : Nat} {ds : List PD} (he : Γ[i]? = some (.own ds)) : ∃ F', Ex F F' ∧ Ok K p ta F0 H0 t (Γ.set i (.v (.list ds))) σ F' H := by
  obtain ⟨a, vs, e1, e2, e3, e4, e5⟩ := o.ent i _ he
  have hi : i < Γ.length := (List.getElem?_eq_some_iff.mp he).1
  have up : Ex F (upd F a (.lst vs)) := Ex.new e3
  refine ⟨upd F a (.lst vs), up, ⟨o.stp.ff.trans up, fun b u h => ?_, o.stp.old, fun b h => ?_, o.stp.dom⟩, o.t0, o.tin.cool (fun z y => o.t0 z (y ▸ e2)), by rw [List.length_set]; exact o.len, fun j e he' => ?_, fun j k b fs gs h1 h2 h3 h4 => ?_⟩
  · by_cases z : b = a
    · subst z
      rw [upd_same] at h
      rw [← h]
      exact e4
    · rw [upd_ne z] at h
      exact o.stp.fh b u h
  · rw [upd_ne (fun y => h (by rw [y]; exact e2))]
    exact o.stp.new b h
  · by_cases z : i = j
    · subst z
      rw [List.getElem?_set_self hi] at he'
      cases he'
      exact ⟨_, e1, Dp.lst (SqL.of upd_same) (dps_up up _ _ e5)⟩
    · rw [List.getElem?_set_ne z] at he'
      have q := o.ent j e he'
      cases e with
      | no => trivial
      | v d =>
        obtain ⟨v, q1, q2⟩ := q
        exact ⟨v, q1, dp_up up _ _ q2⟩
      | tin => exact q
      | own fs =>
        obtain ⟨c, us, f1, f2, f3, f4, f5⟩ := q
        refine ⟨c, us, f1, f2, ?_, f4, dps_up up _ _ f5⟩
        rw [upd_ne (fun y => ?_)]
        · exact f3
        · subst y
          exact z (o.apart i j c ds fs he he' e1 f1)
  · have g : ∀ (j : Nat) (fs : List PD), (Γ.set i (.v (.list ds)))[j]? = some (.own fs) → Γ[j]? = some (.own fs) := fun j fs h => by
      by_cases z : i = j
      · subst z
        rw [List.getElem?_set_self hi] at h
        cases h
      · rw [List.getElem?_set_ne z] at h
        exact h
    exact o.apart j k b fs gs (g j fs h1) (g k gs h2) h3 h4
end

/-! ### what a statement leaves -/
/-- goes on; out of the loop; to the loop's next turn; hands back a datum; hands back a list that is nobody's -/
inductive Out where
  | nx (Γ : List En)
  | bk (Γ : List En)
  | ct (Γ : List En)
  | rt (d : PD)
  | rl (ds : List PD)
abbrev Post := Out → Tn → Prop
section
variable (K : PySem.W.Frag) (p : Bool)
/-- the ends do for what is left -/
structure Dn (ta : Addr) (F0 H0 Fs : Hp) (Φ : Post) (D : Ends) : Prop where
  nx : ∀ Γ t σ F H, Φ (.nx Γ) t → Ex Fs F → Ok K p ta F0 H0 t Γ σ F H → D.nx σ H
  bk : ∀ Γ t σ F H, Φ (.bk Γ) t → Ex Fs F → Ok K p ta F0 H0 t Γ σ F H → D.bk σ H
  ct : ∀ Γ t σ F H, Φ (.ct Γ) t → Ex Fs F → Ok K p ta F0 H0 t Γ σ F H → D.ct σ H
  rt : ∀ d t v F H, Φ (.rt d) t → Stp p ta F0 H0 F H → Tin p ta t F H → Dp K F v d → D.rt v H
  rl : ∀ ds t a vs F H, Φ (.rl ds) t → Stp p ta F0 H0 F H → Tin p ta t F H → H0 a = none → F a = none → H a = some (.lst vs) → DpAll K F vs ds → D.rt (.ref a) H
def EvS (ts : TS) (Γ : List En) (t : Tn) (Φ : Post) : Prop := ∀ ta F0 H0 σ F H, Ok K p ta F0 H0 t Γ σ F H → ∀ D, Dn K p ta F0 H0 F Φ D → ts D σ H
end
/-- all readings of a statement, of a block -/
def anyS (X : Cx) (st : Stmt) : TS := fun D σ H => ∃ ts, PS X st ts ∧ ts D σ H
def anySs (X : Cx) (st : List Stmt) : TS := fun D σ H => ∃ ts, PSs X st ts ∧ ts D σ H
def anyT (X : Cx) (e : Expr) : TT := fun σ H Q => ∃ tt, PT X e tt ∧ tt σ H Q
theorem ps_any {X : Cx} {st : Stmt} : PS X st (anyS X st) := ⟨fun pins s σ H D I h => by
  obtain ⟨ts, h1, h2⟩ := h
  exact h1.run pins s σ H D I h2⟩
theorem pss_any {X : Cx} {st : List Stmt} : PSs X st (anySs X st) := ⟨fun pins s σ H D I h => by
  obtain ⟨ts, h1, h2⟩ := h
  exact h1.run pins s σ H D I h2⟩
theorem pt_any {X : Cx} {e : Expr} : PT X e (anyT X e) := ⟨fun pins s σ H Q I h => by
  obtain ⟨ts, h1, h2⟩ := h
  exact h1.run pins s σ H Q I h2⟩
def DS (S : Sta) (p : Bool) (st : Stmt) (Γ : List En) (t : Tn) (Φ : Post) : Prop := ∀ X, Cxs S X → EvS X.K p (anyS X st) Γ t Φ
def DSs (S : Sta) (p : Bool) (st : List Stmt) (Γ : List En) (t : Tn) (Φ : Post) : Prop := ∀ X, Cxs S X → EvS X.K p (anySs X st) Γ t Φ

section
variable {S : Sta} {p : Bool} {e a b : Expr} {st : Stmt} {rest body th el : List Stmt} {Γ : List En} {t t1 t2 : Tn} {d : PD} {ds : List PD} {pos : Pos} {Φ Ψ : Post}
/-- by a fixed reading -/
theorem ds_by {ts : Cx → TS} (h1 : ∀ X, Cxs S X → PS X st (ts X)) (h2 : ∀ X, Cxs S X → EvS X.K p (ts X) Γ t Φ) : DS S p st Γ t Φ := fun X hX ta F0 H0 σ F H o D dn => ⟨ts X, h1 X hX, h2 X hX ta F0 H0 σ F H o D dn⟩
theorem ds_nil (h : Φ (.nx Γ) t) : DSs S p [] Γ t Φ := fun X hX ta F0 H0 σ F H o D dn => ⟨_, pss_nil, dn.nx Γ t σ F H h (Ex.refl F) o⟩
/-- what goes on goes to the rest -/
def Then (S : Sta) (p : Bool) (rest : List Stmt) (Φ : Post) : Post := fun o t => match o with
  | .nx Γ => DSs S p rest Γ t Φ
  | o => Φ o t
theorem Dn.up {K : PySem.W.Frag} {ta : Addr} {F0 H0 F F' : Hp} {D : Ends} (dn : Dn K p ta F0 H0 F Φ D) (e : Ex F F') : Dn K p ta F0 H0 F' Φ D :=
  ⟨fun Γ t σ F2 H2 h x => dn.nx Γ t σ F2 H2 h (e.trans x), fun Γ t σ F2 H2 h x => dn.bk Γ t σ F2 H2 h (e.trans x), fun Γ t σ F2 H2 h x => dn.ct Γ t σ F2 H2 h (e.trans x), dn.rt, dn.rl⟩
theorem ds_cons (h : DS S p st Γ t (Then S p rest Φ)) : DSs S p (st :: rest) Γ t Φ := fun X hX ta F0 H0 σ F H o D dn =>
  ⟨_, pss_cons ps_any pss_any, h X hX ta F0 H0 σ F H o { D with nx := anySs X rest D }
    ⟨fun Γ' t' σ' F' H' h' x o' => (show DSs S p rest Γ' t' Φ from h') X hX ta F0 H0 σ' F' H' o' D (dn.up x), fun Γ' t' σ' F' H' h' => dn.bk Γ' t' σ' F' H' h', fun Γ' t' σ' F' H' h' => dn.ct Γ' t' σ' F' H' h', fun d t' v F' H' h' => dn.rt d t' v F' H' h', fun ds t' a vs F' H' h' => dn.rl ds t' a vs F' H' h'⟩⟩
theorem ds_one (h : DS S p st Γ t Φ) : DSs S p [st] Γ t Φ := fun X hX ta F0 H0 σ F H o D dn => ⟨_, pss_one ps_any, h X hX ta F0 H0 σ F H o D dn⟩
theorem ds_mono (h : DSs S p body Γ t Φ) (hm : ∀ o t, Φ o t → Ψ o t) : DSs S p body Γ t Ψ := fun X hX ta F0 H0 σ F H o D dn => h X hX ta F0 H0 σ F H o D
  ⟨fun Γ' t' σ' F' H' h' => dn.nx Γ' t' σ' F' H' (hm _ _ h'), fun Γ' t' σ' F' H' h' => dn.bk Γ' t' σ' F' H' (hm _ _ h'), fun Γ' t' σ' F' H' h' => dn.ct Γ' t' σ' F' H' (hm _ _ h'), fun d t' v F' H' h' => dn.rt d t' v F' H' (hm _ _ h'), fun ds t' a vs F' H' h' => dn.rl ds t' a vs F' H' (hm _ _ h')⟩
/-- one's own list is frozen between two statements -/
theorem ds_cool (i : Nat) (he : Γ[i]? = some (.own ds)) (h : DSs S p body (Γ.set i (.v (.list ds))) t Φ) : DSs S p body Γ t Φ := fun X hX ta F0 H0 σ F H o D dn => by
  obtain ⟨F', x, o'⟩ := o.cool he
  exact h X hX ta F0 H0 σ F' H o' D (dn.up x)
/-- what a slot holds is forgotten -/
theorem ds_ret (h : DE S p e Γ t d t1) (hΦ : Φ (.rt d) t1) : DS S p (.Return (some e) pos) Γ t Φ := fun X hX ta F0 H0 σ F H o D dn =>
  let ⟨_, h1, h2⟩ := h X hX
  ⟨_, ps_ret h1, h2 ta F0 H0 σ F H o _ fun v F' H' s i hd => dn.rt d t1 v F' H' hΦ (o.stp.trans s) i hd⟩
theorem ds_retN (h : DN S p e Γ t ds t1) (hΦ : Φ (.rl ds) t1) : DS S p (.Return (some e) pos) Γ t Φ := fun X hX ta F0 H0 σ F H o D dn =>
  let ⟨_, h1, h2⟩ := h X hX
  ⟨_, ps_ret h1, h2 ta F0 H0 σ F H o _ fun a vs F' H' s i hn hf hl hd => dn.rl ds t1 a vs F' H' hΦ (o.stp.trans s) i (fresh0 o.stp hn) hf hl hd⟩
/-- return x, x one's own list -/
theorem ds_retO (i : Nat) {x : Str} {pos2 : Pos} (he : Γ[i]? = some (.own ds)) (hΦ : Φ (.rl ds) t) (hN : S.N[i]? = some x := by rfl) (hv : Vis S.sc x := by first | exact Or.inl rfl | exact Or.inr (Or.inl rfl) | exact Or.inr (Or.inr rfl))
    (hd : (x == ("__debug__" : Str)) = false := by decide) (hcd : (x == ("__classdict__" : Str)) = false := by decide) : DS S p (.Return (some (.Name x pos2)) pos) Γ t Φ := fun X hX ta F0 H0 σ F H o D dn => by
  obtain ⟨a, vs, e1, e2, e3, e4, e5⟩ := o.ent i _ he
  exact ⟨_, ps_ret (pe_var (i := i) (by rw [hX.N]; exact hN) (by rw [hX.sc]; exact hv) hd hcd), _, e1, dn.rl ds t a vs F H hΦ o.stp o.tin e2 e3 e4 e5⟩
theorem ds_if {c : Bool} (hc : DT S p e Γ t c t1) (h1 : c = true → DSs S p th Γ t1 Φ) (h2 : c = false → DSs S p el Γ t1 Φ) : DS S p (.If e th el pos) Γ t Φ := fun X hX ta F0 H0 σ F H o D dn => by
  obtain ⟨_, c1, c2⟩ := hc X hX
  refine ⟨_, ps_if c1 pss_any pss_any, c2 ta F0 H0 σ F H o _ fun F' H' s i => ?_⟩
  cases c with
  | true =>
    rw [if_pos rfl]
    exact h1 rfl X hX ta F0 H0 σ F' H' (o.step s i) D (dn.up s.ff)
  | false =>
    rw [if_neg (by decide)]
    exact h2 rfl X hX ta F0 H0 σ F' H' (o.step s i) D (dn.up s.ff)
theorem ds_continue (h : Φ (.ct Γ) t) : DS S p (.Continue pos) Γ t Φ := fun X hX ta F0 H0 σ F H o D dn => ⟨_, ps_continue, dn.ct Γ t σ F H h (Ex.refl F) o⟩

/-! ### targets -/
/-- the slots but those at js stand -/
def SameBut (js : List Nat) (σ σ' : L2.St) : Prop := σ'.length = σ.length ∧ ∀ j, j ∉ js → σ'[j]? = σ[j]?
/-- a datum goes to a target; the slots at js are written -/
def EvG (K : PySem.W.Frag) (p : Bool) (g : TG) (d : PD) (Γ Γ' : List En) (js : List Nat) : Prop :=
  ∀ ta F0 H0 t σ F H v, Ok K p ta F0 H0 t Γ σ F H → Dp K F v d → ∀ Q : L2.St → Hp → Prop, (∀ σ', Ok K p ta F0 H0 t Γ' σ' F H → SameBut js σ σ' → Q σ' H) → g v σ H Q
def EvGs (K : PySem.W.Frag) (p : Bool) (g : TGs) (ds : List PD) (Γ Γ' : List En) (js : List Nat) : Prop :=
  ∀ ta F0 H0 t σ F H vs, Ok K p ta F0 H0 t Γ σ F H → DpAll K F vs ds → ∀ Q : L2.St → Hp → Prop, (∀ σ', Ok K p ta F0 H0 t Γ' σ' F H → SameBut js σ σ' → Q σ' H) → g vs σ H Q
def DG (S : Sta) (p : Bool) (tg : Expr) (d : PD) (Γ Γ' : List En) (js : List Nat) : Prop := ∀ X, Cxs S X → ∃ g, PG X tg g ∧ EvG X.K p g d Γ Γ' js
def DGs (S : Sta) (p : Bool) (tgs : List Expr) (ds : List PD) (Γ Γ' : List En) (js : List Nat) : Prop := ∀ X, Cxs S X → ∃ g, PGs X tgs g ∧ EvGs X.K p g ds Γ Γ' js
def St1 (S : Sta) (x : Str) : Prop := Loc S.sc x ∧ (S.top = true ∨ S.sc.names.lookup x = some .local)
theorem St1.fn {x : Str} (h : St1 S x) {X : Cx} (hX : Cxs S X) : X.fn x = true ∨ X.env.scope.names.lookup x = some .local := by
  rcases h.2 with z | z
  · exact .inl (hX.fn z x)
  · exact .inr (by rw [hX.sc]; exact z)
theorem dg_n (i : Nat) {x : Str} (hN : S.N[i]? = some x := by rfl) (hx : St1 S x := by first | exact ⟨.inl rfl, .inr rfl⟩ | exact ⟨.inr rfl, .inl rfl⟩) : DG S p (.Name x pos) d Γ (Γ.set i (.v d)) [i] := fun X hX =>
  ⟨_, pg_name (by rw [hX.N]; exact hX.nd) (by rw [hX.N]; exact hN) (by rw [hX.sc]; exact hx.1) (hx.fn hX), fun ta F0 H0 t σ F H v o hd Q q => q _ (o.set hd) ⟨List.length_set, fun j hj => List.getElem?_set_ne (fun z => hj (List.mem_singleton.mpr z.symm))⟩⟩
theorem dgs_nil : DGs S p [] [] Γ Γ [] := fun X hX => ⟨_, pgs_nil, fun ta F0 H0 t σ F H vs o hd Q q => by cases hd; exact ⟨rfl, q σ o ⟨rfl, fun _ _ => rfl⟩⟩⟩
/-- a target that is no star -/
def Gs1 (e : Expr) : Prop := ∀ env es, (assignEach (e :: es) env).map (·.2) = assign e env :: (assignEach es env).map (·.2)
theorem dgs_cons {es : List Expr} {Γ1 Γ2 : List En} {js ks : List Nat} (h : DG S p e d Γ Γ1 js) (hr : DGs S p es ds Γ1 Γ2 ks) (hs : Gs1 e := by intro _ _; rfl) : DGs S p (e :: es) (d :: ds) Γ Γ2 (js ++ ks) := fun X hX =>
  let ⟨_, a1, a2⟩ := h X hX; let ⟨_, b1, b2⟩ := hr X hX
  ⟨_, pgs_cons a1 b1 (hs _ _), fun ta F0 H0 t σ F H vs o hd Q q => by
    cases hd with
    | @cons v vs _ _ h1 h2 => exact ⟨v, vs, rfl, a2 ta F0 H0 t σ F H v o h1 _ fun σ1 o1 e1 => b2 ta F0 H0 t σ1 F H vs o1 h2 Q fun σ2 o2 e2 => q σ2 o2 ⟨e2.1.trans e1.1, fun j hj => (e2.2 j fun z => hj (List.mem_append_right _ z)).trans (e1.2 j fun z => hj (List.mem_append_left _ z))⟩⟩⟩
theorem dg_tup {es : List Expr} {k : Nat} {Γ' : List En} {js : List Nat} (h : DGs S p es ds Γ Γ' js) (hn : ∀ env, (assignEach es env).length = ds.length := by intro _; rfl) (hst : ∀ env, (assignEach es env).findIdx? (·.1) = none := by intro _; rfl) : DG S p (.Tuple es k pos) (.tuple ds) Γ Γ' js := fun X hX =>
  let ⟨_, a1, a2⟩ := h X hX
  ⟨_, pg_tup hX.calm a1 (hn _) (hst _), fun ta F0 H0 t σ F H v o hd Q q => by
    cases hd with
    | @tup a vs _ hs ha => exact ⟨a, vs, rfl, ex_t o.fh hs, dps_len ha, a2 ta F0 H0 t σ F H vs o ha Q q⟩⟩
/-- x = e -/
theorem ds_set (i : Nat) {x : Str} {pos' : Pos} (h : DE S p e Γ t d t1) (hΦ : Φ (.nx (Γ.set i (.v d))) t1) (hs : ∀ (env : Env) l, swapsWith e (some (.Name x pos')) l env = pure false := by intro _ _; rfl)
    (hN : S.N[i]? = some x := by rfl) (hx : St1 S x := by first | exact ⟨.inl rfl, .inr rfl⟩ | exact ⟨.inr rfl, .inl rfl⟩) : DS S p (.Assign [.Name x pos'] e pos) Γ t Φ := fun X hX ta F0 H0 σ F H o D dn =>
  let ⟨_, h1, h2⟩ := h X hX
  ⟨_, ps_set (by rw [hX.N]; exact hX.nd) (by rw [hX.N]; exact hN) (by rw [hX.sc]; exact hx.1) h1 (hs _ _) (hx.fn hX), h2 ta F0 H0 σ F H o _ fun v F' H' s j hd => dn.nx _ t1 _ F' H' hΦ s.ff ((o.step s j).set hd)⟩
theorem ds_setN (i : Nat) {x : Str} {pos' : Pos} (h : DN S p e Γ t ds t1) (hΦ : Φ (.nx (Γ.set i (.own ds))) t1) (hs : ∀ (env : Env) l, swapsWith e (some (.Name x pos')) l env = pure false := by intro _ _; rfl)
    (hN : S.N[i]? = some x := by rfl) (hx : St1 S x := by first | exact ⟨.inl rfl, .inr rfl⟩ | exact ⟨.inr rfl, .inl rfl⟩) : DS S p (.Assign [.Name x pos'] e pos) Γ t Φ := fun X hX ta F0 H0 σ F H o D dn =>
  let ⟨_, h1, h2⟩ := h X hX
  ⟨_, ps_set (by rw [hX.N]; exact hX.nd) (by rw [hX.N]; exact hN) (by rw [hX.sc]; exact hx.1) h1 (hs _ _) (hx.fn hX), h2 ta F0 H0 σ F H o _ fun a vs F' H' s j hn hf hl hd => dn.nx _ t1 _ F' H' hΦ s.ff ((o.step s j).own o hn hf hl hd)⟩
/-- (a, b) = e, no swap of stores -/
theorem ds_asg {tg : Expr} {Γ' : List En} {js : List Nat} (h : DE S p e Γ t d t1) (hg : DG S p tg d Γ Γ' js) (hΦ : Φ (.nx Γ') t1) (hw : ∀ env : Env, env.scope = S.sc → swappedStores [tg] e env = pure none)
    (hs : ∀ (env : Env) l, swapsWithSole [tg] e l env = pure false := by intro _ _; rfl) (h1 : ∀ env, (assignEach [tg] env).map (·.2) = [assign tg env] := by intro _; rfl) : DS S p (.Assign [tg] e pos) Γ t Φ := fun X hX ta F0 H0 σ F H o D dn =>
  let ⟨_, a1, a2⟩ := h X hX; let ⟨_, g1, g2⟩ := hg X hX
  ⟨_, ps_asg a1 g1 (hs _ _) (hw _ hX.sc) (h1 _), a2 ta F0 H0 σ F H o _ fun v F' H' s j hd => g2 ta F0 H0 t1 σ F' H' v (o.step s j) hd _ fun σ' o' _ => dn.nx Γ' t1 σ' F' H' hΦ s.ff o'⟩
end
end Sc

/-! DL5 -/
set_option Elab.async false
set_option linter.all false
set_option maxRecDepth 100000
namespace Sc
open PySem PySem.Spec PyProof.Rows L2 Evl

/-! ### a value on its way to a slot: a datum, or a list that is nobody's yet -/
def NewEn (K : PySem.W.Frag) (F Hb H : Hp) (v : V) : En → Prop
  | .v d => Dp K F v d
  | .own ds => ∃ a vs, v = .ref a ∧ Hb a = none ∧ F a = none ∧ H a = some (.lst vs) ∧ DpAll K F vs ds
  | _ => False
def EvV (K : PySem.W.Frag) (p : Bool) (te : TE) (Γ : List En) (t : Tn) (en : En) (t' : Tn) : Prop :=
  ∀ ta F0 H0 σ F H, Ok K p ta F0 H0 t Γ σ F H → ∀ Q : VK, (∀ v F' H', Stp p ta F H F' H' → Tin p ta t' F' H' → NewEn K F' H H' v en → Q v H') → te σ H Q
def DV (S : Sta) (p : Bool) (e : Expr) (Γ : List En) (t : Tn) (en : En) (t' : Tn) : Prop := ∀ X, Cxs S X → ∃ te, PE X e te ∧ EvV X.K p te Γ t en t'
theorem Ok.put {K : PySem.W.Frag} {p : Bool} {ta : Addr} {F0 H0 F H Fb Hb : Hp} {t tb : Tn} {Γ : List En} {σ : L2.St} (o : Ok K p ta F0 H0 t Γ σ F H) (ob : Ok K p ta F0 H0 tb Γ σ Fb Hb) (i : Nat) {v : V} : ∀ {en : En}, NewEn K F Hb H v en → Ok K p ta F0 H0 t (Γ.set i en) (σ.set i (some v)) F H
  | .v d, h => o.set h
  | .own ds, h => by
    obtain ⟨a, vs, rfl, h1, h2, h3, h4⟩ := h
    exact o.own ob h1 h2 h3 h4
  | .no, h => h.elim
  | .tin, h => h.elim
theorem NewEn.step {K : PySem.W.Frag} {p : Bool} {ta : Addr} {F H F' H' Hb : Hp} {v : V} (s : Stp p ta F H F' H') (hb : p = true → Hb ta ≠ none) : ∀ {en : En}, NewEn K F Hb H v en → NewEn K F' Hb H' v en
  | .v d, h => dp_up s.ff d v h
  | .own ds, h => by
    obtain ⟨a, vs, rfl, h1, h2, h3, h4⟩ := h
    exact ⟨a, vs, rfl, h1, by rw [s.new a (by rw [h3]; exact fun z => nomatch z)]; exact h2, s.old a _ h3 (fun z y => hb z (y ▸ h1)), dps_up s.ff _ _ h4⟩
  | .no, h => h.elim
  | .tin, h => h.elim
section
variable {S : Sta} {p : Bool} {e a b c : Expr} {Γ : List En} {t t1 t2 t3 : Tn} {d : PD} {ds es : List PD} {pos : Pos} {Φ : Post}
theorem DE.dv (h : DE S p e Γ t d t1) : DV S p e Γ t (.v d) t1 := fun X hX => let ⟨te, h1, h2⟩ := h X hX; ⟨te, h1, h2⟩
theorem DN.dv (h : DN S p e Γ t ds t1) : DV S p e Γ t (.own ds) t1 := fun X hX => let ⟨te, h1, h2⟩ := h X hX; ⟨te, h1, fun ta F0 H0 σ F H o Q q => h2 ta F0 H0 σ F H o Q fun a vs F' H' s i hn hf hl hd => q _ F' H' s i ⟨a, vs, rfl, hn, hf, hl, hd⟩⟩
/-- x = e -/
theorem ds_setV (i : Nat) {en : En} {x : Str} {pos' : Pos} (h : DV S p e Γ t en t1) (hΦ : Φ (.nx (Γ.set i en)) t1) (hs : ∀ (env : Env) l, swapsWith e (some (.Name x pos')) l env = pure false := by intro _ _; rfl)
    (hN : S.N[i]? = some x := by rfl) (hx : St1 S x := by first | exact ⟨.inl rfl, .inr rfl⟩ | exact ⟨.inr rfl, .inl rfl⟩) : DS S p (.Assign [.Name x pos'] e pos) Γ t Φ := fun X hX ta F0 H0 σ F H o D dn =>
  let ⟨_, h1, h2⟩ := h X hX
  ⟨_, ps_set (by rw [hX.N]; exact hX.nd) (by rw [hX.N]; exact hN) (by rw [hX.sc]; exact hx.1) h1 (hs _ _) (hx.fn hX), h2 ta F0 H0 σ F H o _ fun v F' H' s j hv => dn.nx _ t1 _ F' H' hΦ s.ff ((o.step s j).put o i hv)⟩
/-- x, y = a, b (plain local names) -/
theorem ds_par (i j : Nat) {en em : En} {x y : Str} {px py pt : Pos} {kt k2 pt2} (ha : DV S p a Γ t en t1) (hb : DV S p b Γ t1 em t2) (hΦ : Φ (.nx ((Γ.set i en).set j em)) t2)
    (hw : ∀ env : Env, env.scope = S.sc → swappedStores [.Tuple [.Name x px, .Name y py] kt pt] (.Tuple [a, b] k2 pt2) env = pure (some [x, y]))
    (hx : S.sc.names.lookup x = some .local := by rfl) (hy : S.sc.names.lookup y = some .local := by rfl)
    (hi : S.N[i]? = some x := by rfl) (hj : S.N[j]? = some y := by rfl) (hij : i ≠ j := by decide) (na : Ns a := by intro _ _; rfl) (nb : Ns b := by intro _ _; rfl) : DS S p (.Assign [.Tuple [.Name x px, .Name y py] kt pt] (.Tuple [a, b] k2 pt2) pos) Γ t Φ := fun X hX ta F0 H0 σ F H o D dn =>
  let ⟨_, a1, a2⟩ := ha X hX; let ⟨_, b1, b2⟩ := hb X hX
  ⟨_, ps_par hX.calm (by rw [hX.N]; exact hX.nd) (by rw [hX.N]; exact hi) (by rw [hX.N]; exact hj) hij (by rw [hX.sc]; exact hx) (by rw [hX.sc]; exact hy) (pa_cons a1 (pa_cons b1 pa_nil (nb _ _)) (na _ _)) (hw _ hX.sc),
    a2 ta F0 H0 σ F H o _ fun v F1 H1 s1 i1 n1 => b2 ta F0 H0 σ F1 H1 (o.step s1 i1) _ fun u F2 H2 s2 i2 n2 => ⟨v, u, rfl, by
      have tn : p = true → H ta ≠ none := fun z w => by have q := (o.tin z).2; rw [w] at q; cases q
      have oA := ((o.step s1 i1)).put o i n1
      exact dn.nx _ t2 _ F2 H2 hΦ (s1.trans s2).ff ((oA.step s2 i2).put oA j n2)⟩⟩
theorem ds_par3 (i j l : Nat) {en em eo : En} {x y z : Str} {px py pz pt : Pos} {kt k2 pt2} (ha : DV S p a Γ t en t1) (hb : DV S p b Γ t1 em t2) (hc : DV S p c Γ t2 eo t3) (hΦ : Φ (.nx (((Γ.set i en).set j em).set l eo)) t3)
    (hw : ∀ env : Env, env.scope = S.sc → swappedStores [.Tuple [.Name x px, .Name y py, .Name z pz] kt pt] (.Tuple [a, b, c] k2 pt2) env = pure (some [x, y, z]))
    (hx : S.sc.names.lookup x = some .local := by rfl) (hy : S.sc.names.lookup y = some .local := by rfl) (hz : S.sc.names.lookup z = some .local := by rfl)
    (hi : S.N[i]? = some x := by rfl) (hj : S.N[j]? = some y := by rfl) (hl : S.N[l]? = some z := by rfl) (hij : i ≠ j := by decide) (hil : i ≠ l := by decide) (hjl : j ≠ l := by decide) (na : Ns a := by intro _ _; rfl) (nb : Ns b := by intro _ _; rfl) (nc : Ns c := by intro _ _; rfl) :
    DS S p (.Assign [.Tuple [.Name x px, .Name y py, .Name z pz] kt pt] (.Tuple [a, b, c] k2 pt2) pos) Γ t Φ := fun X hX ta F0 H0 σ F H o D dn =>
  let ⟨_, a1, a2⟩ := ha X hX; let ⟨_, b1, b2⟩ := hb X hX; let ⟨_, c1, c2⟩ := hc X hX
  ⟨_, L2.ps_par3 hX.calm (by rw [hX.N]; exact hX.nd) (by rw [hX.N]; exact hi) (by rw [hX.N]; exact hj) (by rw [hX.N]; exact hl) hij hil hjl (by rw [hX.sc]; exact hx) (by rw [hX.sc]; exact hy) (by rw [hX.sc]; exact hz) (pa_cons a1 (pa_cons b1 (pa_cons c1 pa_nil (nc _ _)) (nb _ _)) (na _ _)) (hw _ hX.sc),
    a2 ta F0 H0 σ F H o _ fun v F1 H1 s1 i1 n1 => b2 ta F0 H0 σ F1 H1 (o.step s1 i1) _ fun u F2 H2 s2 i2 n2 => c2 ta F0 H0 σ F2 H2 ((o.step s1 i1).step s2 i2) _ fun w F3 H3 s3 i3 n3 => ⟨v, u, w, rfl, by
      have oA := (o.step s1 i1).put o i n1
      have oB := (oA.step s2 i2).put oA j n2
      exact dn.nx _ t3 _ F3 H3 hΦ ((s1.trans s2).trans s3).ff ((oB.step s3 i3).put oB l n3)⟩⟩

/-! ### one's own list by its methods -/
theorem own_run {K : PySem.W.Frag} {ta : Addr} {F0 H0 F H F' H' : Hp} {σ : L2.St} (o : Ok K p ta F0 H0 t Γ σ F H) (s : Stp p ta F H F' H') {i : Nat} {a : Addr} {vs : List V} (he : Γ[i]? = some (.own ds)) (hs : σ[i]? = some (some (.ref a))) (hl : H a = some (.lst vs)) : H' a = some (.lst vs) := by
  obtain ⟨b, ws, e1, e2, e3, e4, e5⟩ := o.ent i _ he
  rw [hs] at e1
  cases e1
  exact s.old a _ hl (fun z y => o.t0 z (y ▸ e2))
/-- x.append(e) -/
theorem ds_app (i : Nat) {x : Str} {px p1 p2 : Pos} (he : Γ[i]? = some (.own ds)) (h : DE S p e Γ t d t1) (hz : ds.length < 100000) (hΦ : Φ (.nx (Γ.set i (.own (ds ++ [d])))) t1) (hline : (p1.endLine == p2.line) = true := by rfl) (ns : Ns e := by intro _ _; rfl)
    (hN : S.N[i]? = some x := by rfl) (hv : Vis S.sc x := by first | exact Or.inl rfl | exact Or.inr (Or.inl rfl) | exact Or.inr (Or.inr rfl)) (hd : (x == ("__debug__" : Str)) = false := by decide) (hcd : (x == ("__classdict__" : Str)) = false := by decide) :
    DS S p (.Expr (.Call (.Attribute (.Name x px) "append" p1) [e] [] p2) pos) Γ t Φ := fun X hX ta F0 H0 σ F H o D dn => by
  obtain ⟨_, h1, h2⟩ := h X hX
  obtain ⟨a, vs, e1, e2, e3, e4, e5⟩ := o.ent i _ he
  refine ⟨_, ps_expr (pe_bm PySem.F.plainAttrs_list PySem.F.slot_list_append PySem.F.type_list_append mt_append (pe_var (i := i) (by rw [hX.N]; exact hN) (by rw [hX.sc]; exact hv) hd hcd) (pa_cons h1 pa_nil (ns _ _)) rfl ?_ hline (ns _ _) rfl), _, e1, .inl ⟨rfl, _, SqL.of e4⟩, h2 ta F0 H0 σ F H o _ fun v F' H' s j hv => ?_⟩
  · rw [ns X.env []]
    rfl
  · have e4' := own_run o s he e1 e4
    refine ⟨a, vs, v, rfl, rfl, e4', by rw [dps_len e5]; exact sz_lt hz, ?_⟩
    exact dn.nx _ t1 _ F' _ hΦ s.ff ((o.step s j).write he e1 (dps_app (dps_up s.ff _ _ e5) (.cons hv .nil)))
/-- x.extend(e), e a new list -/
theorem ds_ext (i : Nat) {x : Str} {px p1 p2 : Pos} (he : Γ[i]? = some (.own ds)) (h : DN S p e Γ t es t1) (hz : ds.length + es.length ≤ 100000) (hΦ : Φ (.nx (Γ.set i (.own (ds ++ es)))) t1) (hline : (p1.endLine == p2.line) = true := by rfl) (ns : Ns e := by intro _ _; rfl)
    (hN : S.N[i]? = some x := by rfl) (hv : Vis S.sc x := by first | exact Or.inl rfl | exact Or.inr (Or.inl rfl) | exact Or.inr (Or.inr rfl)) (hd : (x == ("__debug__" : Str)) = false := by decide) (hcd : (x == ("__classdict__" : Str)) = false := by decide) :
    DS S p (.Expr (.Call (.Attribute (.Name x px) "extend" p1) [e] [] p2) pos) Γ t Φ := fun X hX ta F0 H0 σ F H o D dn => by
  obtain ⟨_, h1, h2⟩ := h X hX
  obtain ⟨a, vs, e1, e2, e3, e4, e5⟩ := o.ent i _ he
  refine ⟨_, ps_expr (pe_bm PySem.F.plainAttrs_list PySem.F.slot_list_extend PySem.F.type_list_extend mt_extend (pe_var (i := i) (by rw [hX.N]; exact hN) (by rw [hX.sc]; exact hv) hd hcd) (pa_cons h1 pa_nil (ns _ _)) rfl ?_ hline (ns _ _) rfl), _, e1, .inl ⟨rfl, _, SqL.of e4⟩, h2 ta F0 H0 σ F H o _ fun b ws F' H' s j hn hf hl hd => ?_⟩
  · rw [ns X.env []]
    rfl
  · have e4' := own_run o s he e1 e4
    refine ⟨a, b, vs, ws, rfl, rfl, e4', hl, by rw [dps_len e5, dps_len hd]; exact few_sz hz, ?_⟩
    exact dn.nx _ t1 _ F' _ hΦ s.ff ((o.step s j).write he e1 (dps_app (dps_up s.ff _ _ e5) hd))
/-- x[b] = e -/
theorem ds_put (i : Nat) {x : Str} {px p1 : Pos} {k : Int} {j : Nat} (he : Γ[i]? = some (.own ds)) (h : DE S p e Γ t d t1) (hb : DE S p b Γ t1 (.int k) t2) (hk : ixN ds.length k = some j) (hΦ : Φ (.nx (Γ.set i (.own (ds.set j d)))) t2)
    (hs : ∀ (env : Env) l, swapsWithSole [.Subscript (.Name x px) b p1] e l env = pure false := by intro _ _; rfl) (hw : ∀ env : Env, swappedStores [.Subscript (.Name x px) b p1] e env = pure none := by intro _; rfl)
    (hset : ∀ (env : Env) v, assign (.Subscript (.Name x px) b p1) env v = (do
      let ov ← holding [v] (eval (.Name x px) env)
      let iv ← holding [v, ov] (eval b env)
      standAt p1
      holding [v, ov, iv] (setItem ov iv v)
      release [v, ov, iv] []) := by intro _ _; rfl)
    (hN : S.N[i]? = some x := by rfl) (hv : Vis S.sc x := by first | exact Or.inl rfl | exact Or.inr (Or.inl rfl) | exact Or.inr (Or.inr rfl)) (hd : (x == ("__debug__" : Str)) = false := by decide) (hcd : (x == ("__classdict__" : Str)) = false := by decide) :
    DS S p (.Assign [.Subscript (.Name x px) b p1] e pos) Γ t Φ := fun X hX ta F0 H0 σ F H o D dn => by
  obtain ⟨_, h1, h2⟩ := h X hX
  obtain ⟨_, b1, b2⟩ := hb X hX
  obtain ⟨a, vs, e1, e2, e3, e4, e5⟩ := o.ent i _ he
  refine ⟨_, ps_asg h1 (pg_sub (pe_var (i := i) (by rw [hX.N]; exact hN) (by rw [hX.sc]; exact hv) hd hcd) b1 set_list (hset _)) (hs _ _) (hw _), h2 ta F0 H0 σ F H o _ fun v F1 H1 s1 i1 hv => ⟨_, e1, b2 ta F0 H0 σ F1 H1 (o.step s1 i1) _ fun w F2 H2 s2 i2 hw => ?_⟩⟩
  cases hw
  have e4' := own_run o (s1.trans s2) he e1 e4
  refine ⟨a, vs, k, j, rfl, rfl, e4', by rw [dps_len e5]; exact hk, ?_⟩
  exact dn.nx _ t2 _ F2 _ hΦ (s1.trans s2).ff (((o.step s1 i1).step s2 i2).write he e1 (dps_set (dp_up s2.ff _ _ hv) j (dps_up (s1.trans s2).ff _ _ e5)))

/-! ### the drawing list -/
def tget (t : Tn) : Nat → Int
  | 0 => t.1
  | 1 => t.2.1
  | _ => t.2.2
def tput (t : Tn) (v : Int) : Nat → Tn
  | 0 => (v, t.2.1, t.2.2)
  | 1 => (t.1, v, t.2.2)
  | _ => (t.1, t.2.1, v)
/-- tin[k], k written -/
theorem de_tin (i k : Nat) (hk : k < 3) {x : Str} {px p1 : Pos} {j} (he : Γ[i]? = some .tin)
    (hN : S.N[i]? = some x := by rfl) (hv : Vis S.sc x := by first | exact Or.inl rfl | exact Or.inr (Or.inl rfl) | exact Or.inr (Or.inr rfl)) (hd : (x == ("__debug__" : Str)) = false := by decide) (hcd : (x == ("__classdict__" : Str)) = false := by decide) :
    DE S p (.Subscript (.Name x px) (.Constant (.int (k : Int)) j p1) pos) Γ t (.int (tget t k)) t := fun X hX =>
  ⟨_, pe_ix ix_list (pe_var (i := i) (by rw [hX.N]; exact hN) (by rw [hX.sc]; exact hv) hd hcd) pe_int (fun _ _ => rfl), fun ta F0 H0 σ F H o Q q => by
    obtain ⟨z, e1⟩ := o.ent i _ he
    refine ⟨_, e1, ta, _, _, .int (tget t k), rfl, rfl, SqL.of (o.tin z).2, atI_nat (j := k) ?_, q _ F H (Stp.refl o.fh) o.tin (Dp.int _)⟩
    match k, hk with
    | 0, _ => rfl
    | 1, _ => rfl
    | 2, _ => rfl⟩
/-- tin[k] = e -/
theorem ds_tin (i k : Nat) (hk : k < 3) {v : Int} {x : Str} {px p1 p2 : Pos} {j} (he : Γ[i]? = some .tin) (h : DE S p e Γ t (.int v) t1) (hΦ : Φ (.nx Γ) (tput t1 v k))
    (hs : ∀ (env : Env) l, swapsWithSole [.Subscript (.Name x px) (.Constant (.int (k : Int)) j p1) p2] e l env = pure false := by intro _ _; rfl) (hw : ∀ env : Env, swappedStores [.Subscript (.Name x px) (.Constant (.int (k : Int)) j p1) p2] e env = pure none := by intro _; rfl)
    (hN : S.N[i]? = some x := by rfl) (hv : Vis S.sc x := by first | exact Or.inl rfl | exact Or.inr (Or.inl rfl) | exact Or.inr (Or.inr rfl)) (hd : (x == ("__debug__" : Str)) = false := by decide) (hcd : (x == ("__classdict__" : Str)) = false := by decide) :
    DS S p (.Assign [.Subscript (.Name x px) (.Constant (.int (k : Int)) j p1) p2] e pos) Γ t Φ := fun X hX ta F0 H0 σ F H o D dn => by
  obtain ⟨_, h1, h2⟩ := h X hX
  obtain ⟨z, e1⟩ := o.ent i _ he
  refine ⟨_, ps_asg h1 (pg_sub (pe_var (i := i) (by rw [hX.N]; exact hN) (by rw [hX.sc]; exact hv) hd hcd) pe_int set_list) (hs _ _) (hw _), h2 ta F0 H0 σ F H o _ fun w F1 H1 s1 i1 hv => ⟨_, e1, ?_⟩⟩
  cases hv
  obtain ⟨f1, f2⟩ := i1 z
  have o1 := o.step s1 i1
  have fin : ∀ ws : List V, ws = [.int (tput t1 v k).1, .int (tput t1 v k).2.1, .int (tput t1 v k).2.2] → D.nx σ (upd H1 ta (.lst ws)) := fun ws e => by
    subst e
    refine dn.nx Γ _ σ F1 _ hΦ s1.ff ⟨⟨o1.stp.ff, fun b u h => ?_, fun b u h n => ?_, o1.stp.new, fun b h => ?_⟩, o1.t0, fun _ => ⟨f1, upd_same⟩, o1.len, fun m en hm => ?_, o1.apart⟩
    · have y := o1.stp.fh b u h
      rw [upd_ne (ne_of_none h f1)]
      exact y
    · rw [upd_ne (n z)]
      exact o1.stp.old b u h n
    · by_cases y : b = ta
      · subst y
        rw [upd_same]
        exact fun w => nomatch w
      · rw [upd_ne y]
        exact o1.stp.dom b h
    · have q := o1.ent m en hm
      cases en with
      | no => trivial
      | v d => exact q
      | tin => exact q
      | own fs =>
        obtain ⟨c, us, g1, g2, g3, g4, g5⟩ := q
        have nc : c ≠ ta := fun y => by
          rw [y] at g2
          exact o.t0 z g2
        exact ⟨c, us, g1, g2, g3, by rw [upd_ne nc]; exact g4, g5⟩
  match k, hk with
  | 0, _ => exact ⟨ta, _, _, 0, rfl, rfl, f2, rfl, fin _ rfl⟩
  | 1, _ => exact ⟨ta, _, _, 1, rfl, rfl, f2, rfl, fin _ rfl⟩
  | 2, _ => exact ⟨ta, _, _, 2, rfl, rfl, f2, rfl, fin _ rfl⟩
end
end Sc

/-! DL6 -/
set_option Elab.async false
set_option linter.all false
set_option maxRecDepth 100000
namespace Sc
open PySem PySem.Spec PyProof.Rows L2 Evl

/-! ### what is walked -/
/-- J goes through ys as long as what is frozen in F1 stands -/
structure Wk (J : It) (K : PySem.W.Frag) (ys : List PD) (F1 : Hp) : Prop where
  go : ∀ (F2 H2 : Hp) (i : Nat), Ex F1 F2 → Ex F2 H2 → i < ys.length → J.go i H2
  yld : ∀ (p : Bool) (ta : Addr) (F2 H2 : Hp) (i : Nat) (d : PD) (x : V) (H3 : Hp), Ex F1 F2 → Ex F2 H2 → ys[i]? = some d → J.yld i H2 x H3 → ∃ F3, Stp p ta F2 H2 F3 H3 ∧ (∀ t, Tin p ta t F2 H2 → Tin p ta t F3 H3) ∧ Dp K F3 x d
  stop : ∀ (F2 H2 : Hp), Ex F1 F2 → Ex F2 H2 → J.stop ys.length H2
def EvI (K : PySem.W.Frag) (p : Bool) (wi : TI) (Γ : List En) (t : Tn) (ys : List PD) (t' : Tn) : Prop :=
  ∀ ta F0 H0 σ F H, Ok K p ta F0 H0 t Γ σ F H → ∀ R : It → Hp → Prop, (∀ J F' H', Stp p ta F H F' H' → Tin p ta t' F' H' → Wk J K ys F' → R J H') → wi σ H R
def DI (S : Sta) (p : Bool) (tg e : Expr) (Γ : List En) (t : Tn) (ys : List PD) (t' : Tn) : Prop := ∀ X, Cxs S X → ∃ wi, PI X tg e wi ∧ EvI X.K p wi Γ t ys t'

section
variable {S : Sta} {p : Bool} {tg e a b : Expr} {Γ : List En} {t t1 t2 : Tn} {d : PD} {ds es ys : List PD} {pos : Pos} {Φ : Post}
theorem wk_list {K : PySem.W.Frag} {a : Addr} {vs : List V} {F1 : Hp} (hs : SqL K F1 a vs) (hd : DpAll K F1 vs ds) : Wk (Itl K a) K ds F1 where
  go := fun F2 H2 i h1 h2 hi => by
    have hl : i < vs.length := by rw [dps_len hd]; exact hi
    exact ⟨vs, vs[i], ex_l (h1.trans h2) hs, List.getElem?_eq_getElem hl⟩
  yld := fun p ta F2 H2 i d x H3 h1 h2 he hy => by
    obtain ⟨rfl, q⟩ := hy
    obtain ⟨v, e1, e2⟩ := dps_get (dps_up h1 _ _ hd) he
    have e3 := q vs (ex_l (h1.trans h2) hs)
    rw [e1] at e3
    cases e3
    exact ⟨F2, Stp.refl h2, fun _ z => z, e2⟩
  stop := fun F2 H2 h1 h2 => ⟨vs, ex_l (h1.trans h2) hs, Nat.le_of_eq (dps_len hd)⟩
theorem wk_tup {K : PySem.W.Frag} {a : Addr} {vs : List V} {F1 : Hp} (hs : SqT K F1 a vs) (hd : DpAll K F1 vs ds) : Wk (Itt K a) K ds F1 where
  go := fun F2 H2 i h1 h2 hi => by
    have hl : i < vs.length := by rw [dps_len hd]; exact hi
    exact ⟨vs, vs[i], ex_t (h1.trans h2) hs, List.getElem?_eq_getElem hl⟩
  yld := fun p ta F2 H2 i d x H3 h1 h2 he hy => by
    obtain ⟨rfl, q⟩ := hy
    obtain ⟨v, e1, e2⟩ := dps_get (dps_up h1 _ _ hd) he
    have e3 := q vs (ex_t (h1.trans h2) hs)
    rw [e1] at e3
    cases e3
    exact ⟨F2, Stp.refl h2, fun _ z => z, e2⟩
  stop := fun F2 H2 h1 h2 => ⟨vs, ex_t (h1.trans h2) hs, Nat.le_of_eq (dps_len hd)⟩
theorem di_list (h : DE S p e Γ t (.list ds) t1) : DI S p tg e Γ t ds t1 := fun X hX =>
  let ⟨_, h1, h2⟩ := h X hX
  ⟨_, pi_list h1, fun ta F0 H0 σ F H o R q => h2 ta F0 H0 σ F H o _ fun v F' H' s i hd => by
    cases hd with
    | @lst a vs _ hs ha => exact ⟨a, rfl, ⟨vs, ex_l s.fh hs⟩, q _ F' H' s i (wk_list hs ha)⟩⟩
theorem di_tup (h : DE S p e Γ t (.tuple ds) t1) : DI S p tg e Γ t ds t1 := fun X hX =>
  let ⟨_, h1, h2⟩ := h X hX
  ⟨_, pi_tup h1, fun ta F0 H0 σ F H o R q => h2 ta F0 H0 σ F H o _ fun v F' H' s i hd => by
    cases hd with
    | @tup a vs _ hs ha => exact ⟨a, rfl, ⟨vs, ex_t s.fh hs⟩, q _ F' H' s i (wk_tup hs ha)⟩⟩
/-- pairs -/
def zipD (xs ys : List PD) : List PD := List.zipWith (fun x y => PyData.tuple [x, y]) xs ys
theorem pair_new {K : PySem.W.Frag} {ta : Addr} {F2 H2 : Hp} {T : Addr} {v u : V} {x y : PD} (h2 : Ex F2 H2) (hT : H2 T = none) (hv : Dp K F2 v x) (hu : Dp K F2 u y) :
    ∃ F3, Stp p ta F2 H2 F3 (upd H2 T (.tup [v, u])) ∧ (∀ t, Tin p ta t F2 H2 → Tin p ta t F3 (upd H2 T (.tup [v, u]))) ∧ Dp K F3 (.ref T) (.tuple [x, y]) := by
  have s : Stp p ta F2 H2 (upd F2 T (.tup [v, u])) (upd H2 T (.tup [v, u])) := Stp.frz h2 hT
  exact ⟨_, s, fun t z => z.frz hT, Dp.tup (SqT.of upd_same) (.cons (dp_up s.ff _ _ hv) (.cons (dp_up s.ff _ _ hu) .nil))⟩
theorem zipD_get {xs ys : List PD} {i : Nat} {d : PD} (h : (zipD xs ys)[i]? = some d) : ∃ x y, xs[i]? = some x ∧ ys[i]? = some y ∧ d = .tuple [x, y] := by
  unfold zipD at h
  rw [List.getElem?_zipWith] at h
  cases hx : xs[i]? with
  | none => rw [hx] at h; cases h
  | some x =>
    cases hy : ys[i]? with
    | none => rw [hx, hy] at h; cases h
    | some y =>
      rw [hx, hy] at h
      exact ⟨x, y, rfl, rfl, (Option.some.inj h).symm⟩
theorem zipD_len (xs ys : List PD) : (zipD xs ys).length = min xs.length ys.length := by
  unfold zipD
  exact List.length_zipWith
theorem wk_zipL {K : PySem.W.Frag} {a b : Addr} {vs ws : List V} {F1 : Hp} (hs : SqL K F1 a vs) (ht : SqL K F1 b ws) (hd : DpAll K F1 vs ds) (he : DpAll K F1 ws es) : Wk (Itz K a b) K (zipD ds es) F1 where
  go := fun F2 H2 i h1 h2 hi => by
    rw [zipD_len, ← dps_len hd, ← dps_len he] at hi
    exact ⟨vs, ws, vs[i]'(by omega), ws[i]'(by omega), ex_l (h1.trans h2) hs, ex_l (h1.trans h2) ht, List.getElem?_eq_getElem (by omega), List.getElem?_eq_getElem (by omega)⟩
  yld := fun p ta F2 H2 i d x H3 h1 h2 hi hy => by
    obtain ⟨T, v, u, rfl, hT, rfl, q1, q2⟩ := hy
    obtain ⟨x, y, e1, e2, rfl⟩ := zipD_get hi
    obtain ⟨v', f1, f2⟩ := dps_get (dps_up h1 _ _ hd) e1
    obtain ⟨u', g1, g2⟩ := dps_get (dps_up h1 _ _ he) e2
    have a1 := q1 vs (ex_l (h1.trans h2) hs)
    have a2 := q2 ws (ex_l (h1.trans h2) ht)
    rw [f1] at a1
    rw [g1] at a2
    cases a1
    cases a2
    exact pair_new h2 hT f2 g2
  stop := fun F2 H2 h1 h2 => ⟨vs, ws, ex_l (h1.trans h2) hs, ex_l (h1.trans h2) ht, by rw [zipD_len, ← dps_len hd, ← dps_len he]; omega⟩
theorem wk_zipT {K : PySem.W.Frag} {a b : Addr} {vs ws : List V} {F1 : Hp} (hs : SqT K F1 a vs) (ht : SqT K F1 b ws) (hd : DpAll K F1 vs ds) (he : DpAll K F1 ws es) : Wk (RZ.ItzT K a b) K (zipD ds es) F1 where
  go := fun F2 H2 i h1 h2 hi => by
    rw [zipD_len, ← dps_len hd, ← dps_len he] at hi
    exact ⟨vs, ws, vs[i]'(by omega), ws[i]'(by omega), ex_t (h1.trans h2) hs, ex_t (h1.trans h2) ht, List.getElem?_eq_getElem (by omega), List.getElem?_eq_getElem (by omega)⟩
  yld := fun p ta F2 H2 i d x H3 h1 h2 hi hy => by
    obtain ⟨T, v, u, rfl, hT, rfl, q1, q2⟩ := hy
    obtain ⟨x, y, e1, e2, rfl⟩ := zipD_get hi
    obtain ⟨v', f1, f2⟩ := dps_get (dps_up h1 _ _ hd) e1
    obtain ⟨u', g1, g2⟩ := dps_get (dps_up h1 _ _ he) e2
    have a1 := q1 vs (ex_t (h1.trans h2) hs)
    have a2 := q2 ws (ex_t (h1.trans h2) ht)
    rw [f1] at a1
    rw [g1] at a2
    cases a1
    cases a2
    exact pair_new h2 hT f2 g2
  stop := fun F2 H2 h1 h2 => ⟨vs, ws, ex_t (h1.trans h2) hs, ex_t (h1.trans h2) ht, by rw [zipD_len, ← dps_len hd, ← dps_len he]; omega⟩
theorem di_zipL {elts : List Expr} {kk : Nat} {tpos q1 : Pos} (ha : DE S p a Γ t (.list ds) t1) (hb : DE S p b Γ t1 (.list es) t2) (hg : glb S "zip") (hm : S.mg "zip" = none) (na : Ns a := by intro _ _; rfl) (nb : Ns b := by intro _ _; rfl) :
    DI S p (.Tuple elts kk tpos) (.Call (.Name "zip" q1) [a, b] [] pos) Γ t (zipD ds es) t2 := fun X hX =>
  let ⟨_, a1, a2⟩ := ha X hX; let ⟨_, b1, b2⟩ := hb X hX
  ⟨_, RZ.pi_zipA (hg.gl hX) (by rw [hX.mg]; exact hm) (pa_cons a1 (pa_cons b1 pa_nil (nb _ _)) (na _ _)) (na _ _) (by rw [nb X.env []]; rfl), fun ta F0 H0 σ F H o R q => a2 ta F0 H0 σ F H o _ fun v F1 H1 s1 i1 d1 => b2 ta F0 H0 σ F1 H1 (o.step s1 i1) _ fun u F2 H2 s2 i2 d2 => by
    have d1' := dp_up s2.ff _ _ d1
    cases d1' with
    | @lst a vs _ r1 c1 =>
      cases d2 with
      | @lst b ws _ r2 c2 => exact ⟨a, b, vs, ws, rfl, .inl ⟨ex_l s2.fh r1, ex_l s2.fh r2, q _ F2 H2 (s1.trans s2) i2 (wk_zipL r1 r2 c1 c2)⟩⟩⟩
theorem di_zipT {elts : List Expr} {kk : Nat} {tpos q1 : Pos} (ha : DE S p a Γ t (.tuple ds) t1) (hb : DE S p b Γ t1 (.tuple es) t2) (hg : glb S "zip") (hm : S.mg "zip" = none) (na : Ns a := by intro _ _; rfl) (nb : Ns b := by intro _ _; rfl) :
    DI S p (.Tuple elts kk tpos) (.Call (.Name "zip" q1) [a, b] [] pos) Γ t (zipD ds es) t2 := fun X hX =>
  let ⟨_, a1, a2⟩ := ha X hX; let ⟨_, b1, b2⟩ := hb X hX
  ⟨_, RZ.pi_zipA (hg.gl hX) (by rw [hX.mg]; exact hm) (pa_cons a1 (pa_cons b1 pa_nil (nb _ _)) (na _ _)) (na _ _) (by rw [nb X.env []]; rfl), fun ta F0 H0 σ F H o R q => a2 ta F0 H0 σ F H o _ fun v F1 H1 s1 i1 d1 => b2 ta F0 H0 σ F1 H1 (o.step s1 i1) _ fun u F2 H2 s2 i2 d2 => by
    have d1' := dp_up s2.ff _ _ d1
    cases d1' with
    | @tup a vs _ r1 c1 =>
      cases d2 with
      | @tup b ws _ r2 c2 => exact ⟨a, b, vs, ws, rfl, .inr ⟨ex_t s2.fh r1, ex_t s2.fh r2, q _ F2 H2 (s1.trans s2) i2 (wk_zipT r1 r2 c1 c2)⟩⟩⟩
/-- lo, lo + 1, .. (n of them) -/
def rngD (lo : Int) (n : Nat) : List PD := (List.range n).map fun i : Nat => PyData.int (lo + (i : Int))
theorem wk_rng {K : PySem.W.Frag} {F1 : Hp} {lo : Int} {n : Nat} : Wk (Itr lo n) K (rngD lo n) F1 where
  go := fun F2 H2 i h1 h2 hi => by
    unfold rngD at hi
    rw [List.length_map, List.length_range] at hi
    exact hi
  yld := fun p ta F2 H2 i d x H3 h1 h2 he hy => by
    obtain ⟨rfl, rfl⟩ := hy
    unfold rngD at he
    rw [List.getElem?_map] at he
    cases hi : (List.range n)[i]? with
    | none => rw [hi] at he; cases he
    | some j =>
      rw [hi] at he
      have hj : j = i := by
        obtain ⟨h, e⟩ := List.getElem?_eq_some_iff.mp hi
        rw [List.getElem_range] at e
        exact e.symm
      subst hj
      cases he
      exact ⟨F2, Stp.refl h2, fun _ z => z, Dp.int _⟩
  stop := fun F2 H2 h1 h2 => by
    show n ≤ (rngD lo n).length
    unfold rngD
    rw [List.length_map, List.length_range]
    exact Nat.le_refl _
theorem di_rng1 {n : Int} {q1 : Pos} (ha : DE S p a Γ t (.int n) t1) (hn : 0 ≤ n ∧ n ≤ 1000000) (hg : glb S "range") (hm : S.mg "range" = none) (na : Ns a := by intro _ _; rfl) :
    DI S p tg (.Call (.Name "range" q1) [a] [] pos) Γ t (rngD 0 n.toNat) t1 := fun X hX =>
  let ⟨_, a1, a2⟩ := ha X hX
  ⟨_, pi_range1 (hg.gl hX) (by rw [hX.mg]; exact hm) (pa_cons a1 pa_nil (na _ _)) (na _ _), fun ta F0 H0 σ F H o R q => a2 ta F0 H0 σ F H o _ fun v F1 H1 s1 i1 d1 => by
    cases d1
    exact ⟨n, rfl, by omega, by omega, q _ F1 H1 s1 i1 wk_rng⟩⟩
theorem di_rng2 {m n : Int} {q1 : Pos} (ha : DE S p a Γ t (.int m) t1) (hb : DE S p b Γ t1 (.int n) t2) (hn : 0 ≤ m ∧ m ≤ 1000000 ∧ 0 ≤ n ∧ n ≤ 1000000) (hg : glb S "range") (hm : S.mg "range" = none) (na : Ns a := by intro _ _; rfl) (nb : Ns b := by intro _ _; rfl) :
    DI S p tg (.Call (.Name "range" q1) [a, b] [] pos) Γ t (rngD m (n - m).toNat) t2 := fun X hX =>
  let ⟨_, a1, a2⟩ := ha X hX; let ⟨_, b1, b2⟩ := hb X hX
  ⟨_, pi_range2 (hg.gl hX) (by rw [hX.mg]; exact hm) (pa_cons a1 (pa_cons b1 pa_nil (nb _ _)) (na _ _)) (by rw [na X.env [b], nb X.env []]; rfl) (by rw [nb X.env []]; rfl), fun ta F0 H0 σ F H o R q => a2 ta F0 H0 σ F H o _ fun v F1 H1 s1 i1 d1 => b2 ta F0 H0 σ F1 H1 (o.step s1 i1) _ fun u F2 H2 s2 i2 d2 => by
    cases d1
    cases d2
    exact ⟨m, n, rfl, by omega, q _ F2 H2 (s1.trans s2) i2 wk_rng⟩⟩
/-- numbered pairs -/
def enumD (ds : List PD) : List PD := ds.mapIdx fun i d => PyData.tuple [.int (i : Int), d]
theorem wk_enum {K : PySem.W.Frag} {a : Addr} {vs : List V} {F1 : Hp} (hs : SqL K F1 a vs) (hd : DpAll K F1 vs ds) : Wk (Ite K a) K (enumD ds) F1 where
  go := fun F2 H2 i h1 h2 hi => by
    unfold enumD at hi
    rw [List.length_mapIdx, ← dps_len hd] at hi
    exact ⟨vs, vs[i], ex_l (h1.trans h2) hs, List.getElem?_eq_getElem hi⟩
  yld := fun p ta F2 H2 i d x H3 h1 h2 he hy => by
    obtain ⟨T, v, rfl, hT, rfl, q1⟩ := hy
    unfold enumD at he
    rw [List.getElem?_mapIdx] at he
    cases hx : ds[i]? with
    | none => rw [hx] at he; cases he
    | some y =>
      rw [hx] at he
      cases he
      obtain ⟨v', f1, f2⟩ := dps_get (dps_up h1 _ _ hd) hx
      have a1 := q1 vs (ex_l (h1.trans h2) hs)
      rw [f1] at a1
      cases a1
      exact pair_new h2 hT (Dp.int _) f2
  stop := fun F2 H2 h1 h2 => ⟨vs, ex_l (h1.trans h2) hs, by unfold enumD; rw [List.length_mapIdx, ← dps_len hd]; exact Nat.le_refl _⟩
theorem di_enum {elts : List Expr} {kk : Nat} {tpos q1 : Pos} (ha : DE S p a Γ t (.list ds) t1) (hg : glb S "enumerate") (hm : S.mg "enumerate" = none) (na : Ns a := by intro _ _; rfl) :
    DI S p (.Tuple elts kk tpos) (.Call (.Name "enumerate" q1) [a] [] pos) Γ t (enumD ds) t1 := fun X hX =>
  let ⟨_, a1, a2⟩ := ha X hX
  ⟨_, pi_enum (hg.gl hX) (by rw [hX.mg]; exact hm) (pa_cons a1 pa_nil (na _ _)) (na _ _), fun ta F0 H0 σ F H o R q => a2 ta F0 H0 σ F H o _ fun v F1 H1 s1 i1 d1 => by
    cases d1 with
    | @lst a vs _ r1 c1 => exact ⟨a, vs, rfl, ex_l s1.fh r1, q _ F1 H1 s1 i1 (wk_enum r1 c1)⟩⟩
end

/-! ### loops -/
def anyG (X : Cx) (tg : Expr) : TG := fun v σ H Q => ∃ g, PG X tg g ∧ g v σ H Q
theorem pg_any {X : Cx} {tg : Expr} : PG X tg (anyG X tg) := ⟨fun pins s σ H v u Q I r h => by
  obtain ⟨g, h1, h2⟩ := h
  exact h1.run pins s σ H v u Q I r h2⟩
/-- what a turn is to leave -/
def LoopPost (I : List En → Tn → Prop) (Φ : Post) : Post := fun o t => match o with
  | .nx Γ => I Γ t
  | .ct Γ => I Γ t
  | .bk Γ => Φ (.nx Γ) t
  | .rt d => Φ (.rt d) t
  | .rl ds => Φ (.rl ds) t
section
variable {S : Sta} {p : Bool} {tg iter e : Expr} {body : List Stmt} {Γ : List En} {t t1 : Tn} {ys : List PD} {pos : Pos} {Φ : Post}
theorem ds_for (Iv : Nat → List En → Tn → Prop) (hi : DI S p tg iter Γ t ys t1) (h0 : Iv 0 Γ t1)
    (step : ∀ (i : Nat) (d : PD) (Γ' : List En) (t' : Tn), ys[i]? = some d → Iv i Γ' t' → ∃ Γ2 js, DG S p tg d Γ' Γ2 js ∧ DSs S p body Γ2 t' (LoopPost (Iv (i + 1)) Φ))
    (done : ∀ (Γ' : List En) (t' : Tn), Iv ys.length Γ' t' → Φ (.nx Γ') t') (nf : ∀ (env : Env) (x : Value), foldedSetIterable iter env x = pure x := by intro _ _; rfl) : DS S p (.For tg iter body [] pos) Γ t Φ := fun X hX ta F0 H0 σ F H o D dn => by
  obtain ⟨_, i1, i2⟩ := hi X hX
  refine ⟨_, ps_for (by rw [hX.xe]; exact PassesOwn.never) hX.calm i1 pg_any pss_any (nf _), i2 ta F0 H0 σ F H o _ fun J F1 H1 s1 j1 wk => ?_⟩
  refine ⟨fun i m σ H => m = ys.length - i ∧ i ≤ ys.length ∧ ∃ Γ' t' F', Ok X.K p ta F0 H0 t' Γ' σ F' H ∧ Ex F1 F' ∧ Iv i Γ' t', ⟨ys.length, rfl, Nat.zero_le _, Γ, t1, F1, o.step s1 j1, Ex.refl F1, h0⟩, ?_⟩
  rintro i m σ2 H2 ⟨rfl, hle, Γ2, t2, F2, o2, x2, v2⟩
  by_cases hlt : i < ys.length
  · refine .inr ⟨wk.go F2 H2 i x2 o2.fh hlt, fun σ' H' => ∃ Γ' t' F', Ok X.K p ta F0 H0 t' Γ' σ' F' H' ∧ Ex F1 F' ∧ Iv (i + 1) Γ' t', fun σ' H' h => ⟨ys.length - (i + 1), by omega, rfl, hlt, h⟩, fun v H3 hy => ?_⟩
    have hd : ys[i]? = some ys[i] := List.getElem?_eq_getElem hlt
    obtain ⟨F3, s3, i3, d3⟩ := wk.yld p ta F2 H2 i _ v H3 x2 o2.fh hd hy
    have o3 := o2.step s3 (i3 t2 o2.tin)
    obtain ⟨Γ4, js, hg, hb⟩ := step i _ Γ2 t2 hd v2
    obtain ⟨g, g1, g2⟩ := hg X hX
    refine ⟨g, g1, g2 ta F0 H0 t2 σ2 F3 H3 v o3 d3 _ fun σ4 o4 _ => ?_⟩
    have x3 : Ex F1 F3 := x2.trans s3.ff
    exact hb X hX ta F0 H0 σ4 F3 H3 o4 _ ⟨fun Γ' t' σ' F' H' h x o' => ⟨Γ', t', F', o', x3.trans x, h⟩, fun Γ' t' σ' F' H' h x o' => dn.nx Γ' t' σ' F' H' h ((s1.ff.trans x3).trans x) o', fun Γ' t' σ' F' H' h x o' => ⟨Γ', t', F', o', x3.trans x, h⟩,
      fun d t' v F' H' h => dn.rt d t' v F' H' h, fun ds t' a vs F' H' h => dn.rl ds t' a vs F' H' h⟩
  · have e : i = ys.length := by omega
    subst e
    exact .inl ⟨wk.stop F2 H2 x2 o2.fh, dn.nx Γ2 t2 σ2 F2 H2 (done Γ2 t2 v2) (s1.ff.trans x2) o2⟩
theorem ds_while (Iv : Nat → List En → Tn → Prop) (m0 : Nat) (h0 : Iv m0 Γ t)
    (step : ∀ (m : Nat) (Γ' : List En) (t' : Tn), Iv m Γ' t' → ∃ b, DT S p e Γ' t' b t' ∧ (b = true → DSs S p body Γ' t' (LoopPost (fun Γ2 t2 => ∃ m', m' < m ∧ Iv m' Γ2 t2) Φ)) ∧ (b = false → Φ (.nx Γ') t')) :
    DS S p (.While e body [] pos) Γ t Φ := fun X hX ta F0 H0 σ F H o D dn => by
  refine ⟨_, ps_while (by rw [hX.xe]; exact PassesOwn.never) pt_any pss_any, ?_⟩
  refine ⟨fun m σ H => ∃ Γ' t' F', Ok X.K p ta F0 H0 t' Γ' σ F' H ∧ Ex F F' ∧ Iv m Γ' t', ⟨m0, Γ, t, F, o, Ex.refl F, h0⟩, ?_⟩
  rintro m σ1 H1 ⟨Γ1, t1, F1, o1, x1, v1⟩
  obtain ⟨b, hc, hb, hd⟩ := step m Γ1 t1 v1
  obtain ⟨tt, c1, c2⟩ := hc X hX
  refine ⟨tt, c1, c2 ta F0 H0 σ1 F1 H1 o1 _ fun F2 H2 s2 i2 => ?_⟩
  have o2 := o1.step s2 i2
  have x2 : Ex F F2 := x1.trans s2.ff
  cases b with
  | true =>
    rw [if_pos rfl]
    refine ⟨fun σ' H' => ∃ m', m' < m ∧ ∃ Γ' t' F', Ok X.K p ta F0 H0 t' Γ' σ' F' H' ∧ Ex F F' ∧ Iv m' Γ' t', fun σ' H' h => h, ?_⟩
    exact hb rfl X hX ta F0 H0 σ1 F2 H2 o2 _ ⟨fun Γ' t' σ' F' H' ⟨m', hm, h⟩ x o' => ⟨m', hm, Γ', t', F', o', x2.trans x, h⟩, fun Γ' t' σ' F' H' h x o' => dn.nx Γ' t' σ' F' H' h (x2.trans x) o', fun Γ' t' σ' F' H' ⟨m', hm, h⟩ x o' => ⟨m', hm, Γ', t', F', o', x2.trans x, h⟩,
      fun d t' v F' H' h => dn.rt d t' v F' H' h, fun ds t' a vs F' H' h => dn.rl ds t' a vs F' H' h⟩
  | false =>
    rw [if_neg (by decide)]
    exact dn.nx Γ1 t1 σ1 F2 H2 (hd rfl) x2 o2
end
end Sc

/-! DL7 -/
set_option Elab.async false
set_option linter.all false
set_option maxRecDepth 100000
namespace Sc
open PySem PySem.Spec PyProof.Rows L2 Evl

/-! ### comprehensions -/
/-- the block of a comprehension -/
def Sta.blk (S : Sta) (scope : Scope) : Sta := { S with sc := relS scope S.sc, top := false }
/-- the entries at js are forgotten -/
def wipeE (Γ : List En) : List Nat → List En
  | [] => Γ
  | j :: js => (wipeE Γ js).set j .no
theorem wipeE_length (Γ : List En) : ∀ js, (wipeE Γ js).length = Γ.length
  | [] => rfl
  | j :: js => by unfold wipeE; rw [List.length_set, wipeE_length Γ js]
theorem ok_wipe {K : PySem.W.Frag} {p : Bool} {ta : Addr} {F0 H0 F H : Hp} {t : Tn} {Γ : List En} {σ : L2.St} (o : Ok K p ta F0 H0 t Γ σ F H) : ∀ js : List Nat, Ok K p ta F0 H0 t (wipeE Γ js) (wipe σ js) F H
  | [] => o
  | j :: js => by
    have q := ok_wipe o js
    unfold wipeE wipe
    have g : ∀ (i : Nat) (e : En), ((wipeE Γ js).set j .no)[i]? = some e → e = .no ∨ ((wipeE Γ js)[i]? = some e ∧ ((wipe σ js).set j none)[i]? = (wipe σ js)[i]?) := fun i e h => by
      by_cases z : j = i
      · subst z
        have hi : j < (wipeE Γ js).length := by
          have := (List.getElem?_eq_some_iff.mp h).1
          rwa [List.length_set] at this
        rw [List.getElem?_set_self hi] at h
        exact .inl (Option.some.inj h).symm
      · rw [List.getElem?_set_ne z] at h
        exact .inr ⟨h, List.getElem?_set_ne z⟩
    refine ⟨q.stp, q.t0, q.tin, by rw [List.length_set, List.length_set]; exact q.len, fun i e h => ?_, fun i k a ds es h1 h2 h3 h4 => ?_⟩
    · rcases g i e h with z | ⟨z, y⟩
      · subst z
        trivial
      · rw [y]
        exact q.ent i e z
    · rcases g i _ h1 with z | ⟨z1, y1⟩
      · cases z
      · rcases g k _ h2 with z | ⟨z2, y2⟩
        · cases z
        · rw [y1] at h3
          rw [y2] at h4
          exact q.apart i k a ds es z1 z2 h3 h4
theorem wipe_get {σ : L2.St} : ∀ {js : List Nat} {j : Nat}, j < σ.length → (wipe σ js)[j]? = if j ∈ js then some none else σ[j]?
  | [], j, _ => by simp [wipe]
  | k :: js, j, h => by
    unfold wipe
    by_cases z : k = j
    · subst z
      rw [List.getElem?_set_self (by rw [wipe_length]; exact h), if_pos List.mem_cons_self]
    · rw [List.getElem?_set_ne z, wipe_get h]
      by_cases y : j ∈ js
      · rw [if_pos y, if_pos (List.mem_cons_of_mem _ y)]
      · rw [if_neg y, if_neg (fun w => by rcases List.mem_cons.mp w with e | e; exact z e.symm; exact y e)]
theorem wipe_same {σ σ' : L2.St} {js vs : List Nat} (h : SameBut js (wipe σ vs) σ') (hs : ∀ j ∈ js, j ∈ vs) : wipe σ' vs = wipe σ vs := by
  have hl : σ'.length = σ.length := by rw [h.1, wipe_length]
  apply List.ext_getElem?
  intro j
  by_cases hj : j < σ.length
  · rw [wipe_get (by rw [hl]; exact hj), wipe_get hj]
    by_cases z : j ∈ vs
    · rw [if_pos z, if_pos z]
    · rw [if_neg z, if_neg z, h.2 j (fun y => z (hs j y)), wipe_get hj, if_neg z]
  · rw [List.getElem?_eq_none (by rw [wipe_length, hl]; omega), List.getElem?_eq_none (by rw [wipe_length]; omega)]
/-- a clause's tests: none, or one -/
def DTs (S : Sta) (p : Bool) (ifs : List Expr) (Γ : List En) (t : Tn) (b : Bool) : Prop := match ifs with
  | [] => b = true
  | [c] => DT S p c Γ t b t
  | _ => False
theorem dts_pts {S : Sta} {p : Bool} {ifs : List Expr} {Γ : List En} {t : Tn} {b : Bool} (h : DTs S p ifs Γ t b) (X : Cx) (hX : Cxs S X) : ∃ tt, PTs X ifs tt ∧ EvT X.K p tt Γ t b t := by
  match ifs, h with
  | [], h => exact ⟨_, pts_nil, fun ta F0 H0 σ F H o Q q => by
      have e : b = true := h
      subst e
      exact q F H (Stp.refl o.fh) o.tin⟩
  | [c], h =>
    obtain ⟨_, h1, h2⟩ := (show DT S p c Γ t b t from h) X hX
    exact ⟨_, pts_one h1, h2⟩
section
variable {S : Sta} {p : Bool} {elt tg iter e : Expr} {ifs : List Expr} {scope : Scope} {Γ : List En} {t t1 : Tn} {pos : Pos} {Φ : Post}
/-- the block's readings, all of them -/
def blkG (X : Cx) (scope : Scope) (tg : Expr) : TG := fun v σ H Q => ∀ (s : Shared) (Hs : Hp) (C : Addr) (cl : List (Str × Addr)) (fp : List Addr), ∃ g, PG (X.blk s Hs scope (compEnvC scope cl C X.env) fp) tg g ∧ g v σ H Q
def blkT (X : Cx) (scope : Scope) (ifs : List Expr) : TT := fun σ H Q => ∀ (s : Shared) (Hs : Hp) (C : Addr) (cl : List (Str × Addr)) (fp : List Addr), ∃ g, PTs (X.blk s Hs scope (compEnvC scope cl C X.env) fp) ifs g ∧ g σ H Q
def blkE (X : Cx) (scope : Scope) (e : Expr) : TE := fun σ H Q => ∀ (s : Shared) (Hs : Hp) (C : Addr) (cl : List (Str × Addr)) (fp : List Addr), ∃ g, PE (X.blk s Hs scope (compEnvC scope cl C X.env) fp) e g ∧ g σ H Q
theorem blk_pg {X : Cx} (s : Shared) (Hs : Hp) (C : Addr) (cl : List (Str × Addr)) (fp : List Addr) : PG (X.blk s Hs scope (compEnvC scope cl C X.env) fp) tg (blkG X scope tg) := ⟨fun pins s1 σ H v u Q I r h => by
  obtain ⟨g, h1, h2⟩ := h s Hs C cl fp
  exact h1.run pins s1 σ H v u Q I r h2⟩
theorem blk_pt {X : Cx} (s : Shared) (Hs : Hp) (C : Addr) (cl : List (Str × Addr)) (fp : List Addr) : PTs (X.blk s Hs scope (compEnvC scope cl C X.env) fp) ifs (blkT X scope ifs) := ⟨fun pins s1 σ H Q I h => by
  obtain ⟨g, h1, h2⟩ := h s Hs C cl fp
  exact h1.run pins s1 σ H Q I h2⟩
theorem blk_pe {X : Cx} (s : Shared) (Hs : Hp) (C : Addr) (cl : List (Str × Addr)) (fp : List Addr) : PE (X.blk s Hs scope (compEnvC scope cl C X.env) fp) e (blkE X scope e) := ⟨fun pins s1 σ H Q I h => by
  obtain ⟨g, h1, h2⟩ := h s Hs C cl fp
  exact h1.run pins s1 σ H Q I h2⟩
theorem blk_cxs {X : Cx} (hX : Cxs S X) (hk : scope.kind = .function) (s : Shared) (Hs : Hp) (C : Addr) (cl : List (Str × Addr)) (fp : List Addr) : Cxs (S.blk scope) (X.blk s Hs scope (compEnvC scope cl C X.env) fp) :=
  ⟨hX.prog, hX.w, hX.K, hX.mg, hX.base, hX.N, by show relabel scope X.env = relS scope S.sc; rw [← hX.sc]; rfl, hX.calm, hX.room, hX.nd, rfl, (fun z => nomatch z), hk⟩
theorem wk_up {J : It} {K : PySem.W.Frag} {ys : List PD} {F1 F2 : Hp} (w : Wk J K ys F1) (e : Ex F1 F2) : Wk J K ys F2 :=
  ⟨fun F3 H3 i a b c => w.go F3 H3 i (e.trans a) b c, fun p ta F3 H3 i d x H4 a b c q => w.yld p ta F3 H3 i d x H4 (e.trans a) b c q, fun F3 H3 a b => w.stop F3 H3 (e.trans a) b⟩
/-- what the comprehension's reading gives -/
theorem lc_ev {X : Cx} {wi : TI} {own : List (Str × Nat)} {α : Type} (hX : Cxs S X) (hk : scope.kind = .function) (xs : List α) (enc : α → PD) (f : α → Bool) (g : α → PD) (hi : EvI X.K p wi Γ t (xs.map enc) t1) (hz : xs.length < 100000)
    (step : ∀ x ∈ xs, ∃ Γ2 js, DG (S.blk scope) p tg (enc x) (wipeE Γ (own.map (·.2))) Γ2 js ∧ (∀ j ∈ js, j ∈ own.map (·.2)) ∧ DTs (S.blk scope) p ifs Γ2 t1 (f x) ∧ (f x = true → DE (S.blk scope) p elt Γ2 t1 (g x) t1)) :
    EvN X.K p (tLc wi (blkG X scope tg) (blkT X scope ifs) (blkE X scope elt) (own.map (·.2))) Γ t ((xs.filter f).map g) t1 := fun ta F0 H0 σ F H o Q q => hi ta F0 H0 σ F H o _ fun J F1 H1 s1 i1 wk Dl hD => by
  have o1 := o.step s1 i1
  have hfD : F1 Dl = none := fresh_back s1.fh hD
  refine ⟨fun i m H2 => m = xs.length - i ∧ i ≤ xs.length ∧ ∃ F2 vs, Stp p ta F1 H1 F2 H2 ∧ Tin p ta t1 F2 H2 ∧ F2 Dl = none ∧ H2 Dl = some (.lst vs) ∧ DpAll X.K F2 vs (((xs.take i).filter f).map g),
    ⟨xs.length, rfl, Nat.zero_le _, F1, [], Stp.add s1.fh hD, i1.add hD, hfD, upd_same, .nil⟩, ?_⟩
  rintro i m H2 ⟨rfl, hle, F2, vs, s2, i2, f2, l2, d2⟩
  have o2 := o1.step s2 i2
  by_cases hlt : i < xs.length
  · refine .inr ⟨wk.go F2 H2 i s2.ff s2.fh (by rw [List.length_map]; exact hlt), fun H' => ∃ F3 ws, Stp p ta F1 H1 F3 H' ∧ Tin p ta t1 F3 H' ∧ F3 Dl = none ∧ H' Dl = some (.lst ws) ∧ DpAll X.K F3 ws (((xs.take (i + 1)).filter f).map g), fun H' h => ⟨xs.length - (i + 1), by omega, rfl, hlt, h⟩, fun v H3 hy => ?_⟩
    have hx : xs[i]? = some xs[i] := List.getElem?_eq_getElem hlt
    have hd : (xs.map enc)[i]? = some (enc xs[i]) := by rw [List.getElem?_map, hx]; rfl
    obtain ⟨F3, s3, i3, d3⟩ := wk.yld p ta F2 H2 i _ v H3 s2.ff s2.fh hd hy
    have o3 := o2.step s3 (i3 t1 i2)
    obtain ⟨Γ4, js, hg, hj, ht, he⟩ := step _ (List.getElem_mem hlt)
    have et : xs.take (i + 1) = xs.take i ++ [xs[i]] := by rw [List.take_succ, hx]; rfl
    -- the list stands
    have hne : p = true → Dl ≠ ta := fun z y => by
      have w := (o1.tin z).2
      rw [← y, hD] at w
      cases w
    intro sB HB CB clB fpB
    obtain ⟨gg, g1, g2⟩ := hg _ (blk_cxs hX hk sB HB CB clB fpB)
    refine ⟨gg, g1, g2 ta F0 H0 t1 _ F3 H3 v (ok_wipe o3 _) d3 _ fun σ4 o4 sb => ⟨wipe_same sb hj, ?_⟩⟩
    intro sB2 HB2 CB2 clB2 fpB2
    obtain ⟨tt, t1', t2'⟩ := dts_pts ht _ (blk_cxs hX hk sB2 HB2 CB2 clB2 fpB2)
    refine ⟨tt, t1', t2' ta F0 H0 σ4 F3 H3 o4 _ fun F5 H5 s5 i5 => ?_⟩
    have s35 := s3.trans s5
    have l3 : H2 Dl ≠ none := by rw [l2]; exact fun w => nomatch w
    have f5 : F5 Dl = none := (s35.new Dl l3).trans f2
    have l5 : H5 Dl = some (.lst vs) := s35.old Dl _ l2 hne
    have d5 := dps_up s35.ff _ _ d2
    cases hf : f xs[i] with
    | true =>
      rw [if_pos rfl]
      intro sB3 HB3 CB3 clB3 fpB3
      obtain ⟨te, e1, e2⟩ := he hf _ (blk_cxs hX hk sB3 HB3 CB3 clB3 fpB3)
      refine ⟨te, e1, e2 ta F0 H0 σ4 F5 H5 (o4.step s5 i5) _ fun u F6 H6 s6 i6 d6 => ?_⟩
      have l6 : H6 Dl = some (.lst vs) := s6.old Dl _ l5 hne
      have f6 : F6 Dl = none := (s6.new Dl (by rw [l5]; exact fun w => nomatch w)).trans f5
      have d6' := dps_up s6.ff _ _ d5
      have s26 := s35.trans s6
      have s16 := s2.trans s26
      refine ⟨vs, l6, ?_, F6, vs ++ [u], ⟨s16.ff, fun b w h => ?_, fun b w h n => ?_, s16.new, fun b h => ?_⟩, fun z => ?_, f6, upd_same, ?_⟩
      · rw [dps_len d5, List.length_map]
        refine sz_lt (Nat.lt_of_le_of_lt (List.length_filter_le _ _) ?_)
        rw [List.length_take]
        omega
      · rw [upd_ne (ne_of_none h f6)]
        exact s16.fh b w h
      · rw [upd_ne (ne_of_none h hD)]
        exact s16.old b w h n
      · rw [upd_ne (fun y => h (by rw [y]; exact hD))]
        exact s16.dom b h
      · obtain ⟨y1, y2⟩ := i6 z
        refine ⟨y1, ?_⟩
        rw [upd_ne (fun y => hne z y.symm)]
        exact y2
      · rw [et, List.filter_append, List.map_append]
        have e8 : (List.filter f [xs[i]]).map g = [g xs[i]] := by rw [List.filter_cons_of_pos hf]; rfl
        rw [e8]
        exact dps_app d6' (.cons d6 .nil)
    | false =>
      rw [if_neg (by decide)]
      refine ⟨F5, vs, s2.trans s35, i5, f5, l5, ?_⟩
      have e8 : (List.filter f [xs[i]]) = [] := by rw [List.filter_cons_of_neg (by rw [hf]; decide)]; rfl
      rw [et, List.filter_append, e8, List.append_nil]
      exact d5
  · have e : i = xs.length := by omega
    subst e
    rw [List.take_length] at d2
    exact .inl ⟨by have z := wk.stop F2 H2 s2.ff s2.fh; rwa [List.length_map] at z, q Dl vs F2 H2 (s1.trans s2) i2 (fresh0 s1 hD) f2 l2 d2⟩
/-- the block's own names, and what it sees, by a check -/
structure BlkS (S : Sta) (scope : Scope) (own : List (Str × Nat)) : Prop where
  ok : BlkOk S.N S.sc scope own
  kd : scope.kind = .function
theorem dn_lc {own : List (Str × Nat)} {α : Type} (B : BlkS S scope own) (xs : List α) (enc : α → PD) (f : α → Bool) (g : α → PD) (hi : DI S p tg iter Γ t (xs.map enc) t1) (hz : xs.length < 100000)
    (step : ∀ x ∈ xs, ∃ Γ2 js, DG (S.blk scope) p tg (enc x) (wipeE Γ (own.map (·.2))) Γ2 js ∧ (∀ j ∈ js, j ∈ own.map (·.2)) ∧ DTs (S.blk scope) p ifs Γ2 t1 (f x) ∧ (f x = true → DE (S.blk scope) p elt Γ2 t1 (g x) t1))
    (nf : ∀ (env : Env) (x : Value), foldedSetIterable iter env x = pure x := by intro _ _; rfl) :
    DN S p (.ListComp elt [⟨tg, iter, ifs, 0⟩] scope pos) Γ t ((xs.filter f).map g) t1 := fun X hX =>
  let ⟨_, i1, i2⟩ := hi X hX
  ⟨_, pe_lc hX.calm (by rw [hX.N]; exact hX.nd) i1 (by rw [hX.N, hX.sc]; exact B.ok) blk_pg blk_pt blk_pe (nf _), lc_ev hX B.kd xs enc f g i2 hz step⟩
/-- x = [..], x a plain local name -/
theorem ds_setLc (i : Nat) {y : Str} {py spos : Pos} {own : List (Str × Nat)} {α : Type} (B : BlkS S scope own) (xs : List α) (enc : α → PD) (f : α → Bool) (g : α → PD) (hi : DI S p tg iter Γ t (xs.map enc) t1) (hz : xs.length < 100000)
    (step : ∀ x ∈ xs, ∃ Γ2 js, DG (S.blk scope) p tg (enc x) (wipeE Γ (own.map (·.2))) Γ2 js ∧ (∀ j ∈ js, j ∈ own.map (·.2)) ∧ DTs (S.blk scope) p ifs Γ2 t1 (f x) ∧ (f x = true → DE (S.blk scope) p elt Γ2 t1 (g x) t1))
    (hΦ : Φ (.nx (Γ.set i (.own ((xs.filter f).map g)))) t1)
    (hsw : (scope.names.any fun (n, k) => n == y && (k == .local || k == .cell)) = false) (hl : (py.line == pos.line) = true := by rfl)
    (hN : S.N[i]? = some y := by rfl) (hy : S.sc.names.lookup y = some .local := by rfl)
    (nf : ∀ (env : Env) (x : Value), foldedSetIterable iter env x = pure x := by intro _ _; rfl) :
    DS S p (.Assign [.Name y py] (.ListComp elt [⟨tg, iter, ifs, 0⟩] scope pos) spos) Γ t Φ := fun X hX ta F0 H0 σ F H o D dn =>
  let ⟨_, i1, i2⟩ := hi X hX
  ⟨_, L2.ps_setLc (i := i) hX.calm (by rw [hX.N]; exact hX.nd) (by rw [hX.N]; exact hN) (by rw [hX.sc]; exact hy) (sw_true (by rw [hX.sc]; exact hX.kd) (by rw [hX.sc]; exact hy) hl hsw) i1 (by rw [hX.N, hX.sc]; exact B.ok) blk_pg blk_pt blk_pe (nf _),
    lc_ev hX B.kd xs enc f g i2 hz step ta F0 H0 σ F H o _ fun a vs F' H' s j hn hf hl hd => dn.nx _ t1 _ F' H' hΦ s.ff ((o.step s j).own o hn hf hl hd)⟩
end

/-! ### defs and their calls -/
/-- what a def hands back: a datum, or a new list -/
inductive Rs where
  | d (x : PD)
  | l (ds : List PD)
/-- the arguments' entries and the drawing list; what comes back and the drawing list behind -/
abbrev Ar := List En → Tn → Rs → Tn → Prop
def RsQ (K : PySem.W.Frag) (p : Bool) (ta : Addr) (F H : Hp) (t' : Tn) (Q : VK) : Rs → Prop
  | .d x => ∀ v F' H', Stp p ta F H F' H' → Tin p ta t' F' H' → Dp K F' v x → Q v H'
  | .l ds => ∀ a vs F' H', Stp p ta F H F' H' → Tin p ta t' F' H' → H a = none → F' a = none → H' a = some (.lst vs) → DpAll K F' vs ds → Q (.ref a) H'
def spOf (K : PySem.W.Frag) (ar : Ar) : Sp := fun vs H Q _ => ∃ (p : Bool) (ta : Addr) (F : Hp) (t : Tn) (es : List En) (r : Rs) (t' : Tn), Ex F H ∧ Tin p ta t F H ∧ ArgsOk K p ta F vs es ∧ ar es t r t' ∧ RsQ K p ta F H t' Q r
/-- the def that the module's name x stands for keeps the promise ar, within k levels -/
def Df (P : Program) (w : World) (K : PySem.W.Frag) (mg : Str → Option Value) (base : Heap) (x : Str) (k : Nat) (ar : Ar) : Prop :=
  ∃ f fd ps, mg x = some (.ref f) ∧ PySem.W.keepIn K (.ref f) = true ∧ Binds K fd ps [] ∧ FnOk P w K mg base CX0 k f fd ps (spOf K ar)
abbrev Sta.df (S : Sta) : Str → Nat → Ar → Prop := Df S.P S.w S.K S.mg S.base
section
variable {S : Sta} {p : Bool} {e : Expr} {es : List Expr} {Γ : List En} {t t1 t2 : Tn} {d : PD} {ds : List PD} {as : List En} {pos : Pos} {ar : Ar} {k : Nat} {x : Str}
theorem df_in {X : Cx} (hX : Cxs S X) (h : S.df x k ar) : Df X.prog X.w X.K X.mg X.base x k ar := by
  rw [hX.prog, hX.w, hX.K, hX.mg, hX.base]
  exact h
theorem da_ne {X : Cx} {q : Pos} (ns : Ns e) (nss : ∀ env, (starEach es env).any (·.1) = false) : (backTo q (starEach es X.env)).any (·.1) = false := by
  unfold backTo
  rw [List.any_map]
  exact nss X.env
theorem de_call {q : Pos} (h : S.df x k ar) (ha : DA S p (e :: es) Γ t as t1) (hr : ar as t1 (.d d) t2) (hg : glb S x) (hk : k ≤ S.k := by decide) (hdb : (x == ("__debug__" : Str)) = false := by decide)
    (ns : Ns e := by intro _ _; rfl) (nss : ∀ env, (starEach es env).any (·.1) = false := by intro _; rfl) : DE S p (.Call (.Name x q) (e :: es) [] pos) Γ t d t2 := fun X hX => by
  obtain ⟨f, fd, ps, h1, h2, h3, h4⟩ := df_in hX h
  obtain ⟨_, a1, a2⟩ := ha X hX
  refine ⟨_, pe_call h4 (hX.room.mono hk) (hg.gl hX) h1 h2 h3 .nil pass0 a1 hdb (ns _ _) (da_ne ns nss), fun ta F0 H0 σ F H o Q qq => a2 ta F0 H0 σ F H o _ fun vs F1 H1 s1 i1 d1 => ?_⟩
  rw [List.append_nil]
  exact ⟨p, ta, F1, t1, as, .d d, t2, s1.fh, i1, d1, hr, fun v F' H' s2 i2 d2 => qq v F' H' (s1.trans s2) i2 d2⟩
theorem dn_call {q : Pos} (h : S.df x k ar) (ha : DA S p (e :: es) Γ t as t1) (hr : ar as t1 (.l ds) t2) (hg : glb S x) (hk : k ≤ S.k := by decide) (hdb : (x == ("__debug__" : Str)) = false := by decide)
    (ns : Ns e := by intro _ _; rfl) (nss : ∀ env, (starEach es env).any (·.1) = false := by intro _; rfl) : DN S p (.Call (.Name x q) (e :: es) [] pos) Γ t ds t2 := fun X hX => by
  obtain ⟨f, fd, ps, h1, h2, h3, h4⟩ := df_in hX h
  obtain ⟨_, a1, a2⟩ := ha X hX
  refine ⟨_, pe_call h4 (hX.room.mono hk) (hg.gl hX) h1 h2 h3 .nil pass0 a1 hdb (ns _ _) (da_ne ns nss), fun ta F0 H0 σ F H o Q qq => a2 ta F0 H0 σ F H o _ fun vs F1 H1 s1 i1 d1 => ?_⟩
  rw [List.append_nil]
  exact ⟨p, ta, F1, t1, as, .l ds, t2, s1.fh, i1, d1, hr, fun a vs F' H' s2 i2 hn hf hl hd => qq a vs F' H' (s1.trans s2) i2 (fresh0 s1 hn) hf hl hd⟩
end
/-- a plain entry of an argument -/
def En.isArg : En → Prop
  | .v _ => True
  | .tin => True
  | _ => False
/-- what a body is to leave -/
def BodyPost (r : Rs) (t' : Tn) : Post := fun o t => match o, r with
  | .rt d, .d x => d = x ∧ t = t'
  | .rl ds, .l es => ds = es ∧ t = t'
  | _, _ => False
theorem args_ok {K : PySem.W.Frag} {p : Bool} {ta : Addr} {F H : Hp} {t : Tn} : ∀ {es : List En} {vs : List V} (n : Nat), ArgsOk K p ta F vs es →
    ∀ (i : Nat) (e : En), (es ++ List.replicate n En.no)[i]? = some e → EnOk K p ta H F H ((vs.map some ++ List.replicate n none)[i]?) e
  | [], _, n, h, i, e, he => by
    rw [List.nil_append] at he
    have := List.mem_of_getElem? he
    rw [List.eq_of_mem_replicate this]
    trivial
  | a :: es, _, n, h, 0, e, he => by
    cases h with
    | @cons v _ vs _ h1 h2 =>
      have q : a = e := Option.some.inj he
      subst q
      cases a with
      | no => exact h1.elim
      | own _ => exact h1.elim
      | v d => exact ⟨v, rfl, h1⟩
      | tin => exact ⟨h1.1, by rw [h1.2]; rfl⟩
  | a :: es, _, n, h, i + 1, e, he => by
    cases h with
    | @cons v _ vs _ h1 h2 => exact args_ok (t := t) n h2 i e he
/-- THE RULE for a def: its body, over data -/
theorem Df.mk {P : Program} {w : World} {K : PySem.W.Frag} {mg : Str → Option Value} {base : Heap} {x : Str} {k : Nat} {ar : Ar} {st : Stmt} {f : Addr} {fd : FuncData} {N ps : List Str}
    (F : FunD K x x (defArgs st) (defBody st) (defScope st) [] [] f fd) (hm : mg x = some (.ref f)) (sc : FnScope N ps (defScope st)) (bd : Binds K fd ps []) (hlen : ∀ es t r t', ar es t r t' → es.length = ps.length)
    (body : ∀ (p : Bool) (es : List En) (t : Tn) (r : Rs) (t' : Tn), ar es t r t' → DSs ⟨P, w, K, mg, base, N, defScope st, k, true⟩ p (defBody st) (es ++ List.replicate (N.length - ps.length) .no) t (BodyPost r t')) :
    Df P w K mg base x (k + 1) ar := by
  refine ⟨f, fd, ps, hm, F.kp, bd, F.ok sc (fun vs H Q E h => ?_) (fun cdv A outer s H vs Q E hr h => ?_)⟩
  · obtain ⟨p, ta, F, t, es, r, t', h1, h2, h3, h4, h5⟩ := h
    rw [args_len h3]
    exact hlen es t r t' h4
  · obtain ⟨p, ta, Fz, t, es, r, t', h1, h2, h3, h4, h5⟩ := h
    have hl : vs.length = ps.length := by rw [args_len h3]; exact hlen es t r t' h4
    have hle := hlen es t r t' h4
    refine ⟨anySs (cxOf CX0 P w K mg base N x (defScope st) f cdv A outer s H E).nox (defBody st), PSs.nox pss_any, ?_⟩
    have hX : Cxs ⟨P, w, K, mg, base, N, defScope st, k, true⟩ (cxOf CX0 P w K mg base N x (defScope st) f cdv A outer s H E).nox := ⟨rfl, rfl, rfl, rfl, rfl, rfl, rfl, rfl, hr, sc.nd, rfl, fun _ _ => rfl, sc.kind⟩
    refine body p es t r t' h4 _ hX ta Fz H (L2.start N vs) Fz H ⟨Stp.refl h1, fun z => (by rw [(h2 z).2]; exact fun y => (nomatch y)), h2, ?_, ?_, ?_⟩ _ ⟨?_, ?_, ?_, ?_, ?_⟩
    · unfold L2.start
      rw [List.length_append, List.length_append, List.length_map, List.length_replicate, List.length_replicate, hl, hle]
    · intro i e he
      unfold L2.start
      rw [hl]
      exact args_ok (t := t) _ h3 i e he
    · intro i j a ds es' h6
      have nown : ∀ (es : List En) (vs : List V), ArgsOk K p ta Fz vs es → ∀ e ∈ es, ∀ ds, e ≠ En.own ds := by
        intro es
        induction es with
        | nil => intro vs _ e he; cases he
        | cons a es ih =>
          intro vs h e he ds z
          cases h with
          | cons y1 y2 =>
            rcases List.mem_cons.mp he with q | q
            · subst q
              subst z
              exact y1.elim
            · exact ih _ y2 e q ds z
      have hm := List.mem_of_getElem? h6
      rcases List.mem_append.mp hm with q | q
      · exact absurd rfl (nown es vs h3 _ q ds)
      · cases List.eq_of_mem_replicate q
    · intro Γ t2 σ F2 H2 h
      cases r <;> exact h.elim
    · intro Γ t2 σ F2 H2 h
      cases r <;> exact h.elim
    · intro Γ t2 σ F2 H2 h
      cases r <;> exact h.elim
    · intro d t2 v F2 H2 h s2 i2 hd
      cases r with
      | d x =>
        obtain ⟨rfl, rfl⟩ := (show d = x ∧ t2 = t' from h)
        exact h5 v F2 H2 s2 i2 hd
      | l ds => exact h.elim
    · intro ds t2 a ws F2 H2 h s2 i2 hn hf hl2 hd
      cases r with
      | d x => exact h.elim
      | l es2 =>
        obtain ⟨rfl, rfl⟩ := (show ds = es2 ∧ t2 = t' from h)
        exact h5 a ws F2 H2 s2 i2 hn hf hl2 hd
end Sc

/-! DL8 -/
set_option Elab.async false
set_option linter.all false
set_option maxRecDepth 100000
namespace Sc
open PySem PySem.Spec PyProof.Rows L2 Evl

/-! ### built-in functions -/
section
variable {S : Sta} {p : Bool} {e a b : Expr} {Γ : List En} {t t1 t2 : Tn} {d : PD} {ds : List PD} {pos q : Pos}
/-- a built-in function (or class) of one argument that is a datum -/
theorem ev_cb1 {K : PySem.W.Frag} {r : List V → Hp → VK → Prop} {te : TE} {dr : PD} (h : EvD K p te Γ t d t1) (hr : ∀ x (F H : Hp), Ex F H → Dp K F x d → ∀ Q : VK, (∀ v, Dp K F v dr → Q v H) → r [x] H Q) : EvD K p (tCB r (tCons te tNil)) Γ t dr t1 :=
  fun ta F0 H0 σ F H o Q qq => h ta F0 H0 σ F H o _ fun v F' H' s i hd => hr v F' H' s.fh hd Q fun u hu => qq u F' H' s i hu
/-- a built-in function of one sequence that can be read, a datum that needs nothing new -/
theorem ev_cbQ {K : PySem.W.Frag} {l : Bool} {r : List V → Hp → VK → Prop} {te : TE} {dr : PD} (h : EvQ K p te Γ t l ds t1) (hr : ∀ x vs (F H : Hp), Ex F H → (if l = true then SqL K H x vs else SqT K H x vs) → DpAll K F vs ds → ∀ Q : VK, (∀ v, Dp K F v dr → Q v H) → r [.ref x] H Q) : EvD K p (tCB r (tCons te tNil)) Γ t dr t1 :=
  fun ta F0 H0 σ F H o Q qq => h ta F0 H0 σ F H o _ fun a vs F' H' s i hs hd => hr a vs F' H' s.fh (hs F' H' (Stp.refl s.fh)) hd Q fun u hu => qq u F' H' s i hu
theorem dps_ints {K : PySem.W.Frag} {F : Hp} : ∀ {ns : List Int} {vs : List V}, DpAll K F vs (ns.map PyData.int) → vs = ns.map V.int
  | [], _, h => by cases h; rfl
  | n :: ns, _, h => by
    cases h with
    | cons h1 h2 =>
      cases h1
      rw [List.map_cons, ← dps_ints h2]
theorem dps_bls {K : PySem.W.Frag} {F : Hp} : ∀ {ns : List Bool} {vs : List V}, DpAll K F vs (ns.map PyData.bool) → vs = ns.map V.bl
  | [], _, h => by cases h; rfl
  | n :: ns, _, h => by
    cases h with
    | cons h1 h2 =>
      cases h1
      rw [List.map_cons, ← dps_bls h2]
theorem nss0 : ∀ env : Env, (starEach [] env).any (·.1) = false := fun _ => rfl
theorem de_abs {i : Int} (h : DE S p e Γ t (.int i) t1) (hg : glb S "abs") (hm : S.mg "abs" = none) (ns : Ns e := by intro _ _; rfl) : DE S p (.Call (.Name "abs" q) [e] [] pos) Γ t (.int (i.natAbs : Int)) t1 := fun X hX =>
  let ⟨_, h1, h2⟩ := h X hX
  ⟨_, pe_callB call_abs (hg.gl hX) (by rw [hX.mg]; exact hm) (by decide +kernel) (pa_cons h1 pa_nil (ns _ _)) (by decide) (by decide) (ns _ _) (da_ne ns nss0), ev_cb1 h2 fun x F H _ hd Q qq => by
    cases hd
    refine ⟨i, rfl, ?_⟩
    have e : (if i < 0 then -i else i) = (i.natAbs : Int) := by split <;> omega
    rw [e]
    exact qq _ (Dp.int _)⟩
theorem de_intI {i : Int} (h : DE S p e Γ t (.int i) t1) (hg : glb S "int") (hm : S.mg "int" = none) (ns : Ns e := by intro _ _; rfl) : DE S p (.Call (.Name "int" q) [e] [] pos) Γ t (.int i) t1 := fun X hX =>
  let ⟨_, h1, h2⟩ := h X hX
  ⟨_, pe_callTy call_int1 (hg.gl hX) (by rw [hX.mg]; exact hm) (by decide +kernel) (pa_cons h1 pa_nil (ns _ _)) (by decide) (by decide) (ns _ _) (da_ne ns nss0), ev_cb1 h2 fun x F H _ hd Q qq => by
    cases hd
    exact .inl ⟨i, rfl, qq _ (Dp.int _)⟩⟩
theorem de_intB {c : Bool} (h : DE S p e Γ t (.bool c) t1) (hg : glb S "int") (hm : S.mg "int" = none) (ns : Ns e := by intro _ _; rfl) : DE S p (.Call (.Name "int" q) [e] [] pos) Γ t (.int (if c then 1 else 0)) t1 := fun X hX =>
  let ⟨_, h1, h2⟩ := h X hX
  ⟨_, pe_callTy call_int1 (hg.gl hX) (by rw [hX.mg]; exact hm) (by decide +kernel) (pa_cons h1 pa_nil (ns _ _)) (by decide) (by decide) (ns _ _) (da_ne ns nss0), ev_cb1 h2 fun x F H _ hd Q qq => by
    cases hd
    exact .inr ⟨c, rfl, qq _ (Dp.int _)⟩⟩
theorem de_len {l : Bool} (h : DQ S p e Γ t l ds t1) (hg : glb S "len") (hm : S.mg "len" = none) (ns : Ns e := by intro _ _; rfl) : DE S p (.Call (.Name "len" q) [e] [] pos) Γ t (.int (ds.length : Int)) t1 := fun X hX =>
  let ⟨_, h1, h2⟩ := h X hX
  ⟨_, pe_callB call_len_seq (hg.gl hX) (by rw [hX.mg]; exact hm) (by decide +kernel) (pa_cons h1 pa_nil (ns _ _)) (by decide) (by decide) (ns _ _) (da_ne ns nss0), ev_cbQ h2 fun x vs F H _ hs hd Q qq => by
    refine ⟨x, vs, rfl, ?_, ?_⟩
    · cases l with
      | true => rw [if_pos rfl] at hs; exact .inl hs
      | false => rw [if_neg (by decide)] at hs; exact .inr hs
    · rw [dps_len hd]
      exact qq _ (Dp.int _)⟩
/-- max of a list of ints -/
theorem de_max {ns : List Int} {m : Int} (h : DQ S p e Γ t true (ns.map PyData.int) t1) (h1 : m ∈ ns) (h2 : ∀ y ∈ ns, y ≤ m) (hg : glb S "max") (hm : S.mg "max" = none) (nst : Ns e := by intro _ _; rfl) : DE S p (.Call (.Name "max" q) [e] [] pos) Γ t (.int m) t1 := fun X hX =>
  let ⟨_, e1, e2⟩ := h X hX
  ⟨_, pe_callB (cr_max hX.calm) (hg.gl hX) (by rw [hX.mg]; exact hm) (by decide +kernel) (pa_cons e1 pa_nil (nst _ _)) (by decide) (by decide) (nst _ _) (da_ne nst nss0), ev_cbQ e2 fun x vs F H _ hs hd Q qq => by
    rw [if_pos rfl] at hs
    rw [dps_ints hd] at hs
    refine ⟨x, ns, rfl, hs, List.length_pos_of_mem h1, fun k hk hle => ?_⟩
    have ek : k = m := Int.le_antisymm (h2 k hk) (hle m h1)
    rw [ek]
    exact qq _ (Dp.int _)⟩
theorem de_max2 {i j : Int} (ha : DE S p a Γ t (.int i) t1) (hb : DE S p b Γ t1 (.int j) t2) (hg : glb S "max") (hm : S.mg "max" = none) (na : Ns a := by intro _ _; rfl) (nb : Ns b := by intro _ _; rfl) : DE S p (.Call (.Name "max" q) [a, b] [] pos) Γ t (.int (max i j)) t2 := fun X hX =>
  let ⟨_, a1, a2⟩ := ha X hX; let ⟨_, b1, b2⟩ := hb X hX
  ⟨_, pe_callB (call_max2 hX.calm) (hg.gl hX) (by rw [hX.mg]; exact hm) (by decide +kernel) (pa_cons a1 (pa_cons b1 pa_nil (nb _ _)) (na _ _)) (by decide) (by decide) (na _ _) (by rw [nb X.env []]; rfl),
    fun ta F0 H0 σ F H o Q qq => a2 ta F0 H0 σ F H o _ fun v F1 H1 s1 i1 d1 => b2 ta F0 H0 σ F1 H1 (o.step s1 i1) _ fun u F2 H2 s2 i2 d2 => by
      cases d1
      cases d2
      refine ⟨i, j, rfl, ?_⟩
      have e : (if j > i then j else i) = max i j := by split <;> omega
      rw [e]
      exact qq _ F2 H2 (s1.trans s2) i2 (Dp.int _)⟩
theorem de_all {bs : List Bool} (h : DQ S p e Γ t true (bs.map PyData.bool) t1) (hg : glb S "all") (hm : S.mg "all" = none) (nst : Ns e := by intro _ _; rfl) : DE S p (.Call (.Name "all" q) [e] [] pos) Γ t (.bool (bs.all id)) t1 := fun X hX =>
  let ⟨_, e1, e2⟩ := h X hX
  ⟨_, pe_callB (cr_all hX.calm) (hg.gl hX) (by rw [hX.mg]; exact hm) (by decide +kernel) (pa_cons e1 pa_nil (nst _ _)) (by decide) (by decide) (nst _ _) (da_ne nst nss0), ev_cbQ e2 fun x vs F H _ hs hd Q qq => by
    rw [if_pos rfl] at hs
    rw [dps_bls hd] at hs
    exact ⟨x, bs, rfl, hs, qq _ (Dp.bl _)⟩⟩
/-- tuple(xs) of a list -/
theorem de_tupleL (h : DQ S p e Γ t true ds t1) (hg : glb S "tuple") (hm : S.mg "tuple" = none) (nst : Ns e := by intro _ _; rfl) : DE S p (.Call (.Name "tuple" q) [e] [] pos) Γ t (.tuple ds) t1 := fun X hX =>
  let ⟨_, e1, e2⟩ := h X hX
  ⟨_, pe_callTy call_tuple_of (hg.gl hX) (by rw [hX.mg]; exact hm) (by decide +kernel) (pa_cons e1 pa_nil (nst _ _)) (by decide) (by decide) (nst _ _) (da_ne nst nss0), fun ta F0 H0 σ F H o Q qq => e2 ta F0 H0 σ F H o _ fun x vs F1 H1 s1 i1 hs hd => by
    have z := hs F1 H1 (Stp.refl s1.fh)
    rw [if_pos rfl] at z
    refine ⟨x, vs, rfl, .inl ⟨z, fun c hc => ?_⟩⟩
    have s2 : Stp p ta F1 H1 (upd F1 c (.tup vs)) (upd H1 c (.tup vs)) := Stp.frz s1.fh hc
    exact qq _ _ _ (s1.trans s2) (i1.frz hc) (Dp.tup (SqT.of upd_same) (dps_up s2.ff _ _ hd))⟩
/-- list(xs) -/
theorem dn_list {l : Bool} (h : DQ S p e Γ t l ds t1) (hg : glb S "list") (hm : S.mg "list" = none) (nst : Ns e := by intro _ _; rfl) : DN S p (.Call (.Name "list" q) [e] [] pos) Γ t ds t1 := fun X hX =>
  let ⟨_, e1, e2⟩ := h X hX
  ⟨_, pe_callTy call_list_of (hg.gl hX) (by rw [hX.mg]; exact hm) (by decide +kernel) (pa_cons e1 pa_nil (nst _ _)) (by decide) (by decide) (nst _ _) (da_ne nst nss0), fun ta F0 H0 σ F H o Q qq => e2 ta F0 H0 σ F H o _ fun x vs F1 H1 s1 i1 hs hd => by
    have z := hs F1 H1 (Stp.refl s1.fh)
    refine ⟨x, vs, rfl, ?_, fun c hc => qq c vs F1 _ (s1.trans (Stp.add s1.fh hc)) (i1.add hc) (fresh0 s1 hc) (fresh_back s1.fh hc) upd_same hd⟩
    cases l with
    | true => rw [if_pos rfl] at z; exact .inl z
    | false => rw [if_neg (by decide)] at z; exact .inr z⟩
/-- gcd(a, b), gcd the module math's -/
theorem de_gcd {i j : Int} {x : Str} (ha : DE S p a Γ t (.int i) t1) (hb : DE S p b Γ t1 (.int j) t2) (hg : glb S x) (hm : S.mg x = some (.builtin "math.gcd")) (hdb : (x == ("__debug__" : Str)) = false := by decide) (na : Ns a := by intro _ _; rfl) (nb : Ns b := by intro _ _; rfl) :
    DE S p (.Call (.Name x q) [a, b] [] pos) Γ t (.int (Int.gcd i j : Nat)) t2 := fun X hX =>
  let ⟨_, a1, a2⟩ := ha X hX; let ⟨_, b1, b2⟩ := hb X hX
  ⟨_, pe_callBfun cr_gcd (hg.gl hX) (by rw [hX.mg]; exact hm) (pa_cons a1 (pa_cons b1 pa_nil (nb _ _)) (na _ _)) hdb (na _ _) (by rw [nb X.env []]; rfl),
    fun ta F0 H0 σ F H o Q qq => a2 ta F0 H0 σ F H o _ fun v F1 H1 s1 i1 d1 => b2 ta F0 H0 σ F1 H1 (o.step s1 i1) _ fun u F2 H2 s2 i2 d2 => by
      cases d1
      cases d2
      exact ⟨i, j, rfl, qq _ F2 H2 (s1.trans s2) i2 (Dp.int _)⟩⟩

/-! ### isinstance -/
/-- a datum's class -/
def kindD : PD → Option String
  | .none => some "NoneType"
  | .bool _ => some "bool"
  | .int _ => some "int"
  | .str _ => some "str"
  | .list _ => some "list"
  | .tuple _ => some "tuple"
  | .dict _ => none
theorem ty_of {K : PySem.W.Frag} {H : Hp} {v : V} {k : String} (h : Dp K H v d) (hk : kindD d = some k) : TyX K H v (.type k) := by
  cases h with
  | non => cases hk; exact .base .non
  | bl b => cases hk; exact .base (.bl b)
  | int i => cases hk; exact .base (.int i)
  | str x => cases hk; exact .base (.str x)
  | lst hs _ =>
    cases hk
    rcases hs with (z | ⟨o, z⟩) | ⟨o, its, n, z, c, _⟩
    · exact .base (.lst z)
    · exact .base (.frz z)
    · exact .kList z c
  | tup hs _ =>
    cases hk
    rcases hs with (z | ⟨o, z⟩) | ⟨o, its, n, z, c, _⟩
    · exact .base (.tup z)
    · exact .fTuple z
    · exact .kTuple z c
/-- a class's name -/
structure TyN (S : Sta) (x : Str) (T : String) : Prop where
  gl : glb S x
  mg : S.mg x = none
  bt : bootBuiltins x = some (.type T)
  nn : x ≠ "__name__"
  nd : (x == ("__debug__" : Str)) = false
theorem TyN.pe {x : Str} {T : String} (h : TyN S x T) {X : Cx} (hX : Cxs S X) : PE X (.Name x pos) (tC (.ty T)) := pe_bltn (h.gl.gl hX) (by rw [hX.mg]; exact h.mg) h.bt rfl h.nn h.nd
theorem de_isi1 {x : Str} {T k : String} {b : Bool} {p1 : Pos} (h : DE S p e Γ t d t1) (hT : TyN S x T) (hk : kindD d = some k) (hb : kitB k T = some b) (hg : glb S "isinstance") (hm : S.mg "isinstance" = none) (ns : Ns e := by intro _ _; rfl) :
    DE S p (.Call (.Name "isinstance" q) [e, .Name x p1] [] pos) Γ t (.bool b) t1 := fun X hX =>
  let ⟨_, e1, e2⟩ := h X hX
  ⟨_, pe_callB call_isi (hg.gl hX) (by rw [hX.mg]; exact hm) (by decide +kernel) (pa_cons e1 (pa_cons (hT.pe hX) pa_nil rfl) (ns _ _)) (by decide) (by decide) (ns _ _) rfl, fun ta F0 H0 σ F H o Q qq => e2 ta F0 H0 σ F H o _ fun v F1 H1 s1 i1 d1 =>
    ⟨v, .ty T, .type k, .type T, b, rfl, .ty T, ty_of (dp_up s1.fh _ _ d1) hk, kit_ty hb, qq _ F1 H1 s1 i1 (Dp.bl _)⟩⟩
theorem de_isi2 {x y : Str} {T U k : String} {b c r : Bool} {p1 p2 p3 : Pos} {kk} (h : DE S p e Γ t d t1) (hT : TyN S x T) (hU : TyN S y U) (hk : kindD d = some k) (hb : kitB k T = some b) (hc : kitB k U = some c) (hr : (b || c) = r) (hg : glb S "isinstance") (hm : S.mg "isinstance" = none) (ns : Ns e := by intro _ _; rfl) :
    DE S p (.Call (.Name "isinstance" q) [e, .Tuple [.Name x p1, .Name y p2] kk p3] [] pos) Γ t (.bool r) t1 := fun X hX =>
  let ⟨_, e1, e2⟩ := h X hX
  ⟨_, pe_callB call_isiT (hg.gl hX) (by rw [hX.mg]; exact hm) (by decide +kernel) (pa_cons e1 (pa_cons (pe_tup (pa_cons (hT.pe hX) (pa_cons (hU.pe hX) pa_nil rfl) rfl)) pa_nil rfl) (ns _ _)) (by decide) (by decide) (ns _ _) rfl, fun ta F0 H0 σ F H o Q qq => e2 ta F0 H0 σ F H o _ fun v F1 H1 s1 i1 d1 =>
    ⟨by show 2 ≤ sizeLine; decide, fun c2 hc2 => ⟨v, c2, _, .type k, [.type T, .type U], r, rfl, upd_same, .cons (.ty T) (.cons (.ty U) .nil), ty_of (dp_up (s1.trans (Stp.add (p := p) (ta := ta) s1.fh hc2)).fh _ _ d1) hk,
      kitAny_cons (kit_ty hb) (fun z => kitAny_cons (kit_ty hc) (fun w => by rw [z, w] at hr; subst hr; exact kitAny_nil) (fun w => by rw [w] at hr; rw [← hr]; simp)) (fun z => by rw [z] at hr; rw [← hr]; simp),
      qq _ F1 _ (s1.trans (Stp.add s1.fh hc2)) (i1.add hc2) (Dp.bl _)⟩⟩⟩
end
end Sc

/-! SetA -/
set_option Elab.async false
set_option linter.all false
set_option maxRecDepth 100000
/-! Sets of data: set(xs) of a list, whatever its items; then sets of nested keys. -/
namespace Sn
open PySem PySem.Spec PyProof.Rows L2

/-- a set just made -/
abbrev mt (w : World) : Obj := { cls := .type "set", dict := none, data := .set #[] 0 (.fresh 0 0 (!w.params.followText "set-order")) }
abbrev lit (l : Addr) : Obj := { cls := .type "list_iterator", data := .fields #[.ref l, .int 0 0] }
section
variable {P : Program} {w : World} {A : Around} {E : Value → Shared → Prop} {s : Shared}
set_option maxHeartbeats 3200000 in
/-- set(l): what is left to show is the loop that adds l's items -/
theorem set_shell {l : Addr} {items : Array Value} {R : Shared → Prop} {Q : Value → Shared → Prop} (hl : s.heap.IsList l items)
    (loop : ∀ A' : Around, A'.handled = A.handled → A'.units ≤ A.units + 2 →
      codeAny (model P w) A' (.builtin "set.update.loop" ⟨[.ref s.heap.objs.size, .ref (s.heap.push (mt w)).objs.size], []⟩) (fun r s2 => r = .ok (.ret .none) ∧ R s2) { s with heap := (s.heap.push (mt w)).push (lit l) })
    (h : ∀ s2, R s2 → Q (.ref s.heap.objs.size) s2) : wpAny (model P w) A (call (.type "set") [.ref l]) Q E s := by
  obtain ⟨cc, tl, hmro⟩ := F.called_set.mro
  have made := F.called_set.made
  have sub := F.called_set.sub
  refine wpAny_call (codeAny_of_tree ?_)
  show wpAny (model P w) _ (callAny (.type "set") _) _ _ _
  refine wpAny_pure ⟨Code.quiet_builtin _ (by decide +kernel), codeAny_builtin F.entry_type_call ?_⟩
  rw [Around.under_plain (weight_type_call_type "set" [.ref l] []) rfl]
  have n1 := F.called_set.notType
  have n2 := F.called_set.canCreate
  have tc := F.typeCall_set_1 (.ref l)
  repeat (any_goals (first | assumption | wp_step))
  refine codeAny_mono (code_set_led1 (.ref l) (E := E) (Q₁ := fun ob s1 => ob = .ref s.heap.objs.size ∧ s1 = { s with heap := s.heap.push (mt w) }) ⟨rfl, rfl⟩) fun r s1 hr => ?_
  cases r with
  | error _ => exact hr
  | ok fl =>
    cases fl with
    | ret ob =>
      obtain ⟨rfl, rfl⟩ := hr
      have at0 : (s.heap.push (mt w)).get? s.heap.objs.size = some (mt w) := Heap.get?_push_size _ rfl
      have ty0 : Shared.TypeIs { s with heap := s.heap.push (mt w) } (.ref s.heap.objs.size) "set" := ⟨_, at0, rfl⟩
      have il := F.called_set.init.lookup
      have ib := F.called_set.init.bind (.ref s.heap.objs.size)
      repeat (any_goals (first | assumption | wp_step))
      refine codeAny_mono (codeAny_call_builtin (R := wants (fun r s2 => r = .none ∧ R s2) E) F.called_set.init.plain F.entry_set_init (check_set_init_1 ty0 ?_)) fun r2 s2 hr2 => ?_
      · obtain ⟨ol, hol, hcl, nl, hdl⟩ := hl
        obtain ⟨c1, c2, c3, c4⟩ := ol
        simp only at hcl hdl
        subst hcl
        subst hdl
        have hol' : (s.heap.push (mt w)).get? l = some { cls := .type "list", dict := c2, data := .seq items nl, slots := c4 } := Heap.get?_push_of_some _ hol
        have d1 := F.sub_list_set
        have d2 := F.sub_list_frozenset
        have d3 : (Value.type "list" == Value.type "dict") = false := by decide
        have l1 : (s.heap.push (mt w)).IsList l items := ⟨_, hol', rfl, nl, rfl⟩
        unfold Builtin.«set.__init__» noKeywords Builtin.Frozenset.updateFrom
        generalize hPI : pyIter = PI
        wp_walk
        subst hPI
        refine wpAny_pyIter_list l1 ?_
        refine wpAny_bind (wpAny_runValue ?_)
        refine codeAny_mono (loop _ rfl (by show A.units + 1 + 1 ≤ A.units + 2; omega)) fun r3 s3 h3 => ?_
        obtain ⟨rfl, h3⟩ := h3
        show wpAny _ _ _ _ _ _
        refine wpAny_pure ?_
        show wpAny _ _ (ret Value.none) _ _ _
        exact wpAny_pure ⟨rfl, h3⟩
      · cases r2 with
        | error _ => exact hr2
        | ok fl2 =>
          cases fl2 with
          | ret _ =>
            obtain ⟨rfl, q⟩ := hr2
            repeat (any_goals (first | assumption | wp_step))
            exact h _ q
          | _ => exact hr2.elim
    | _ => exact hr.elim
end
end Sn

/-! SetB -/
set_option Elab.async false
set_option linter.all false
set_option maxRecDepth 100000
namespace Sn
open PySem PySem.Spec PyProof.Rows L2

/-! ### ints -/
section
variable {P : Program} {w : World} {A : Around} {E : Value → Shared → Prop} {s : Shared}
theorem lit_ne {h : Heap} {l : Addr} (hl : l < h.objs.size) : l ≠ (h.push (mt w)).objs.size ∧ h.objs.size ∉ [(h.push (mt w)).objs.size, l] := by
  rw [Heap.size_push]
  simp only [List.mem_cons, List.not_mem_nil, or_false, not_or]
  exact ⟨Nat.ne_of_lt (Nat.lt_succ_of_lt hl), Nat.ne_of_lt (Nat.lt_succ_self _), Nat.ne_of_gt hl⟩
theorem kept2 {h h' : Heap} {l : Addr} {G : Array GenState → Array GenState → Prop} {s1 s2 : Shared} (e : s1.heap = (h.push (mt w)).push (lit l)) (hm : Moved (h.objs.size :: [(h.push (mt w)).objs.size]) G s1 s2) :
    ∀ b o, h.get? b = some o → s2.heap.get? b = some o := fun b o q => by
  have hb : b < h.objs.size := Heap.lt_size q
  refine hm.heap b o ?_ (by rw [e]; exact Heap.get?_push_of_some _ (Heap.get?_push_of_some _ q))
  rw [Heap.size_push]
  simp only [List.mem_cons, List.not_mem_nil, or_false, not_or]
  exact ⟨Nat.ne_of_lt hb, Nat.ne_of_lt (Nat.lt_succ_of_lt hb)⟩
/-- set(l), l a list of ints -/
theorem set_ints {l : Addr} {items : Array Value} (ns : List Int) {Q : Value → Shared → Prop} (hh : A.handled = none) (hl : s.heap.IsList l items) (hit : IntsAre items.toList ns) (hb : ns.length + 1 < scanBound)
    (h : ∀ (h' : Heap) (tk c : Nat), SetR w h' s.heap.objs.size (fun j => decide (j ∈ ns)) c → c ≤ ns.length → (∀ b o, s.heap.get? b = some o → h'.get? b = some o) → Q (.ref s.heap.objs.size) { s with heap := h', toks := tk }) :
    wpAny (model P w) A (call (.type "set") [.ref l]) Q E s := by
  have sz : items.size = ns.length := by
    have q := IntsAre.length hit
    rw [Array.length_toList] at q
    exact q
  have hlS : l < s.heap.objs.size := by
    obtain ⟨o, ho, _⟩ := hl
    exact Heap.lt_size ho
  obtain ⟨n1, n2⟩ := lit_ne (w := w) hlS
  refine set_shell (R := fun s2 => ∃ h' tk c, s2 = { s with heap := h', toks := tk } ∧ SetR w h' s.heap.objs.size (fun j => decide (j ∈ ns)) c ∧ c ≤ ns.length ∧ ∀ b o, s.heap.get? b = some o → h'.get? b = some o) hl (fun A' e1 _ => ?_) fun s2 ⟨h', tk, c, e, q1, q2, q3⟩ => by rw [e]; exact h h' tk c q1 q2 q3
  have l1 : (s.heap.push (mt w)).IsList l items := hl.push _
  refine set_update_ints ((Walks.list (by show A'.handled = none; rw [e1]; exact hh) _ l n1 items).toS) s.heap.objs.size n2 ns sz hb (fun i v hv => ?_) (items.size - 0) 0 _ (by omega) (Nat.zero_le _)
    ⟨⟨_, Heap.get?_push_size _ rfl, rfl, rfl⟩, l1.push _⟩ ⟨0, Nat.le_refl 0, setR_new_at (Heap.get?_push_of_some _ (Heap.get?_push_size _ rfl))⟩ fun s2 c hm hc hS => ?_
  · have hi : i < ns.length := by rw [← sz]; exact (Array.getElem?_eq_some_iff.mp hv).1
    obtain ⟨t, e⟩ := PyProof.Rows.IntsAre.int_at hit i v (by rw [Array.getElem?_toList]; exact hv)
    exact ⟨ns[i], t, List.getElem?_eq_getElem hi, by rw [e, List.getD_eq_getElem?_getD, List.getElem?_eq_getElem hi] <;> rfl⟩
  · refine ⟨rfl, s2.heap, s2.toks, c, ?_, hS, by rw [← sz]; exact hc, kept2 (h' := s2.heap) rfl hm⟩
    obtain ⟨h', g2, d', tk', os'⟩ := s2
    have eg : g2 = s.gens := hm.gens
    have ed : d' = s.drawn := hm.drawn
    have eo : os' = s.os := hm.os
    rw [eg, ed, eo]
end
section
variable {X : Cx}
/-- set(xs), xs a list of ints -/
def rSetI (K : PySem.W.Frag) (w : World) : List V → Hp → VK → Prop := fun xs H Q => ∃ (l : Addr) (ns : List Int), xs = [V.ref l] ∧ SqL K H l (ns.map V.int) ∧ ns.length < 4000 ∧
  ∀ a c, H a = none → c ≤ ns.length → Q (.ref a) (upd H a (SetO w a (fun j => decide (j ∈ ns)) c))
theorem cr_setI (hc : X.calm = true) : CallR X (.type "set") (rSetI X.K X.w) := by
  intro pins s σ H xs us Q I r h
  obtain ⟨l, ns, rfl, hl, hz, q⟩ := h
  rw [Vals.ref1 r]
  obtain ⟨its, rv, pl, _⟩ := I.list hl
  have hn : H s.heap.objs.size = none := I.hok.fresh (Nat.le_refl _)
  refine set_ints (P := X.prog) (w := X.w) ns (I.ok.hd hc) pl.isList (by simpa using rv.ints) (by unfold scanBound; omega) fun h' tk c R hc k => ?_
  exact ⟨.ref s.heap.objs.size, upd H s.heap.objs.size (SetO X.w s.heap.objs.size _ c), I.laid (t' := tk) k (Nat.le_refl _) (setO_new R), rfl, q _ c hn hc⟩
end
end Sn
namespace Sc
open PySem PySem.Spec PyProof.Rows L2 Evl
section
variable {S : Sta} {p : Bool} {e a b : Expr} {Γ : List En} {t t1 t2 : Tn} {d : PD} {ds : List PD} {pos q q2 pos2 : Pos}
/-- sorted(set(xs)) of ints: es is the one list that rises and has the same members -/
theorem dn_sortI {ns es : List Int} (h : DQ S p e Γ t true (ns.map PyData.int) t1) (hz : ns.length < 64) (h1 : es.Pairwise (· < ·)) (h2 : ∀ k, k ∈ es ↔ k ∈ ns) (hg : glb S "sorted") (hm : S.mg "sorted" = none) (hg2 : glb S "set") (hm2 : S.mg "set" = none) (ns1 : Ns e := by intro _ _; rfl) :
    DN S p (.Call (.Name "sorted" q) [.Call (.Name "set" q2) [e] [] pos2] [] pos) Γ t (es.map PyData.int) t1 := fun X hX =>
  let ⟨_, e1, e2⟩ := h X hX
  ⟨_, pe_callB (cr_sortedSet hX.calm) (hg.gl hX) (by rw [hX.mg]; exact hm) (by decide +kernel) (pa_cons (pe_callTy (Sn.cr_setI hX.calm) (hg2.gl hX) (by rw [hX.mg]; exact hm2) (by decide +kernel) (pa_cons e1 pa_nil (ns1 _ _)) (by decide) (by decide) (ns1 _ _) (da_ne ns1 nss0)) pa_nil rfl) (by decide) (by decide) rfl rfl,
    fun ta F0 H0 σ F H o Q qq => e2 ta F0 H0 σ F H o _ fun x vs F1 H1 s1 i1 hs hd => by
      have z := hs F1 H1 (Stp.refl s1.fh)
      rw [if_pos rfl, dps_ints hd] at z
      refine ⟨x, ns, rfl, z, by omega, fun a c ha hc => ?_⟩
      have s2 : Stp p ta F1 H1 F1 (upd H1 a (SetO X.w a (fun j => decide (j ∈ ns)) c)) := Stp.add s1.fh ha
      refine ⟨a, _, c, rfl, upd_same, by omega, fun ns' l g1 g2 g3 hl => ?_⟩
      have ee : ns' = es := by
        refine List.Perm.eq_of_pairwise (le := (· < ·)) (fun a b _ _ x y => by omega) g1 h1 ?_
        refine (List.perm_ext_iff_of_nodup (g1.imp fun h => by omega) (h1.imp fun h => by omega)).mpr fun k => ?_
        rw [g2 k, h2 k, decide_eq_true_eq]
      subst ee
      have s3 : Stp p ta F1 (upd H1 a (SetO X.w a (fun j => decide (j ∈ ns)) c)) F1 (upd (upd H1 a (SetO X.w a (fun j => decide (j ∈ ns)) c)) l (.lst (ns'.map V.int))) := Stp.add s2.fh hl
      have s13 := (s1.trans s2).trans s3
      have dpI : ∀ ks : List Int, DpAll X.K F1 (ks.map V.int) (ks.map PyData.int) := fun ks => by
        induction ks with
        | nil => exact .nil
        | cons k ks ih => exact .cons (.int k) ih
      exact qq l _ F1 _ s13 ((i1.add ha).add hl) (fresh0 (s1.trans s2) hl) (fresh_back s2.fh hl) upd_same (dpI ns')⟩
end
end Sc

/-! SetC -/
set_option Elab.async false
set_option linter.all false
set_option maxRecDepth 100000
namespace Sn
open PySem PySem.Spec PyProof.Rows L2

/-! ### nested keys: what the model asks of them -/
/-- a tuple at a that is the key k -/
def IsN (h : Heap) (k : NestedKey) (a : Addr) : Prop := NestedIs h k (.ref a) ∧ k.depth ≤ 8
theorem IsN.keep {h h' : Heap} {k : NestedKey} {a : Addr} (x : IsN h k a) (hk : ∀ b o, h.get? b = some o → h'.get? b = some o) : IsN h' k a :=
  ⟨NestedIs.at (fun b o _ _ e _ => hk b o e) k _ x.1, x.2⟩
theorem IsN.but {h h' : Heap} {k : NestedKey} {a b : Addr} {o : Obj} {es : Array (Int × Value)} {ep : Nat} {t : SetTable} (x : IsN h k b) (ho : h.get? a = some o) (hd : o.data = .set es ep t) (hs : Heap.SameBut a h h') : IsN h' k b :=
  ⟨NestedIs.at (fun c ob vs n e1 e2 => (hs.2 c fun z => by
    rw [z, ho] at e1
    cases e1
    rw [hd] at e2
    cases e2).trans e1) k _ x.1, x.2⟩
section
variable (P : Program) (w : World)
def OfA (n : Nat) (s : Shared) (v : Value) : Prop := ∀ (A : Around) (E : Value → Shared → Prop) (Q : Bool → Shared → Prop), Q false s → wpAny (model P w) A (ofAClassStatement n v) Q E s
def HbV (n : Nat) (s : Shared) (v : Value) : Prop := ∀ (A : Around) (E : Value → Shared → Prop) (Q : Bool → Shared → Prop), (∀ b, Q b s) → wpAny (model P w) A (hashByValue n v) Q E s
end
section
variable {P : Program} {w : World}
theorem ofA_flat {n : Nat} {s : Shared} {v : Value} (h : ∀ a, v ≠ .ref a) : OfA P w n s v := fun A E Q q => by
  have e : ofAClassStatement n v = pure false := by
    cases n <;> cases v <;> first | rfl | exact absurd rfl (h _)
  rw [e]
  exact wpAny_pure q
theorem ofA_tup {n : Nat} {s : Shared} {a : Addr} {o : Obj} {vs : Array Value} {m : Nat} (ho : s.heap.get? a = some o) (hc : o.cls = .type "tuple") (hd : o.data = .seq vs m) (hq : ∀ v ∈ vs.toList, OfA P w n s v) : OfA P w (n + 1) s (.ref a) := fun A E Q q => by
  have hT : s.TypeIs (.ref a) "tuple" := ⟨o, ho, hc⟩
  unfold ofAClassStatement
  refine wpAny_bind (wpAny_typeOf hT ?_)
  dsimp only
  simp only [show (("tuple" : String) == "tuple") = true by decide, if_true, Bool.not_true, Bool.false_eq_true, if_false]
  try refine wpAny_bind (wpAny_pure ?_)
  try simp only [Bool.not_true, Bool.false_eq_true, if_false]
  show wpAny (model P w) A (seqItems? (.ref a) >>= _) Q E s
  refine wpAny_bind (wpAny_seqItems ho hd ?_)
  dsimp only
  refine wpAny_bind ?_
  show wpAny (model P w) A (forIn vs _ _) _ _ s
  rw [← Array.forIn_toList]
  refine wpAny_forIn_list _ (fun rest r s1 => r.1 = none ∧ s1 = s ∧ ∀ v ∈ rest, OfA P w n s v) _ (fun v rest r s1 ⟨hr, e, hall⟩ => ?_) (fun r s1 ⟨hr, e, _⟩ => ?_) _ _ ⟨rfl, rfl, hq⟩
  · subst e
    refine wpAny_bind (hall v List.mem_cons_self _ _ _ ?_)
    simp only [Bool.false_eq_true, if_false]
    exact wpAny_pure ⟨rfl, rfl, fun u hu => hall u (List.mem_cons_of_mem _ hu)⟩
  · subst e
    obtain ⟨r1, r2⟩ := r
    simp only at hr
    subst hr
    exact wpAny_pure q
theorem hbv_flat {n : Nat} {s : Shared} {v : Value} (h : (∃ b, hashByValue n v = pure b)) : HbV P w n s v := fun A E Q q => by
  obtain ⟨b, e⟩ := h
  rw [e]
  exact wpAny_pure (q b)
theorem hbv_tup {n : Nat} {s : Shared} {a : Addr} {o : Obj} {vs : Array Value} {m : Nat} (ho : s.heap.get? a = some o) (hc : o.cls = .type "tuple") (hd : o.data = .seq vs m) (hq : ∀ v ∈ vs.toList, HbV P w n s v) : HbV P w (n + 1) s (.ref a) := fun A E Q q => by
  have hT : s.TypeIs (.ref a) "tuple" := ⟨o, ho, hc⟩
  unfold hashByValue
  refine wpAny_bind (wpAny_specialOf hT F.slot_tuple_hash.lookup ?_)
  show wpAny (model P w) A (seqItems? (.ref a) >>= _) Q E s
  refine wpAny_bind (wpAny_seqItems ho hd ?_)
  refine wpAny_bind ?_
  show wpAny (model P w) A (forIn vs _ _) _ _ s
  rw [← Array.forIn_toList]
  refine wpAny_forIn_list _ (fun rest r s1 => r.1 = none ∧ s1 = s ∧ ∀ v ∈ rest, HbV P w n s v) _ (fun v rest r s1 ⟨hr, e, hall⟩ => ?_) (fun r s1 ⟨hr, e, _⟩ => ?_) _ _ ⟨rfl, rfl, hq⟩
  · subst e
    refine wpAny_bind (hall v List.mem_cons_self _ _ _ fun b => ?_)
    cases b with
    | true =>
      simp only [Bool.not_true, Bool.false_eq_true, if_false]
      exact wpAny_pure ⟨rfl, rfl, fun u hu => hall u (List.mem_cons_of_mem _ hu)⟩
    | false =>
      simp only [Bool.not_false, if_true]
      exact wpAny_pure (wpAny_pure (q false))
  · subst e
    obtain ⟨r1, r2⟩ := r
    simp only at hr
    subst hr
    exact wpAny_pure (q true)
mutual
theorem ofA_key : ∀ (k : NestedKey) (v : Value) (n : Nat) (s : Shared), NestedIs s.heap k v → k.depth ≤ n → OfA P w n s v
  | .none, _, n, s, x, _ => by cases x; exact ofA_flat fun _ z => nomatch z
  | .num i, _, n, s, x, _ => by cases x <;> exact ofA_flat fun _ z => nomatch z
  | .text y, _, n, s, x, _ => by cases x; exact ofA_flat fun _ z => nomatch z
  | .tup ks, _, n, s, x, hn => by
    cases x with
    | tup hg hc hd hk =>
      simp only [NestedKey.depth] at hn
      cases n with
      | zero => omega
      | succ n => exact ofA_tup hg hc hd (ofA_keys ks _ n s hk (by omega))
theorem ofA_keys : ∀ (ks : List NestedKey) (vs : List Value) (n : Nat) (s : Shared), NestedAll s.heap ks vs → NestedKey.depthAll ks ≤ n → ∀ v ∈ vs, OfA P w n s v
  | [], _, n, s, x, _, v, hv => by cases x; cases hv
  | k :: ks, _, n, s, x, hn, v, hv => by
    cases x with
    | cons x1 x2 =>
      simp only [NestedKey.depthAll] at hn
      rcases List.mem_cons.mp hv with e | hv
      · rw [e]; exact ofA_key k _ n s x1 (by omega)
      · exact ofA_keys ks _ n s x2 (by omega) v hv
end
mutual
theorem hbv_key : ∀ (k : NestedKey) (v : Value) (n : Nat) (s : Shared), NestedIs s.heap k v → k.depth ≤ n → HbV P w n s v
  | .none, _, n, s, x, _ => by cases x; exact hbv_flat ⟨true, by cases n <;> rfl⟩
  | .num i, _, n, s, x, _ => by cases x <;> exact hbv_flat ⟨true, by cases n <;> rfl⟩
  | .text y, _, n, s, x, _ => by cases x; exact hbv_flat ⟨false, by cases n <;> rfl⟩
  | .tup ks, _, n, s, x, hn => by
    cases x with
    | tup hg hc hd hk =>
      simp only [NestedKey.depth] at hn
      cases n with
      | zero => omega
      | succ n => exact hbv_tup hg hc hd (hbv_keys ks _ n s hk (by omega))
theorem hbv_keys : ∀ (ks : List NestedKey) (vs : List Value) (n : Nat) (s : Shared), NestedAll s.heap ks vs → NestedKey.depthAll ks ≤ n → ∀ v ∈ vs, HbV P w n s v
  | [], _, n, s, x, _, v, hv => by cases x; cases hv
  | k :: ks, _, n, s, x, hn, v, hv => by
    cases x with
    | cons x1 x2 =>
      simp only [NestedKey.depthAll] at hn
      rcases List.mem_cons.mp hv with e | hv
      · rw [e]; exact hbv_key k _ n s x1 (by omega)
      · exact hbv_keys ks _ n s x2 (by omega) v hv
end
variable {A : Around} {E : Value → Shared → Prop} {s : Shared}
/-- a search among such keys shows nothing -/
theorem seen_none {k : NestedKey} {b : Addr} {Q : Bool → Shared → Prop} (hk : IsN s.heap k b) {ys : List Value} (hy : ∀ y ∈ ys, ∃ j c, y = Value.ref c ∧ IsN s.heap j c) (q : Q false s) : wpAny (model P w) A (searchCouldBeSeen (.ref b) ys) Q E s := by
  unfold searchCouldBeSeen
  refine wpAny_bind ?_
  refine wpAny_forIn_list _ (fun rest r s1 => r.1 = none ∧ s1 = s ∧ ∀ y ∈ rest, ∃ j c, y = Value.ref c ∧ IsN s.heap j c) _ (fun v rest r s1 ⟨hr, e, hall⟩ => ?_) (fun r s1 ⟨hr, e, _⟩ => ?_) _ _ ⟨rfl, rfl, hy⟩
  · subst e
    obtain ⟨j, c, rfl, hc⟩ := hall v List.mem_cons_self
    have more : ∀ y ∈ rest, ∃ j c, y = Value.ref c ∧ IsN s1.heap j c := fun u hu => hall u (List.mem_cons_of_mem _ hu)
    dsimp only
    by_cases hv : (b == c || (carriedByValue (.ref b) && carriedByValue (.ref c))) = true
    · exact wp_if_pos hv (wpAny_pure ⟨rfl, rfl, more⟩)
    · refine wp_if_neg hv ?_
      refine wpAny_bind ((nestedKind P w).quiet hk ?_)
      simp only [Bool.not_true, Bool.false_eq_true, if_false]
      refine wpAny_bind ((nestedKind P w).quiet hc ?_)
      simp only [Bool.not_true, Bool.false_eq_true, if_false]
      refine wpAny_bind (ofA_key k _ 8 s1 hk.1 hk.2 _ _ _ ?_)
      simp only [Bool.false_eq_true, if_false]
      refine wpAny_bind (ofA_key j _ 8 s1 hc.1 hc.2 _ _ _ ?_)
      simp only [Bool.false_eq_true, if_false]
      exact wpAny_pure ⟨rfl, rfl, more⟩
  · subst e
    obtain ⟨r1, r2⟩ := r
    simp only at hr
    subst hr
    exact wpAny_pure q
end
end Sn

/-! SetD -/
set_option Elab.async false
set_option linter.all false
set_option maxRecDepth 100000
namespace Sn
open PySem PySem.Spec PyProof.Rows L2

/-! ### a set of nested keys -/
abbrev Row := Addr × NestedKey
abbrev rh (w : World) (p : Row) : Int := p.2.hash w
def rws (w : World) (L : List Row) : List (Int × Value) := L.map fun p => (rh w p, Value.ref p.1)
structure SetN (w : World) (h : Heap) (a : Addr) (L : List Row) (es : Array (Int × Value)) (ep : Nat) (t : SetTable) : Prop where
  ob : ∃ o, h.get? a = some o ∧ o.ExactSet ∧ o.data = .set es ep t
  rows : es.toList = rws w L
  tab : TabOk t (L.map (rh w))
  nd : (L.map (·.2)).Nodup
  key : ∀ p ∈ L, IsN h p.2 p.1
  led : w.params.followText "set-order" = true ∨ t.led = true
  room : L.length * 5 < t.mask * 3
  few : L.length < 64
section
variable {P : Program} {w : World} {A : Around} {E : Value → Shared → Prop} {s : Shared} {a : Addr} {L : List Row} {es : Array (Int × Value)} {ep : Nat} {t : SetTable} {h : Heap}
theorem rws_len (L : List Row) : (rws w L).length = L.length := List.length_map _
theorem SetN.sz (R : SetN w h a L es ep t) : es.size = L.length := by
  rw [← Array.length_toList, R.rows, rws_len]
theorem SetN.fits (R : SetN w h a L es ep t) : t.fits es.size = true := by
  have z1 : t.place.size = L.length := by rw [R.tab.sz, List.length_map]
  have z2 := R.sz
  have z3 := R.room
  unfold SetTable.fits SetTable.fill
  rw [R.tab.dm, Bool.and_eq_true, beq_iff_eq, decide_eq_true_eq]
  exact ⟨by omega, by show t.place.size + 0 ≤ t.mask; omega⟩
theorem SetN.at (R : SetN w h a L es ep t) {i : Nat} {p : Row} (e : L[i]? = some p) : es[i]? = some (rh w p, Value.ref p.1) := by
  rw [← Array.getElem?_toList, R.rows]
  unfold rws
  rw [List.getElem?_map, e]
  rfl
theorem SetN.whole (R : SetN w h a L es ep t) : ¬ t.gaveWay = true := by
  unfold SetTable.gaveWay
  rw [mask_odd R.tab.mok]
  decide
/-- the way of a hash, from its start -/
abbrev pth (m : Nat) (x : Int) (c : Nat) : SetTable.Probe := nth m (runAt m (SetTable.bits x % (m + 1)) (SetTable.bits x)) c
theorem pth_more (m : Nat) (x : Int) (c q : Nat) : nth m (pth m x c) q = pth m x (c + q) := (nth_add m c _ q).symm
theorem pth_dm (m : Nat) (x : Int) : ∀ c, (pth m x c).dummy = none := by
  have key : ∀ (n : Nat) (p : SetTable.Probe), p.dummy = none → (nth m p n).dummy = none := by
    intro n
    induction n with
    | zero => exact fun p e => e
    | succ n ih =>
      intro p e
      refine ih (adv m p) ?_
      unfold adv
      split <;> exact e
  exact fun c => key c _ rfl

set_option maxHeartbeats 1000000 in
/-- the search for a key, from the c-th step of its way on -/
theorem find_from (R : SetN w s.heap a L es ep t) {x : Addr} {k : NestedKey} (hx : IsN s.heap k x) (hu : A.units + 8 < cLine) {N : Nat} (hN : N < 10 * SetTable.turns t.mask) (hfree : way t.mask (k.hash w) N ∉ t.place.toList)
    (htaken : ∀ c, c < N → way t.mask (k.hash w) c ∈ t.place.toList) {Q : SetFound → Shared → Prop} (yes : k ∈ L.map (·.2) → Q (.there none) s) (no : k ∉ L.map (·.2) → Q (.free (way t.mask (k.hash w) N) false) s) :
    ∀ (f c : Nat) (stand : Option SetTable.Probe), stand.getD (t.probeStart (k.hash w)) = pth t.mask (k.hash w) c → c ≤ N → N - c < f →
      (∀ (i : Nat) p, L[i]? = some p → p.2 = k → ∃ c', c ≤ c' ∧ c' < N ∧ t.place.toList[i]? = some (way t.mask (k.hash w) c')) →
      wpAny (model P w) A (setSearchFrom a (.ref x) (k.hash w) true f stand) Q E s
  | 0, c, stand, _, _, hf, _ => absurd hf (Nat.not_lt_zero _)
  | f + 1, c, stand, hst, hc, hf, hre => by
    obtain ⟨o, ho, hex, hd⟩ := R.ob
    rw [setSearchFrom_succ]
    refine wpAny_bind (wpAny_setState_of ho hd R.fits ?_)
    dsimp only
    refine wp_if_neg R.whole ?_
    try refine wpAny_bind (wpAny_pure ?_)
    have wy : ∀ q, (nth t.mask (pth t.mask (k.hash w) c) q).j = way t.mask (k.hash w) (c + q) := fun q => by rw [pth_more]
    have cN : c + (N - c) = N := by omega
    have spec := go_spec t R.tab.ris R.tab.dm (fun i => (es[i]?.map (·.1)).getD 0) (k.hash w) (10 * SetTable.turns t.mask) (N - c) (pth t.mask (k.hash w) c) (pth_dm _ _ c) (by omega)
      (fun q hq => by rw [wy]; exact htaken (c + q) (by omega)) (by rw [wy, cN]; exact hfree)
    have hashOf : ∀ (i : Nat) p, L[i]? = some p → (fun i => (es[i]?.map (·.1)).getD 0) i = rh w p := fun i p hp => by
      show (es[i]?.map (·.1)).getD 0 = _
      rw [R.at hp]
      rfl
    rcases spec with ⟨q, i, hq, hi, hh, hno, hpr⟩ | ⟨hno, hpr⟩
    · -- a candidate
      rw [hst]
      have hpr2 : t.probe (fun i => (es[i]?.map (·.1)).getD 0) (k.hash w) (pth t.mask (k.hash w) c) = some (.candidate (way t.mask (k.hash w) (c + q)) i (pth t.mask (k.hash w) (c + (q + 1)))) := by
        rw [← wy, ← pth_more]
        exact hpr
      rw [hpr2]
      dsimp only
      rw [wy] at hi
      have il : i < L.length := by
        have y1 := (List.getElem?_eq_some_iff.mp hi).1
        have y2 := R.tab.sz
        rw [List.length_map] at y2
        rw [Array.length_toList] at y1
        omega
      obtain ⟨p, hp⟩ : ∃ p, L[i]? = some p := ⟨_, List.getElem?_eq_getElem il⟩
      have hmem : p ∈ L := List.mem_of_getElem? hp
      have slot0 : t.slot (way t.mask (k.hash w) (c + q)) = .live i := slot_live R.tab.ris hi
      have go : wpAny (model P w) A (searchRest a (.ref x) (k.hash w) true f es t (way t.mask (k.hash w) (c + q)) i (pth t.mask (k.hash w) (c + (q + 1)))) Q E s := by
        unfold searchRest
        rw [R.at hp]
        dsimp only
        refine wpAny_bind (wpAny_holding ((nestedKind P w).eqBool hu (R.key p hmem) hx ?_))
        refine wpAny_bind (wpAny_setState_of ho hd R.fits ?_)
        dsimp only
        by_cases hkk : p.2 = k
        · refine wp_if_pos (by simp [hkk]) ?_
          exact wpAny_pure (yes (List.mem_map.mpr ⟨p, hmem, hkk⟩))
        · refine wp_if_neg (by simp [hkk]) ?_
          try refine wpAny_bind (wpAny_pure ?_)
          rw [sameMem]
          dsimp only
          simp only [if_true, slot0, R.at hp]
          refine wpAny_bind (wpAny_isSame_ref_self (wpAny_bind (wpAny_pure ?_)))
          simp only [if_true]
          refine wp_if_neg (by simp [hkk]) ?_
          refine find_from R hx hu hN hfree htaken yes no f (c + (q + 1)) _ rfl (by omega) (by omega) fun i0 p0 h0 hk0 => ?_
          obtain ⟨c', b1, b2, b3⟩ := hre i0 p0 h0 hk0
          refine ⟨c', ?_, b2, b3⟩
          rcases Nat.lt_trichotomy c' (c + q) with z | z | z
          · exfalso
            have e0 : c + (c' - c) = c' := by omega
            exact hno (c' - c) i0 (by omega) (by rw [wy, e0]; exact b3) ((hashOf i0 p0 h0).trans (by show p0.2.hash w = _; rw [hk0]))
          · exfalso
            rw [z] at b3
            have s0 := slot_live R.tab.ris b3
            rw [slot0] at s0
            injection s0 with s0
            rw [← s0, hp] at h0
            cases h0
            exact hkk hk0
          · omega
      by_cases hl : t.led = true
      · refine wp_if_neg (by simp [hl]) ?_
        try refine wpAny_bind (wpAny_pure ?_)
        exact go
      · refine wp_if_pos (by simp [hl]) ?_
        refine wpAny_bind (seen_none hx (fun y hy => ?_) ?_)
        · obtain ⟨e, he, ee⟩ := List.mem_map.mp hy
          have m1 : e ∈ es.toList := by
            have m0 : e ∈ es ∧ e.1 = k.hash w := by simpa using he
            simpa using m0.1
          rw [R.rows] at m1
          obtain ⟨p2, hp2, e2⟩ := List.mem_map.mp m1
          exact ⟨p2.2, p2.1, by rw [← ee, ← e2], R.key p2 hp2⟩
        · refine wp_if_neg (by decide) ?_
          try refine wpAny_bind (wpAny_pure ?_)
          exact go
    · -- the empty slot
      rw [hst]
      have hpr2 : t.probe (fun i => (es[i]?.map (·.1)).getD 0) (k.hash w) (pth t.mask (k.hash w) c) = some (.empty (way t.mask (k.hash w) N) none) := by
        have e2 : way t.mask (k.hash w) N = (nth t.mask (pth t.mask (k.hash w) c) (N - c)).j := by rw [wy, cN]
        rw [e2]
        exact hpr
      rw [hpr2]
      dsimp only
      refine wpAny_pure (no fun hm => ?_)
      obtain ⟨p0, h0, hk0⟩ := List.mem_map.mp hm
      obtain ⟨i0, hi0⟩ := List.mem_iff_getElem?.mp h0
      obtain ⟨c', b1, b2, b3⟩ := hre i0 p0 hi0 hk0
      have e0 : c + (c' - c) = c' := by omega
      exact hno (c' - c) i0 (by omega) (by rw [wy, e0]; exact b3) ((hashOf i0 p0 hi0).trans (by show p0.2.hash w = _; rw [hk0]))
/-- the search as adding asks for it -/
theorem find_at (R : SetN w s.heap a L es ep t) {x : Addr} {k : NestedKey} (hx : IsN s.heap k x) (hu : A.units + 8 < cLine) {Q : SetFound → Shared → Prop} (yes : k ∈ L.map (·.2) → Q (.there none) s)
    (no : ∀ N, k ∉ L.map (·.2) → way t.mask (k.hash w) N ∉ t.place.toList → (∀ c, c < N → way t.mask (k.hash w) c ∈ t.place.toList) → Q (.free (way t.mask (k.hash w) N) false) s) :
    wpAny (model P w) A (setSearch a (.ref x) (k.hash w) true) Q E s := by
  have rm := R.room
  obtain ⟨N, hN, hfree, htaken⟩ := R.tab.first (by rw [List.length_map]; omega) (k.hash w)
  have big : N < 100000 := by
    have : 10 * SetTable.turns t.mask ≤ 1420 := by
      unfold SetTable.turns
      rcases R.tab.mok with e | e | e <;> omega
    omega
  unfold setSearch
  refine find_from R hx hu hN hfree htaken yes (fun hn => no N hn hfree htaken) 100000 0 none rfl (Nat.zero_le _) (by omega) fun i p hp hk => ?_
  have hi : (L.map (rh w))[i]? = some (k.hash w) := by
    rw [List.getElem?_map, hp, ← hk]
    rfl
  obtain ⟨j, hj⟩ : ∃ j, t.place.toList[i]? = some j := by
    have y1 : i < L.length := (List.getElem?_eq_some_iff.mp hp).1
    have y2 := R.tab.sz
    rw [List.length_map] at y2
    exact ⟨_, List.getElem?_eq_getElem (by rw [Array.length_toList]; omega)⟩
  obtain ⟨c, hc, e⟩ := R.tab.before hfree hi hj
  exact ⟨c, Nat.zero_le _, hc, by rw [hj, e]⟩
end
end Sn

/-! SetE -/
set_option Elab.async false
set_option linter.all false
set_option maxRecDepth 100000
namespace Sn
open PySem PySem.Spec PyProof.Rows L2

section
variable {P : Program} {w : World} {A : Around} {E : Value → Shared → Prop} {s : Shared} {a : Addr} {L : List Row} {es : Array (Int × Value)} {ep : Nat} {t : SetTable}
theorem rws_ins (L : List Row) (n : Nat) (r : Row) : rws w (L.take n ++ r :: L.drop n) = (rws w L).take n ++ (rh w r, Value.ref r.1) :: (rws w L).drop n := by
  unfold rws
  rw [List.map_append, List.map_cons, List.map_take, List.map_drop]
/-- the rows taken in another order -/
theorem reorder (L : List Row) (es : Array (Int × Value)) (order : Array Nat) (hr : es.toList = rws w L) (hp : order.toList.Perm (List.range L.length)) :
    ∃ M, (order.filterMap (es[·]?)).toList = rws w M ∧ M.Perm L ∧ M.map (rh w) = order.toList.map fun i => (es.map (·.1)).getD i 0 := by
  have sz : es.size = L.length := by rw [← Array.length_toList, hr, rws_len]
  have ent : ∀ i (h : i < L.length), es[i]? = some (rh w L[i], Value.ref (L[i]).1) := fun i h => by
    rw [← Array.getElem?_toList, hr]
    unfold rws
    rw [List.getElem?_map, List.getElem?_eq_getElem h]
    rfl
  have key : ∀ l : List Nat, (∀ i ∈ l, i < L.length) → l.filterMap (fun i => es[i]?) = rws w (l.filterMap fun i => L[i]?) ∧ (l.filterMap fun i => L[i]?).map (rh w) = l.map fun i => (es.map (·.1)).getD i 0 := by
    intro l
    induction l with
    | nil => exact fun _ => ⟨rfl, rfl⟩
    | cons i l ih =>
      intro hl
      have hi := hl i List.mem_cons_self
      obtain ⟨e1, e2⟩ := ih fun j hj => hl j (List.mem_cons_of_mem _ hj)
      have g : (es.map (·.1))[i]? = some (rh w L[i]) := by rw [Array.getElem?_map, ent i hi]; rfl
      have g2 : (es.map (·.1)).getD i 0 = rh w L[i] := by simp [Array.getD_eq_getD_getElem?, g]
      rw [List.filterMap_cons_some (ent i hi), List.filterMap_cons_some (List.getElem?_eq_getElem hi), e1, List.map_cons, List.map_cons, e2, g2]
      exact ⟨rfl, rfl⟩
  obtain ⟨e1, e2⟩ := key order.toList fun i hi => List.mem_range.mp (hp.mem_iff.mp hi)
  refine ⟨order.toList.filterMap fun i => L[i]?, by first | (rw [Array.toList_filterMap]; exact e1) | simpa using e1, ?_, e2⟩
  have z1 : (List.range L.length).filterMap (fun i => L[i]?) = L := by
    have st : ∀ n, n ≤ L.length → (List.range n).filterMap (fun i => L[i]?) = L.take n := by
      intro n
      induction n with
      | zero => exact fun _ => rfl
      | succ n ih =>
        intro hn
        have hlt : n < L.length := hn
        rw [List.range_succ, List.filterMap_append, ih (Nat.le_of_lt hlt), List.take_succ, List.getElem?_eq_getElem hlt, List.filterMap_cons_some (List.getElem?_eq_getElem hlt)]
        rfl
    rw [st L.length (Nat.le_refl _), List.take_length]
  have z2 := hp.filterMap fun i => L[i]?
  rw [z1] at z2
  exact z2

/-- the table laid anew, larger -/
theorem relay {o : Obj} (ho : s.heap.get? a = some o) (hex : o.ExactSet) (hd : o.data = .set es ep t) (hr : es.toList = rws w L) (hsz : t.place.size = es.size) (hdm : t.dummies = #[]) (hfl : es.size ≤ t.mask)
    (nd : (L.map (·.2)).Nodup) (key : ∀ p ∈ L, IsN s.heap p.2 p.1) (ld : w.params.followText "set-order" = true ∨ t.led = true) (few : L.length < 64) {wanted M : Nat}
    (hw : SetTable.sizeAbove wanted - 1 = M) (hM : MaskOk M) (hw2 : SetTable.sizeAbove wanted ≤ 128) (hn : L.length * 5 < M * 3) {Q : Unit → Shared → Prop}
    (hQ : ∀ h' L' es' ep' t', Heap.SameBut a s.heap h' → SetN w h' a L' es' ep' t' → L'.Perm L → Q () { s with heap := h' }) : wpAny (model P w) A (setRelay a wanted) Q E s := by
  have sz : es.size = L.length := by rw [← Array.length_toList, hr, rws_len]
  have ft : t.fits es.size = true := by
    unfold SetTable.fits SetTable.fill
    rw [hdm, Bool.and_eq_true, beq_iff_eq, decide_eq_true_eq]
    exact ⟨hsz, by show t.place.size + 0 ≤ t.mask; omega⟩
  obtain ⟨t2, order, e, hp, T, em, el, _, ed⟩ := relaid_ok t (hs := es.map (·.1)) (wanted := wanted) hw hM (by rw [Array.size_map, sz]; omega)
  rw [Array.size_map, sz] at hp
  obtain ⟨L2, r1, r2, r3⟩ := reorder L es order hr hp
  rw [← r3] at T
  have sz2 : (order.filterMap (es[·]?)).size = es.size := by rw [← Array.length_toList, r1, rws_len, r2.length_eq, sz]
  rw [setRelay_eq]
  refine wpAny_bind (wpAny_setState_of ho hd ft ?_)
  dsimp only
  refine wp_if_neg (by rw [sizeLine_eq]; omega) ?_
  try refine wpAny_bind (wpAny_pure ?_)
  rw [e]
  dsimp only
  refine wpAny_bind ?_
  refine wp_if_neg (by rw [sz2]; simp) ?_
  try refine wpAny_bind (wpAny_pure ?_)
  refine wpAny_pure ?_
  dsimp only
  refine wpAny_storeSet_of ho hd ?_ (by rw [sz2, sz, sizeLine_eq]; omega)
  have sb : Heap.SameBut a s.heap (s.heap.update a (Obj.putSet (order.filterMap (es[·]?)) t2)) := Heap.SameBut.update ..
  refine hQ _ L2 (order.filterMap (es[·]?)) (ep + 1) t2 sb ⟨⟨_, store_at ho hd, ⟨hex.1, hex.2.1, hex.2.2⟩, rfl⟩, r1, T, (r2.map (·.2)).nodup_iff.mpr nd, fun p hm => (key p (r2.mem_iff.mp hm)).but ho hd sb, by rw [el]; exact ld, ?_, by rw [r2.length_eq]; exact few⟩ r2
  rw [r2.length_eq, em]
  exact hn

set_option maxHeartbeats 1000000 in
/-- a key is added -/
theorem add_key (R : SetN w s.heap a L es ep t) {x : Addr} {k : NestedKey} (hx : IsN s.heap k x) (hu : A.units + 8 < cLine) (hfew : L.length + 1 < 64) {Q : Bool → Shared → Prop}
    (hQ : ∀ b h' L' es' ep' t', Heap.SameBut a s.heap h' → SetN w h' a L' es' ep' t' → (k ∈ L.map (·.2) → L' = L) → (k ∉ L.map (·.2) → L'.Perm ((x, k) :: L)) → Q b { s with heap := h' }) :
    wpAny (model P w) A (setAddHashed a (.ref x) (k.hash w)) Q E s := by
  obtain ⟨o, ho, hex, hd⟩ := R.ob
  have sz := R.sz
  have rm := R.room
  unfold setAddHashed
  refine wpAny_holding ?_
  rw [show (100000 : Nat) = 99999 + 1 from rfl, setAddHashedIn_succ]
  refine wpAny_bind (wpAny_setState_of ho hd R.fits ?_)
  dsimp only
  refine wp_if_neg (by simp [byScan, Value.scannable]) ?_
  try refine wpAny_bind (wpAny_pure ?_)
  refine wpAny_bind (find_at R hx hu (fun hm => ?_) fun N hm hfree htaken => ?_)
  · dsimp only
    exact wpAny_pure (hQ false s.heap L es ep t (Heap.SameBut.refl a s.heap) R (fun _ => rfl) fun z => absurd hm z)
  · dsimp only
    refine wpAny_bind (wpAny_setState_of ho hd R.fits ?_)
    dsimp only
    obtain ⟨q1, q2, q3, q4, q5, _, q7, q8, q9⟩ := R.tab.put hfree htaken
    generalize hpt : t.put (way t.mask (k.hash w) N) = pt at q1 q3 q4 q5 q7 q8 q9 ⊢
    obtain ⟨t1, pl⟩ := pt
    dsimp only at q1 q3 q4 q5 q7 q8 q9 ⊢
    subst q1
    -- whether the hash goes by value is all one
    have rest : ∀ t3 : SetTable, t3.place = t1.place → t3.dummies = t1.dummies → t3.mask = t1.mask → t3.led = t1.led → t3.fill = t1.fill →
        wpAny (model P w) A (do
          storeSet a (SetTable.insertAt es (SetTable.below t.place (way t.mask (k.hash w) N)) (k.hash w, Value.ref x)) t3
          if (!false && t3.tooFull) = true then setRelay a (SetTable.grown (es.size + 1))
          return true) Q E s := by
      intro t3 e1 e2 e3 e4 e5
      have q3' : TabOk t3 ((L.map (rh w)).take (SetTable.below t.place (way t.mask (k.hash w) N)) ++ k.hash w :: (L.map (rh w)).drop (SetTable.below t.place (way t.mask (k.hash w) N))) :=
        ⟨by rw [e1]; exact q3.ris, by rw [e2]; exact q3.dm, by rw [e1]; exact q3.sz, by rw [e3]; exact q3.mok, by rw [e1, e3]; exact q3.bd, by rw [e1, e3]; exact q3.reach⟩
      have hin : (SetTable.insertAt es (SetTable.below t.place (way t.mask (k.hash w) N)) (k.hash w, Value.ref x)).toList = rws w (L.take (SetTable.below t.place (way t.mask (k.hash w) N)) ++ (x, k) :: L.drop (SetTable.below t.place (way t.mask (k.hash w) N))) := by
        rw [SetTable.toList_insertAt, rws_ins, R.rows]
      generalize SetTable.below t.place (way t.mask (k.hash w) N) = n at q2 q3' hin ⊢
      have pm := put_perm L n (x, k)
      have len1 : (L.take n ++ (x, k) :: L.drop n).length = L.length + 1 := pm.length_eq
      have hs1 : (L.take n ++ (x, k) :: L.drop n).map (rh w) = (L.map (rh w)).take n ++ k.hash w :: (L.map (rh w)).drop n := by
        rw [List.map_append, List.map_cons, List.map_take, List.map_drop]
      rw [← hs1] at q3'
      have nd1 : ((L.take n ++ (x, k) :: L.drop n).map (·.2)).Nodup := by
        refine (pm.map (·.2)).nodup_iff.mpr ?_
        rw [List.map_cons]
        exact List.nodup_cons.mpr ⟨hm, R.nd⟩
      have sz1 : (SetTable.insertAt es n (k.hash w, Value.ref x)).size = L.length + 1 := by rw [← Array.length_toList, hin, rws_len, len1]
      generalize SetTable.insertAt es n (k.hash w, Value.ref x) = es1 at hin sz1 ⊢
      generalize L.take n ++ (x, k) :: L.drop n = L1 at pm len1 q3' nd1 hin
      refine wpAny_bind (wpAny_storeSet_of ho hd ?_ (by rw [sz1, sizeLine_eq]; omega))
      have sb : Heap.SameBut a s.heap (s.heap.update a (Obj.putSet es1 t3)) := Heap.SameBut.update ..
      have ho1 := store_at (es' := es1) (t' := t3) ho hd
      generalize s.heap.update a (Obj.putSet es1 t3) = h1 at sb ho1 ⊢
      have key1 : ∀ p ∈ L1, IsN h1 p.2 p.1 := fun p hp => by
        rcases List.mem_cons.mp (pm.mem_iff.mp hp) with e | hp
        · rw [e]
          exact hx.but ho hd sb
        · exact (R.key p hp).but ho hd sb
      have ld1 : w.params.followText "set-order" = true ∨ t3.led = true := by rw [e4, q5]; exact R.led
      have fill1 : t3.fill = L.length + 1 := by rw [e5, q9, List.length_map]
      have mask1 : t3.mask = t.mask := e3.trans q4
      by_cases hf : t3.tooFull = true
      · first
          | (refine wpAny_bind ?_; refine wp_if_pos (by simp [hf]) ?_)
          | (refine wp_if_pos (by simp [hf]) ?_; refine wpAny_bind ?_)
        have full : (L.length + 1) * 5 ≥ t3.mask * 3 := by
          have z := hf
          unfold SetTable.tooFull at z
          rw [decide_eq_true_eq, fill1] at z
          exact z
        rw [sz]
        have place1 : t3.place.size = es1.size := by
          have z := q3'.sz
          rw [List.length_map, len1] at z
          rw [z, sz1]
        have two : (t.mask = 7 ∧ L.length = 4) ∨ (t.mask = 31 ∧ L.length = 18) := by
          rcases R.tab.mok with e | e | e
          · left; rw [mask1, e] at full; rw [e] at rm; exact ⟨e, by omega⟩
          · right; rw [mask1, e] at full; rw [e] at rm; exact ⟨e, by omega⟩
          · exfalso; rw [mask1, e] at full; omega
        have go : ∀ M, SetTable.sizeAbove (SetTable.grown (L.length + 1)) - 1 = M → MaskOk M → SetTable.sizeAbove (SetTable.grown (L.length + 1)) ≤ 128 → (L.length + 1) * 5 < M * 3 →
            wpAny (model P w) A (setRelay a (SetTable.grown (L.length + 1))) (fun _ s' => wpAny (model P w) A (pure true) Q E s') E { s with heap := h1 } := fun M g1 g2 g3 g4 => by
          refine relay (s := { s with heap := h1 }) ho1 ⟨hex.1, hex.2.1, hex.2.2⟩ rfl hin place1 q3'.dm (by rw [sz1, mask1]; rcases two with ⟨e, f⟩ | ⟨e, f⟩ <;> omega) nd1 key1 ld1 (by rw [len1]; exact hfew) g1 g2 g3 (by rw [len1]; exact g4) ?_
          intro h2 L2 es2 ep2 t2 sb2 R2 pm2
          exact wpAny_pure (hQ true h2 L2 es2 ep2 t2 (sb.trans sb2) R2 (fun z => absurd z hm) fun _ => pm2.trans pm)
        rcases two with ⟨_, e⟩ | ⟨_, e⟩
        · exact go 31 (by rw [e, size_20]) (.inr (.inl rfl)) (by rw [e, size_20]; decide) (by omega)
        · exact go 127 (by rw [e, size_76]) (.inr (.inr rfl)) (by rw [e, size_76]; decide) (by omega)
      · first
          | refine wp_if_neg (by simp [hf]) ?_
          | (refine wpAny_bind ?_; refine wp_if_neg (by simp [hf]) ?_; refine wpAny_pure ?_)
        refine wpAny_pure (hQ true h1 L1 es1 (ep + 1) t3 sb ⟨⟨_, ho1, ⟨hex.1, hex.2.1, hex.2.2⟩, rfl⟩, hin, q3', nd1, key1, ld1, ?_, by rw [len1]; exact hfew⟩ (fun z => absurd z hm) fun _ => pm)
        have z := hf
        unfold SetTable.tooFull at z
        rw [decide_eq_true_eq, fill1] at z
        rw [len1]
        omega
    by_cases hp1 : t1.plain = true
    · first
        | (refine wpAny_bind ?_; refine wp_if_pos hp1 ?_; refine hbv_key k _ 8 s hx.1 hx.2 _ _ _ fun bv => ?_)
        | refine wp_if_pos hp1 (wpAny_bind (hbv_key k _ 8 s hx.1 hx.2 _ _ _ fun bv => ?_))
      cases bv with
      | true => exact rest t1 rfl rfl rfl rfl rfl
      | false => exact rest { t1 with plain := false } rfl rfl rfl rfl rfl
    · first
        | (refine wpAny_bind ?_; refine wp_if_neg hp1 ?_; refine wpAny_pure ?_)
        | refine wp_if_neg hp1 (wpAny_bind (wpAny_pure ?_))
      exact rest t1 rfl rfl rfl rfl rfl
end
end Sn

/-! SetF -/
set_option Elab.async false
set_option linter.all false
set_option maxRecDepth 100000
namespace Sn
open PySem PySem.Spec PyProof.Rows L2

/-- what the set has got of the first i rows -/
structure Has (ks : List Row) (i : Nat) (L : List Row) : Prop where
  sub : ∀ p ∈ L, p ∈ ks.take i
  all : ∀ p ∈ ks.take i, p.2 ∈ L.map (·.2)
  len : L.length ≤ i
theorem Has.zero (ks : List Row) : Has ks 0 [] := ⟨fun p h => (by cases h), fun p h => (by simp at h), Nat.le_refl _⟩
theorem tk1 {α : Type} {l : List α} {i : Nat} {x : α} (h : l[i]? = some x) : l.take (i + 1) = l.take i ++ [x] := by
  rw [List.take_succ, h]
  rfl
theorem Has.same {ks L : List Row} {i : Nat} {x : Row} (g : Has ks i L) (h : ks[i]? = some x) (hm : x.2 ∈ L.map (·.2)) : Has ks (i + 1) L := by
  refine ⟨fun p hp => ?_, fun p hp => ?_, Nat.le_succ_of_le g.len⟩
  · rw [tk1 h]
    exact List.mem_append_left _ (g.sub p hp)
  · rw [tk1 h] at hp
    rcases List.mem_append.mp hp with z | z
    · exact g.all p z
    · rw [List.mem_singleton.mp z]
      exact hm
theorem Has.more {ks L M : List Row} {i : Nat} {x : Row} (g : Has ks i L) (h : ks[i]? = some x) (pm : M.Perm (x :: L)) : Has ks (i + 1) M := by
  refine ⟨fun p hp => ?_, fun p hp => ?_, ?_⟩
  · rw [tk1 h]
    rcases List.mem_cons.mp (pm.mem_iff.mp hp) with e | z
    · rw [e]
      exact List.mem_append_right _ (List.mem_singleton.mpr rfl)
    · exact List.mem_append_left _ (g.sub p z)
  · rw [(pm.map (·.2)).mem_iff, List.map_cons]
    rw [tk1 h] at hp
    rcases List.mem_append.mp hp with z | z
    · exact List.mem_cons_of_mem _ (g.all p z)
    · rw [List.mem_singleton.mp z]
      exact List.mem_cons_self
  · rw [pm.length_eq, List.length_cons]
    exact Nat.succ_le_succ g.len
section
variable {P : Program} {w : World} {A : Around} {E : Value → Shared → Prop} {s : Shared}
theorem SetN.keep {h h' : Heap} {a : Addr} {L : List Row} {es : Array (Int × Value)} {ep : Nat} {t : SetTable} (R : SetN w h a L es ep t) (ha : ∀ o, h.get? a = some o → h'.get? a = some o) (hk : ∀ p ∈ L, IsN h' p.2 p.1) : SetN w h' a L es ep t := by
  obtain ⟨o, ho, r⟩ := R.ob
  exact ⟨⟨o, ha o ho, r⟩, R.rows, R.tab, R.nd, hk, R.led, R.room, R.few⟩
theorem setN_new {h : Heap} {a : Addr} (ho : h.get? a = some (mt w)) : SetN w h a [] #[] 0 (.fresh 0 0 (!w.params.followText "set-order")) where
  ob := ⟨_, ho, ⟨rfl, rfl, rfl⟩, rfl⟩
  rows := rfl
  tab := ⟨List.Pairwise.nil, rfl, rfl, .inl rfl, fun x hx => (by cases hx), fun i h j hi => (by simp at hi)⟩
  nd := List.nodup_nil
  key := fun p hp => (by cases hp)
  led := by
    show _ ∨ (!w.params.followText "set-order") = true
    cases w.params.followText "set-order"
    · exact .inr rfl
    · exact .inl rfl
  room := by show 0 * 5 < 7 * 3; decide
  few := by show 0 < 64; decide
/-- the loop that adds them -/
theorem upd_loop {I : Addr} {fp wr : List Addr} {G : Array GenState → Array GenState → Prop} {n : Nat} {Pv : Nat → Value → Prop} {St : Nat → Shared → Prop} {R : Result → Shared → Prop}
    (W : WalksS P w A.in1 I fp wr G n Pv St) (S : Addr) (hSf : S ∉ fp) (ks : List Row) (hn : n = ks.length) (hfew : ks.length < 64) (hval : ∀ i v, Pv i v → ∃ p, ks[i]? = some p ∧ v = .ref p.1)
    (h0 : Heap) (hk : ∀ p ∈ ks, IsN h0 p.2 p.1) (hS0 : h0.get? S = none) (hw0 : ∀ b ∈ wr, h0.get? b = none) (hu : A.in1.units + 8 < cLine) :
    ∀ (m i : Nat) (s : Shared), n - i = m → i ≤ n → St i s → (∀ b o, h0.get? b = some o → s.heap.get? b = some o) → (∃ L es ep t, SetN w s.heap S L es ep t ∧ Has ks i L) →
      (∀ s' L es ep t, Moved (S :: wr) G s s' → SetN w s'.heap S L es ep t → Has ks n L → (∀ b o, h0.get? b = some o → s'.heap.get? b = some o) → R (.ok (.ret .none)) s') →
      codeAny (model P w) A (.builtin "set.update.loop" ⟨[.ref S, .ref I], []⟩) R s := by
  have hSw : S ∉ wr := fun z => hSf (W.sub _ z)
  have sub1 : ∀ b ∈ wr, b ∈ S :: wr := fun b hb => List.mem_cons_of_mem _ hb
  have keepM : ∀ {s s' : Shared}, Moved wr G s s' → (∀ b o, h0.get? b = some o → s.heap.get? b = some o) → ∀ b o, h0.get? b = some o → s'.heap.get? b = some o := fun hm hkp b o e =>
    hm.heap b o (fun hb => by rw [hw0 b hb] at e; cases e) (hkp b o e)
  intro m
  induction m with
  | zero =>
    intro i s hm0 hi hst hkp ⟨L, es, ep, t, hS, g⟩ hR
    obtain rfl : i = n := by omega
    refine codeAny_builtin F.entry_set_update_loop ?_
    rw [Around.under_plainId F.plain_set_update_loop _]
    show wpAny (model P w) A.in1 (pyNext (.ref I) >>= _) _ _ s
    refine wpAny_bind (W.done s _ _ hst fun s' hm => ?_)
    show wpAny (model P w) A.in1 (ret Value.none) _ _ s'
    have hkp' := keepM hm hkp
    exact wpAny_pure (hR s' L es ep t (hm.mono sub1) (hS.keep (fun o e => hm.heap S o hSw e) fun p hp => (hk p (List.mem_of_mem_take (g.sub p hp))).keep hkp') g hkp')
  | succ m ih =>
    intro i s hm0 hi hst hkp ⟨L, es, ep, t, hS, g⟩ hR
    have hlt : i < n := by omega
    refine codeAny_builtin F.entry_set_update_loop ?_
    rw [Around.under_plainId F.plain_set_update_loop _]
    show wpAny (model P w) A.in1 (pyNext (.ref I) >>= _) _ _ s
    refine wpAny_bind (W.item i s _ _ hlt hst fun v s' hP hst' hm => ?_)
    obtain ⟨p, hp, rfl⟩ := hval i v hP
    have hkp' := keepM hm hkp
    have hS' : SetN w s'.heap S L es ep t := hS.keep (fun o e => hm.heap S o hSw e) fun q hq => (hk q (List.mem_of_mem_take (g.sub q hq))).keep hkp'
    have hx : IsN s'.heap p.2 p.1 := (hk p (List.mem_of_getElem? hp)).keep hkp'
    show wpAny (model P w) A.in1 (holding [Value.ref p.1] (setAdd S (.ref p.1)) >>= _) _ _ s'
    refine wpAny_bind (wpAny_holding ?_)
    unfold setAdd
    refine wpAny_holding ?_
    refine wpAny_bind ((nestedKind P w).pyHash hu hx ?_)
    refine add_key (s := { s' with toks := s'.toks + p.2.draws }) hS' hx hu (by have := g.len; omega) fun b h' M es' ep' t' hsb hS2 c1 c2 => ?_
    have g' : Has ks (i + 1) M := by
      rcases Classical.em (p.2 ∈ L.map (·.2)) with c | c
      · rw [c1 c]
        exact g.same hp c
      · exact g.more hp (c2 c)
    have hkp2 : ∀ b o, h0.get? b = some o → h'.get? b = some o := fun b o e => (hsb.2 b (fun z => by rw [z, hS0] at e; cases e)).trans (hkp' b o e)
    refine wpAny_pure ⟨plainId_quiet F.plain_set_update_loop _, ih (i + 1) _ (by omega) hlt (W.frame _ s' _ _ hst' (Nat.le_add_right _ _) fun b hb o e => ?_) hkp2 ⟨M, es', ep', t', hS2, g'⟩ fun s'' L2 es2 ep2 t2 hm2 hS3 g2 hkp3 => ?_⟩
    · rw [hsb.2 b (fun z : b = S => hSf (by rw [← z]; exact hb))]
      exact e
    · refine hR s'' L2 es2 ep2 t2 (Moved.trans W.gtrans ((hm.mono sub1).then_heap (Nat.le_add_right _ _) fun b o hb e => ?_) hm2) hS3 g2 hkp3
      rw [hsb.2 b (fun z : b = S => hb (by rw [z]; exact List.mem_cons_self))]
      exact e
/-- set(l), l a list of nested keys -/
theorem set_keys {l : Addr} {items : Array Value} (ks : List Row) {Q : Value → Shared → Prop} (hh : A.handled = none) (hl : s.heap.IsList l items) (hit : items.toList = ks.map fun p => Value.ref p.1)
    (hk : ∀ p ∈ ks, IsN s.heap p.2 p.1) (hfew : ks.length < 64) (hu : A.units + 20 < cLine)
    (h : ∀ (h' : Heap) (tk : Nat) L es ep t, SetN w h' s.heap.objs.size L es ep t → Has ks ks.length L → (∀ b o, s.heap.get? b = some o → h'.get? b = some o) → Q (.ref s.heap.objs.size) { s with heap := h', toks := tk }) :
    wpAny (model P w) A (call (.type "set") [.ref l]) Q E s := by
  have sz : items.size = ks.length := by
    have q := congrArg List.length hit
    rw [Array.length_toList, List.length_map] at q
    exact q
  have hlS : l < s.heap.objs.size := by
    obtain ⟨o, ho, _⟩ := hl
    exact Heap.lt_size ho
  obtain ⟨n1, n2⟩ := lit_ne (w := w) hlS
  refine set_shell (R := fun s2 => ∃ h' tk L es ep t, s2 = { s with heap := h', toks := tk } ∧ SetN w h' s.heap.objs.size L es ep t ∧ Has ks ks.length L ∧ ∀ b o, s.heap.get? b = some o → h'.get? b = some o) hl (fun A' e1 e2 => ?_)
    fun s2 ⟨h', tk, L, es, ep, t, e, q1, q2, q3⟩ => by rw [e]; exact h h' tk L es ep t q1 q2 q3
  have l1 : (s.heap.push (mt w)).IsList l items := hl.push _
  have none_of : ∀ b, s.heap.objs.size ≤ b → s.heap.get? b = none := fun b hb => by
    cases q : s.heap.get? b with
    | none => rfl
    | some o => exact absurd (Nat.lt_of_lt_of_le (Heap.lt_size q) hb) (Nat.lt_irrefl _)
  refine upd_loop ((Walks.list (by show A'.handled = none; rw [e1]; exact hh) _ l n1 items).toS) s.heap.objs.size n2 ks sz hfew (fun i v hv => ?_) s.heap hk (none_of _ (Nat.le_refl _)) (fun b hb => none_of b (by rw [List.mem_singleton.mp hb, Heap.size_push]; exact Nat.le_succ _))
    (by show A'.units + 1 + 8 < cLine; omega) (items.size - 0) 0 _ (by omega) (Nat.zero_le _) ⟨⟨_, Heap.get?_push_size _ rfl, rfl, rfl⟩, l1.push _⟩ (fun b o e => Heap.get?_push_of_some _ (Heap.get?_push_of_some _ e))
    ⟨[], #[], 0, _, setN_new (Heap.get?_push_of_some _ (Heap.get?_push_size _ rfl)), Has.zero ks⟩ fun s2 L es ep t hm hS g hkp => ?_
  · have q : items.toList[i]? = some v := by rw [Array.getElem?_toList]; exact hv
    rw [hit, List.getElem?_map] at q
    cases hq : ks[i]? with
    | none => rw [hq] at q; cases q
    | some p =>
      rw [hq] at q
      exact ⟨p, rfl, (Option.some.inj q).symm⟩
  · refine ⟨rfl, s2.heap, s2.toks, L, es, ep, t, ?_, hS, by rw [← sz]; rw [sz] at g ⊢; exact g, hkp⟩
    obtain ⟨h', g2, d', tk', os'⟩ := s2
    have eg : g2 = s.gens := hm.gens
    have ed : d' = s.drawn := hm.drawn
    have eo : os' = s.os := hm.os
    rw [eg, ed, eo]
end
end Sn

/-! SetG -/
set_option Elab.async false
set_option linter.all false
set_option maxRecDepth 100000
namespace Sn
open PySem PySem.Spec PyProof.Rows L2 PySem.W

/-! ### plain data: ints, texts, tuples of such -/
mutual
def pl : PyData → Bool
  | .int _ => true
  | .str _ => true
  | .tuple xs => plAll xs
  | _ => false
def plAll : List PyData → Bool
  | [] => true
  | x :: xs => pl x && plAll xs
end
mutual
/-- the key that a plain datum is -/
def nk : PyData → NestedKey
  | .int i => .num i
  | .str x => .text x
  | .tuple xs => .tup (nks xs)
  | _ => .none
def nks : List PyData → List NestedKey
  | [] => []
  | x :: xs => nk x :: nks xs
end
mutual
theorem nk_data : ∀ d : PyData, pl d = true → (nk d).data = d
  | .int i, _ => rfl
  | .str x, _ => rfl
  | .tuple xs, h => by
    rw [pl] at h
    rw [nk, NestedKey.data, nks_data xs h]
  | .none, h => by simp [pl] at h
  | .bool _, h => by simp [pl] at h
  | .list _, h => by simp [pl] at h
  | .dict _, h => by simp [pl] at h
theorem nks_data : ∀ ds : List PyData, plAll ds = true → NestedKey.datas (nks ds) = ds
  | [], _ => rfl
  | d :: ds, h => by
    rw [plAll, Bool.and_eq_true] at h
    rw [nks, NestedKey.datas, nk_data d h.1, nks_data ds h.2]
end
theorem nk_inj {d e : PyData} (hd : pl d = true) (he : pl e = true) (h : nk d = nk e) : d = e := by
  rw [← nk_data d hd, ← nk_data e he, h]
mutual
theorem nk_is {h : Heap} : ∀ (d : PyData) (v : Value) (as : List Addr), pl d = true → Reads h v d as → NestedIs h (nk d) v ∧ as = []
  | .int i, _, _, _, r => by cases r; exact ⟨.int _ _, rfl⟩
  | .str x, _, _, _, r => by cases r; exact ⟨.text _ _, rfl⟩
  | .tuple xs, _, _, hp, r => by
    rw [pl] at hp
    cases r with
    | tuple h1 h2 h3 h4 =>
      obtain ⟨q1, q2⟩ := nks_are xs _ _ hp h4
      exact ⟨.tup h1 h2 h3 q1, q2⟩
  | .none, _, _, hp, _ => by simp [pl] at hp
  | .bool _, _, _, hp, _ => by simp [pl] at hp
  | .list _, _, _, hp, _ => by simp [pl] at hp
  | .dict _, _, _, hp, _ => by simp [pl] at hp
theorem nks_are {h : Heap} : ∀ (ds : List PyData) (vs : List Value) (as : List Addr), plAll ds = true → ReadsAll h vs ds as → NestedAll h (nks ds) vs ∧ as = []
  | [], _, _, _, r => by cases r; exact ⟨.nil, rfl⟩
  | d :: ds, _, _, hp, r => by
    rw [plAll, Bool.and_eq_true] at hp
    cases r with
    | cons r1 r2 =>
      obtain ⟨a1, a2⟩ := nk_is d _ _ hp.1 r1
      obtain ⟨b1, b2⟩ := nks_are ds _ _ hp.2 r2
      exact ⟨.cons a1 b1, by rw [a2, b2]; rfl⟩
end
/-! ### the order of alike data -/
mutual
theorem toks_inj : ∀ (x y : PyData), alike x y = true → ∀ l m, keyToks x ++ l = keyToks y ++ m → x = y ∧ l = m
  | .none, y, ha, l, m, h => by cases y <;> simp [alike] at ha; exact ⟨rfl, by simpa [keyToks] using h⟩
  | .bool b, y, ha, l, m, h => by
    cases y <;> simp [alike] at ha
    rename_i c
    simp only [keyToks, List.cons_append, List.nil_append, List.cons.injEq, Sum.inl.injEq] at h
    refine ⟨?_, h.2⟩
    cases b <;> cases c <;> first | rfl | exact absurd h.1 (by decide)
  | .int i, y, ha, l, m, h => by
    cases y <;> simp [alike] at ha
    simp only [keyToks, List.cons_append, List.nil_append, List.cons.injEq, Sum.inl.injEq] at h
    exact ⟨by rw [h.1], h.2⟩
  | .str x, y, ha, l, m, h => by
    cases y <;> simp [alike] at ha
    simp only [keyToks, List.cons_append, List.nil_append, List.cons.injEq, Sum.inr.injEq] at h
    exact ⟨by rw [str_of_cps h.1], h.2⟩
  | .list xs, y, ha, l, m, h => by
    cases y <;> simp [alike] at ha
    rw [keyToks, keyToks] at h
    obtain ⟨e1, e2⟩ := toksAll_inj xs _ ha l m h
    exact ⟨by rw [e1], e2⟩
  | .tuple xs, y, ha, l, m, h => by
    cases y <;> simp [alike] at ha
    rw [keyToks, keyToks] at h
    obtain ⟨e1, e2⟩ := toksAll_inj xs _ ha l m h
    exact ⟨by rw [e1], e2⟩
  | .dict _, y, ha, _, _, _ => by cases y <;> simp [alike] at ha
theorem toksAll_inj : ∀ (xs ys : List PyData), alikeAll xs ys = true → ∀ l m, keyToksAll xs ++ l = keyToksAll ys ++ m → xs = ys ∧ l = m
  | [], [], _, l, m, h => by
    simp only [keyToksAll, List.cons_append, List.nil_append, List.cons.injEq] at h
    exact ⟨rfl, h.2⟩
  | [], _ :: _, _, l, m, h => by
    simp [keyToksAll] at h
  | _ :: _, [], _, l, m, h => by
    simp [keyToksAll] at h
  | x :: xs, y :: ys, ha, l, m, h => by
    obtain ⟨a1, a2⟩ := alike_all_cons ha
    simp only [keyToksAll, List.cons_append, List.append_assoc, List.cons.injEq] at h
    obtain ⟨e1, e2⟩ := toks_inj x y a1 _ _ h.2
    obtain ⟨e3, e4⟩ := toksAll_inj xs ys a2 l m e2
    exact ⟨by rw [e1, e3], e4⟩
end
/-- not above, by Python's comparison -/
abbrev dle (x y : PyData) : Bool := dataLe false id x y
theorem dle_total : TotalLe dle := sortLe_total (listOrd itemOrd) false keyToks
theorem dle_anti {x y : PyData} (ha : alike x y = true) (h1 : dle x y = true) (h2 : dle y x = true) : x = y := by
  have e1 : PyProof.Rows.lexLt itemOrd (keyToks y) (keyToks x) = false := by
    have z : (!PyProof.Rows.lexLt itemOrd (keyToks y) (keyToks x)) = true := h1
    simpa using z
  have e2 : PyProof.Rows.lexLt itemOrd (keyToks x) (keyToks y) = false := by
    have z : (!PyProof.Rows.lexLt itemOrd (keyToks x) (keyToks y)) = true := h2
    simpa using z
  have e := lex_total (O := itemOrd) _ _ e2 e1
  exact (toks_inj x y ha [] [] (by rw [List.append_nil, List.append_nil]; exact e)).1
theorem sorted_one {l m : List PyData} (hal : AllAlike l) (hp : l.Perm m) (h1 : l.Pairwise fun a b => dle a b = true) (h2 : m.Pairwise fun a b => dle a b = true) : l = m := by
  refine List.Perm.eq_of_pairwise (le := fun a b => dle a b = true) (fun a b ha hb x y => ?_) h1 h2 hp
  exact dle_anti (hal a ha b (hp.mem_iff.mpr hb)) x y
theorem eachIs_refs {h : Heap} : ∀ (M : List Row), (∀ p ∈ M, ∃ as, Reads h (.ref p.1) p.2.data as) → EachIs (fun v b => ∃ as, Reads h v b.2.data as) (M.map fun p => Value.ref p.1) M
  | [], _ => .nil
  | p :: M, h => .cons (h p List.mem_cons_self) (eachIs_refs M fun q hq => h q (List.mem_cons_of_mem _ hq))
theorem eachIs_self : ∀ (M : List Row), EachIs (fun v (b : Row) => v = Value.ref b.1) (M.map fun p => Value.ref p.1) M
  | [] => .nil
  | p :: M => .cons rfl (eachIs_self M)
theorem eachIs_map {M : List Row} : ∀ {vs : List Value}, EachIs (fun v (b : Row) => v = Value.ref b.1) vs M → vs = M.map fun p => Value.ref p.1 := by
  induction M with
  | nil => intro vs h; cases h; rfl
  | cons p M ih =>
    intro vs h
    cases h with
    | cons h1 h2 => rw [List.map_cons, ← ih h2, h1]
section
variable {P : Program} {w : World} {A : Around} {E : Value → Shared → Prop} {s : Shared}
/-- sorted(set) -/
theorem sort_keys {a : Addr} {L : List Row} {es : Array (Int × Value)} {ep : Nat} {t : SetTable} {Q : Value → Shared → Prop} (R : SetN w s.heap a L es ep t) (hh : A.handled = none)
    (hr : ∀ p ∈ L, ∃ as, Reads s.heap (.ref p.1) p.2.data as) (hal : AllAlike (L.map fun p => p.2.data)) (hk : Sortable (L.map fun p => p.2.data)) (hpl : ∀ p ∈ L, pl p.2.data = true) (hdp : ∀ p ∈ L, p.2.data.depth ≤ 8) (hu : A.units + 20 < cLine)
    (hQ : ∀ s' q (M : List Row) (c : Nat), (∀ b o, s.heap.get? b = some o → s'.heap.get? b = some o) → s'.gens = s.gens → s'.os = s.os → s.heap.objs.size ≤ q →
      s'.heap.get? q = some (seqObj "list" (M.map fun p => Value.ref p.1).toArray c) → M.Perm L → (M.map fun p => p.2.data).Pairwise (fun x y => dle x y = true) → Q (.ref q) s') :
    wpAny (model P w) A (call (.builtin "sorted") [.ref a]) Q E s := by
  obtain ⟨o, ho, hex, hd⟩ := R.ob
  have sz := R.sz
  have few := R.few
  refine Calls.call_function_entry kind_sorted plain_sorted entry_sorted (args_sorted1 _) ?_
  unfold Builtin.«sorted»
  refine wpAny_bind (m := checkCount "sorted" 1 1 _) (wpAny_pure ?_)
  refine wpAny_bind (collect_set (A := A.in1) hh ⟨o, ho, hex.1, hd⟩ R.fits (by unfold scanBound; omega) R.tab.ris R.led fun s1 vs k1 hz g1 o1 pm => ?_)
  have hes : es.toList.map (·.2) = L.map fun q => Value.ref q.1 := by
    rw [R.rows]
    unfold rws
    rw [List.map_map]
    rfl
  rw [hes] at pm
  -- the values are some order of the rows
  obtain ⟨L1, e1, p1⟩ : ∃ L1 : List Row, vs = L1.map (fun q => Value.ref q.1) ∧ L1.Perm L := by
    have key : ∀ (us vs : List Value), us.Perm vs → ∀ L : List Row, vs = L.map (fun q => Value.ref q.1) → ∃ L1 : List Row, us = L1.map (fun q => Value.ref q.1) ∧ L1.Perm L := by
      intro us vs hp
      induction hp with
      | nil => intro L e; exact ⟨L, by simpa using e, .refl _⟩
      | cons x _ ih =>
        intro L e
        cases L with
        | nil => cases e
        | cons q L =>
          rw [List.map_cons, List.cons.injEq] at e
          obtain ⟨L1, f1, f2⟩ := ih L e.2
          exact ⟨q :: L1, by rw [List.map_cons, f1, e.1], f2.cons q⟩
      | swap x y l =>
        intro L e
        cases L with
        | nil => cases e
        | cons q L =>
          cases L with
          | nil => cases e
          | cons r L =>
            simp only [List.map_cons, List.cons.injEq] at e
            exact ⟨r :: q :: L, by simp [e.1, e.2.1, e.2.2], List.Perm.swap ..⟩
      | trans _ _ ih1 ih2 =>
        intro L e
        obtain ⟨L1, f1, f2⟩ := ih2 L e
        obtain ⟨L2, g1, g2⟩ := ih1 L1 f1
        exact ⟨L2, g1, g2.trans f2⟩
    exact key vs _ pm L rfl
  have len1 : L1.length < 64 := by rw [p1.length_eq]; exact few
  have lv : vs.length = L1.length := by rw [e1, List.length_map]
  refine wpAny_bind (wpAny_newList ?_ (by rw [lv, sizeLine_eq]; omega))
  have hoL : (s1.heap.push (seqObj "list" vs.toArray 0)).get? s1.heap.objs.size = some (seqObj "list" vs.toArray 0) := Heap.get?_push_size _ rfl
  have up : ∀ b o, s.heap.get? b = some o → (s1.heap.push (seqObj "list" vs.toArray 0)).get? b = some o := fun b o e => Heap.get?_push_of_some _ (k1 b o e)
  have rd : ∀ p ∈ L1, ∃ as, Reads (s1.heap.push (seqObj "list" vs.toArray 0)) (.ref p.1) p.2.data as ∧ s1.heap.objs.size ∉ as := fun p hp => by
    have hp := p1.mem_iff.mp hp
    obtain ⟨as, r⟩ := hr p hp
    have r2 := PyProof.Rows.Reads.keeps up r
    have e0 := (nk_is _ _ _ (hpl p hp) r2).2
    exact ⟨as, r2, by rw [e0]; exact List.not_mem_nil⟩
  have each1 : EachIs (fun v (b : Row) => v = Value.ref b.1) vs L1 := by rw [e1]; exact eachIs_self L1
  have each2 : EachIs (fun v b => ∃ as, Reads (s1.heap.push (seqObj "list" vs.toArray 0)) v b.2.data as ∧ s1.heap.objs.size ∉ as) vs L1 := by
    have key : ∀ M : List Row, (∀ p ∈ M, ∃ as, Reads (s1.heap.push (seqObj "list" vs.toArray 0)) (.ref p.1) p.2.data as ∧ s1.heap.objs.size ∉ as) →
        EachIs (fun v b => ∃ as, Reads (s1.heap.push (seqObj "list" vs.toArray 0)) v b.2.data as ∧ s1.heap.objs.size ∉ as) (M.map fun q => Value.ref q.1) M := by
      intro M
      induction M with
      | nil => exact fun _ => .nil
      | cons p M ih => exact fun h => .cons (h p List.mem_cons_self) (ih fun q hq => h q (List.mem_cons_of_mem _ hq))
    have z := key L1 rd
    rw [← e1] at z
    exact z
  have pd : (L1.map fun p => p.2.data).Perm (L.map fun p => p.2.data) := p1.map _
  have hal1 : AllAlike (L1.map fun p => p.2.data) := fun d hd d' hd' => hal d (pd.mem_iff.mp hd) d' (pd.mem_iff.mp hd')
  have hk1 : Sortable (L1.map fun p => p.2.data) := hk.imp (fun h d hd => h d (pd.mem_iff.mp hd)) fun h d hd => h d (pd.mem_iff.mp hd)
  refine wpAny_bind (wpAny_holding (list_sort_data (s := { s1 with heap := s1.heap.push (seqObj "list" vs.toArray 0) }) hoL each1 each2 hal1 hk1 (by rw [sizeLine_eq]; omega) (fun p hp => by have := hdp p (p1.mem_iff.mp hp); show A.units + 1 + 1 + p.2.data.depth < cLine; omega) fun out lo eo => ?_))
  have eo' := eachIs_map eo
  subst eo'
  obtain ⟨c, hc⟩ := sortedHeap_at (vs := vs) (out := ((L1.mergeSort (dataLe false fun p : Row => p.2.data)).map fun p => Value.ref p.1).toArray) hoL
  refine wpAny_pure ⟨_, rfl, hQ _ s1.heap.objs.size (L1.mergeSort (dataLe false fun p : Row => p.2.data)) c (fun b u e => ?_) g1 o1 hz hc ((List.mergeSort_perm _ _).trans p1) ?_⟩
  · have q := k1 b u e
    have hlt := Heap.lt_size q
    show (sortedHeap (s1.heap.push (seqObj "list" vs.toArray 0)) s1.heap.objs.size vs _).get? b = some u
    rw [sortedHeap_old (Nat.ne_of_lt hlt) (by rw [size_push']; exact Nat.lt_succ_of_lt hlt)]
    exact Heap.get?_push_of_some _ q
  · rw [List.pairwise_map]
    exact sort_pairwise (sortLe_total (listOrd itemOrd) false fun p : Row => keyToks p.2.data) L1
end
end Sn

/-! SetH -/
set_option Elab.async false
set_option linter.all false
set_option maxRecDepth 100000
namespace Sn
open PySem PySem.Spec PyProof.Rows L2 PySem.W

/-- what may stand in a set here: a plain tuple, not empty, not deep -/
def okK : PyData → Bool
  | .tuple (x :: xs) => pl (.tuple (x :: xs)) && decide ((PyData.tuple (x :: xs)).depth ≤ 8)
  | _ => false
theorem okK_is {d : PyData} (h : okK d = true) : (∃ x r, d = .tuple (x :: r)) ∧ pl d = true ∧ d.depth ≤ 8 := by
  cases d with
  | tuple xs =>
    cases xs with
    | nil => simp [okK] at h
    | cons x xs =>
      rw [okK, Bool.and_eq_true, decide_eq_true_eq] at h
      exact ⟨⟨x, xs, rfl⟩, h.1, h.2⟩
  | _ => simp [okK] at h
mutual
theorem nk_depth : ∀ d : PyData, (nk d).depth ≤ d.depth
  | .int i => Nat.zero_le _
  | .str x => Nat.zero_le _
  | .tuple xs => by
    rw [nk, NestedKey.depth, PyData.depth]
    exact Nat.succ_le_succ (nks_depth xs)
  | .none => Nat.zero_le _
  | .bool _ => Nat.zero_le _
  | .list _ => Nat.zero_le _
  | .dict _ => Nat.zero_le _
theorem nks_depth : ∀ ds : List PyData, NestedKey.depthAll (nks ds) ≤ PyData.depthAll ds
  | [] => Nat.zero_le _
  | d :: ds => by
    rw [nks, NestedKey.depthAll, PyData.depthAll]
    have a := nk_depth d
    have b := nks_depth ds
    omega
end
/-- the set at a, without the tuples themselves -/
structure SetM (w : World) (h : Heap) (a : Addr) (L : List Row) : Prop where
  ex : ∃ (es : Array (Int × Value)) (ep : Nat) (t : SetTable), (∃ o, h.get? a = some o ∧ o.ExactSet ∧ o.data = .set es ep t) ∧ es.toList = rws w L ∧ TabOk t (L.map (rh w)) ∧ (L.map (·.2)).Nodup ∧
    (w.params.followText "set-order" = true ∨ t.led = true) ∧ L.length * 5 < t.mask * 3 ∧ L.length < 64
def SetNO (w : World) (a : Addr) (L : List Row) : HO := .ext fun h => SetM w h a L
theorem SetN.m0 {w : World} {h : Heap} {a : Addr} {L : List Row} {es : Array (Int × Value)} {ep : Nat} {t : SetTable} (R : SetN w h a L es ep t) : SetM w h a L :=
  ⟨es, ep, t, R.ob, R.rows, R.tab, R.nd, R.led, R.room, R.few⟩
theorem SetM.full {w : World} {h : Heap} {a : Addr} {L : List Row} (R : SetM w h a L) (ht : ∀ p ∈ L, IsN h p.2 p.1) : ∃ es ep t, SetN w h a L es ep t := by
  obtain ⟨es, ep, t, h1, h2, h3, h4, h5, h6, h7⟩ := R.ex
  exact ⟨es, ep, t, h1, h2, h3, h4, ht, h5, h6, h7⟩
theorem setNO_new {P : Program} {w : World} {H : Hp} {h : Heap} {a : Addr} {L : List Row} (R : SetM w h a L) : ObjOk P w H h a (SetNO w a L) := by
  have ⟨es, ep, t, ⟨o, ho, r⟩, q⟩ := R.ex
  refine ⟨R, ⟨o, ho⟩, fun h1 h2 p k => ?_⟩
  have ⟨es', ep', t', ⟨o', ho', r'⟩, q'⟩ := SetM.ex p
  exact ⟨es', ep', t', ⟨o', k o' ho', r'⟩, q'⟩
abbrev row (p : Addr × PyData) : Row := (p.1, nk p.2)
theorem refs_vals : ∀ {ks : List (Addr × PyData)} {us : List Value}, Vals (ks.map fun p => V.ref p.1) us → us = (ks.map row).map fun p => Value.ref p.1
  | [], _, .nil => rfl
  | p :: ks, _, .cons r t => by
    cases r
    rw [refs_vals t] <;> rfl
theorem vals_refs : ∀ (ks : List Row), Vals (ks.map fun p => V.ref p.1) (ks.map fun p => Value.ref p.1)
  | [] => .nil
  | p :: ks => .cons rfl (vals_refs ks)
section
variable {X : Cx}
theorem Inv.isN {pins : List (Addr × Obj)} {σ : L2.St} {H : Hp} {s : Shared} {b : Addr} {d : PyData} (I : Inv X pins σ H s) (h : Dp X.K H (.ref b) d) (ok : okK d = true) : IsN s.heap (nk d) b ∧ ∃ as, Reads s.heap (.ref b) (nk d).data as := by
  obtain ⟨as, r⟩ := Dp.reads I d _ (.ref b) h rfl
  obtain ⟨_, p, dp⟩ := okK_is ok
  exact ⟨⟨(nk_is d _ as p r).1, Nat.le_trans (nk_depth d) dp⟩, as, by rw [nk_data d p]; exact r⟩
/-- set(xs) -/
def rSetN (K : PySem.W.Frag) (w : World) : List V → Hp → VK → Prop := fun xs H Q => ∃ (l : Addr) (ks : List (Addr × PyData)), xs = [V.ref l] ∧ SqL K H l (ks.map fun p => V.ref p.1) ∧ (∀ p ∈ ks, Dp K H (.ref p.1) p.2 ∧ okK p.2 = true) ∧ ks.length < 64 ∧
  ∀ a L, H a = none → (∀ p ∈ L, p ∈ ks.map row) → (∀ p ∈ ks, nk p.2 ∈ L.map (·.2)) → Q (.ref a) (upd H a (SetNO w a L))
theorem cr_setN (hc : X.calm = true) (hu : X.A.units + 20 < cLine) : CallR X (.type "set") (rSetN X.K X.w) := by
  intro pins s σ H xs us Q I r h
  obtain ⟨l, ks, rfl, hl, hk, hf, q⟩ := h
  rw [Vals.ref1 r]
  obtain ⟨its, rv, pl, hz⟩ := I.list hl
  have hn : H s.heap.objs.size = none := I.hok.fresh (Nat.le_refl _)
  refine set_keys (P := X.prog) (w := X.w) (ks.map row) (I.ok.hd hc) pl.isList (by simpa using refs_vals rv) (fun p hp => ?_) (by rw [List.length_map]; exact hf) hu fun h' tk L es ep t R g k => ?_
  · obtain ⟨p0, h0, rfl⟩ := List.mem_map.mp hp
    exact (Inv.isN I (hk p0 h0).1 (hk p0 h0).2).1
  refine ⟨.ref s.heap.objs.size, upd H s.heap.objs.size (SetNO X.w s.heap.objs.size L), I.laid (t' := tk) k (Nat.le_refl _) (setNO_new R.m0), rfl, q _ L hn (fun p hp => ?_) fun p hp => ?_⟩
  · exact List.mem_of_mem_take (g.sub p hp)
  · exact g.all (row p) (by rw [List.take_length]; exact List.mem_map.mpr ⟨p, hp, rfl⟩)
/-- sorted(set) -/
def rSortN (K : PySem.W.Frag) (w : World) : List V → Hp → VK → Prop := fun vs H Q => ∃ (a : Addr) (L : List Row), vs = [V.ref a] ∧ H a = some (SetNO w a L) ∧ (∀ p ∈ L, Dp K H (.ref p.1) p.2.data ∧ okK p.2.data = true ∧ nk p.2.data = p.2) ∧ AllAlike (L.map fun p => p.2.data) ∧
  ∀ (M : List Row) (p : Addr), M.Perm L → (M.map (·.2)).Nodup → M.length < 64 → (M.map fun p => p.2.data).Pairwise (fun x y => dle x y = true) → H p = none → Q (.ref p) (upd H p (.lst (M.map fun q => V.ref q.1)))
theorem cr_sortN (hc : X.calm = true) (hu : X.A.units + 20 < cLine) : CallR X (.builtin "sorted") (rSortN X.K X.w) := by
  intro pins s σ H vs us Q I r h
  obtain ⟨a, L, rfl, ha, hk, hal, q⟩ := h
  have R0 : SetM X.w s.heap a L := (I.hok a _ ha).1
  obtain ⟨es, ep, t, R⟩ := R0.full fun p hp => by
    have z := (Inv.isN I (hk p hp).1 (hk p hp).2.1).1
    rw [(hk p hp).2.2] at z
    exact z
  rw [Vals.ref1 r]
  refine sort_keys R (I.ok.hd hc) (fun p hp => ?_) hal (.inl fun d hd => ?_) (fun p hp => (okK_is (hk p hp).2.1).2.1) (fun p hp => (okK_is (hk p hp).2.1).2.2) hu fun s' p M c k g o hp hg pm pw => ?_
  · have z := (Inv.isN I (hk p hp).1 (hk p hp).2.1).2
    rw [(hk p hp).2.2] at z
    exact z
  · obtain ⟨p, hp, rfl⟩ := List.mem_map.mp hd
    exact (okK_is (hk p hp).2.1).1
  have hfew : M.length < 64 := by rw [pm.length_eq]; exact R.few
  have hlen : (M.map fun q => V.ref q.1).length ≤ sizeLine := by rw [List.length_map, sizeLine_eq]; omega
  have hn : H p = none := I.hok.fresh hp
  have J : Inv X pins σ (upd H p (.lst (M.map fun q => V.ref q.1))) { s with heap := s'.heap, gens := s'.gens, drawn := s'.drawn, toks := s'.toks } :=
    I.call (ch := []) (Un.laid k hp hn) (I.hok.laid k hp ⟨hlen, _, c, vals_refs M, hg⟩) (by rw [g]; exact I.bare) (fun _ z => nomatch z)
  have e : s' = { s with heap := s'.heap, gens := s'.gens, drawn := s'.drawn, toks := s'.toks } := by
    cases s'
    cases s
    cases o
    rfl
  rw [e]
  exact ⟨.ref p, _, J, rfl, q M p pm ((pm.map (·.2)).nodup_iff.mpr R.nd) hfew pw hn⟩
/-- sorted(xs), a list of alike data -/
def rSortL (K : PySem.W.Frag) : List V → Hp → VK → Prop := fun xs H Q => ∃ (l : Addr) (bs : List (V × PyData)), xs = [V.ref l] ∧ SqL K H l (bs.map (·.1)) ∧ (∀ b ∈ bs, Dp K H b.1 b.2) ∧ bs.length < 64 ∧ AllAlike (bs.map (·.2)) ∧ (∀ b ∈ bs, okK b.2 = true) ∧
  ∀ (p : Addr) (cs : List (V × PyData)), cs.Perm bs → (cs.map (·.2)).Pairwise (fun x y => dle x y = true) → H p = none → Q (.ref p) (upd H p (.lst (cs.map (·.1))))
theorem each_vals {I : V → PyData → Prop} : ∀ {bs : List (V × PyData)} {us : List Value}, Vals (bs.map (·.1)) us → EachIs (fun u (b : V × PyData) => RelV b.1 u) us bs
  | [], _, .nil => .nil
  | _ :: _, _, .cons r t => .cons r (each_vals (I := I) t)
theorem vals_each : ∀ {bs : List (V × PyData)} {us : List Value}, EachIs (fun u (b : V × PyData) => RelV b.1 u) us bs → Vals (bs.map (·.1)) us
  | [], _, .nil => .nil
  | _ :: _, _, .cons r t => .cons r (vals_each t)
theorem cr_sortL (hu : X.A.units + 20 < cLine) : CallR X (.builtin "sorted") (rSortL X.K) := by
  intro pins s σ H xs us Q I r h
  obtain ⟨l, bs, rfl, hl, hd, hz, hal, hok, q⟩ := h
  rw [Vals.ref1 r]
  obtain ⟨its, rv, pl, _⟩ := I.list hl
  have e1 : EachIs (fun u (b : V × PyData) => RelV b.1 u) its bs := each_vals (I := fun _ _ => True) rv
  have e2 : EachIs (fun u (b : V × PyData) => ∃ as, Reads s.heap u b.2 as) its bs := (each_mem e1).mono fun u b ⟨h1, h2⟩ => Dp.reads I b.2 b.1 u (hd b h2) h1
  refine sorted_data (enc := fun b : V × PyData => b.2) pl.isList e1 e2 hal (.inl fun d hd => ?_) (by rw [sizeLine_eq]; omega) (fun b hb => ?_) fun out ho eo => ?_
  · obtain ⟨b, hb, rfl⟩ := List.mem_map.mp hd
    exact (okK_is (hok b hb)).1
  · have := (okK_is (hok b hb)).2.2
    omega
  have hn : H (s.heap.objs.size + 1) = none := I.hok.fresh (Nat.le_succ _)
  obtain ⟨c, hc⟩ := sortedAll_at s.heap its out.toArray
  have hlen : ((bs.mergeSort (dataLe false fun b : V × PyData => b.2)).map (·.1)).length ≤ sizeLine := by rw [List.length_map, List.length_mergeSort, sizeLine_eq]; omega
  have J : Inv X pins σ (upd H (s.heap.objs.size + 1) (.lst ((bs.mergeSort (dataLe false fun b : V × PyData => b.2)).map (·.1)))) { s with heap := sortedAll s.heap its out.toArray } :=
    I.laid (t' := s.toks) (fun _ _ => sortedAll_old) (Nat.le_succ _) ⟨hlen, out, c, vals_each eo, hc⟩
  refine ⟨.ref (s.heap.objs.size + 1), _, J, rfl, q _ _ (List.mergeSort_perm _ _) ?_ hn⟩
  rw [List.pairwise_map]
  exact sort_pairwise (sortLe_total (listOrd itemOrd) false fun p : V × PyData => keyToks p.2) bs
end
end Sn
namespace Sc
open PySem PySem.Spec PyProof.Rows L2 Evl PySem.W
section
variable {S : Sta} {p : Bool} {e a b : Expr} {Γ : List En} {t t1 t2 : Tn} {d : PD} {ds es : List PD} {pos q q2 pos2 : Pos}
/-- values and what they read as, side by side -/
theorem dps_zip {K : PySem.W.Frag} {F : Hp} : ∀ {vs : List V} {ds : List PD}, DpAll K F vs ds → ∃ bs : List (V × PD), vs = bs.map (·.1) ∧ ds = bs.map (·.2) ∧ ∀ b ∈ bs, Dp K F b.1 b.2
  | [], [], _ => ⟨[], rfl, rfl, fun _ h => nomatch h⟩
  | [], _ :: _, h => by cases h
  | _ :: _, [], h => by cases h
  | v :: vs, d :: ds, h => by
    cases h with
    | cons h1 h2 =>
      obtain ⟨bs, e1, e2, e3⟩ := dps_zip h2
      exact ⟨(v, d) :: bs, by rw [e1]; rfl, by rw [e2]; rfl, fun b hb => by
        rcases List.mem_cons.mp hb with z | z
        · rw [z]; exact h1
        · exact e3 b z⟩
theorem dps_of {K : PySem.W.Frag} {F : Hp} : ∀ {bs : List (V × PD)}, (∀ b ∈ bs, Dp K F b.1 b.2) → DpAll K F (bs.map (·.1)) (bs.map (·.2))
  | [], _ => .nil
  | b :: bs, h => .cons (h b List.mem_cons_self) (dps_of fun c hc => h c (List.mem_cons_of_mem _ hc))
theorem dps_refs {K : PySem.W.Frag} {F : Hp} : ∀ {vs : List V} {ds : List PD}, DpAll K F vs ds → (∀ d ∈ ds, Sn.okK d = true) → ∃ ks : List (Addr × PD), vs = ks.map (fun p => V.ref p.1) ∧ ds = ks.map (·.2) ∧ ∀ p ∈ ks, Dp K F (.ref p.1) p.2
  | [], [], _, _ => ⟨[], rfl, rfl, fun _ h => nomatch h⟩
  | [], _ :: _, h, _ => by cases h
  | _ :: _, [], h, _ => by cases h
  | v :: vs, d :: ds, h, ok => by
    cases h with
    | cons h1 h2 =>
      obtain ⟨ks, e1, e2, e3⟩ := dps_refs h2 fun c hc => ok c (List.mem_cons_of_mem _ hc)
      obtain ⟨⟨x, r, rfl⟩, _, _⟩ := Sn.okK_is (ok d List.mem_cons_self)
      obtain ⟨a, rfl⟩ : ∃ a, v = .ref a := by cases h1; exact ⟨_, rfl⟩
      exact ⟨(a, .tuple (x :: r)) :: ks, by rw [e1]; rfl, by rw [e2]; rfl, fun b hb => by
        rcases List.mem_cons.mp hb with z | z
        · rw [z]; exact h1
        · exact e3 b z⟩
/-- sorted(set(xs)): es is the one list that rises and has the same members -/
theorem dn_sortS (h : DQ S p e Γ t true ds t1) (hz : ds.length < 64) (hok : ∀ d ∈ ds, Sn.okK d = true) (hal : AllAlike ds) (h1 : es.Pairwise fun x y => Sn.dle x y = true) (hnd : es.Nodup) (h2 : ∀ d, d ∈ es ↔ d ∈ ds)
    (hg : glb S "sorted") (hm : S.mg "sorted" = none) (hg2 : glb S "set") (hm2 : S.mg "set" = none) (ns1 : Ns e := by intro _ _; rfl) :
    DN S p (.Call (.Name "sorted" q) [.Call (.Name "set" q2) [e] [] pos2] [] pos) Γ t es t1 := fun X hX =>
  let ⟨_, e1, e2⟩ := h X hX
  have hu : X.A.units + 20 < cLine := by have := hX.room.un; omega
  ⟨_, pe_callB (Sn.cr_sortN hX.calm hu) (hg.gl hX) (by rw [hX.mg]; exact hm) (by decide +kernel) (pa_cons (pe_callTy (Sn.cr_setN hX.calm hu) (hg2.gl hX) (by rw [hX.mg]; exact hm2) (by decide +kernel) (pa_cons e1 pa_nil (ns1 _ _)) (by decide) (by decide) (ns1 _ _) (da_ne ns1 nss0)) pa_nil rfl) (by decide) (by decide) rfl rfl,
    fun ta F0 H0 σ F H o Q qq => e2 ta F0 H0 σ F H o _ fun x vs F1 H1 s1 i1 hs hd => by
      have z := hs F1 H1 (Stp.refl s1.fh)
      rw [if_pos rfl] at z
      obtain ⟨ks, rfl, rfl, hk⟩ := dps_refs hd hok
      refine ⟨x, ks, rfl, z, fun p hp => ⟨dp_up s1.fh _ _ (hk p hp), hok _ (List.mem_map.mpr ⟨p, hp, rfl⟩)⟩, by simpa using hz, fun a L ha hL1 hL2 => ?_⟩
      have s2 : Stp p ta F1 H1 F1 (upd H1 a (Sn.SetNO X.w a L)) := Stp.add s1.fh ha
      have rowk : ∀ r ∈ L, ∃ k ∈ ks, r = Sn.row k := fun r hr => by
        obtain ⟨k, hk, e⟩ := List.mem_map.mp (hL1 r hr)
        exact ⟨k, hk, e.symm⟩
      have okk : ∀ k ∈ ks, Sn.okK k.2 = true := fun k hk => hok _ (List.mem_map.mpr ⟨k, hk, rfl⟩)
      have dat : ∀ k ∈ ks, (Sn.nk k.2).data = k.2 := fun k hk => Sn.nk_data _ (Sn.okK_is (okk k hk)).2.1
      have inL : ∀ d, d ∈ L.map (fun p => p.2.data) ↔ d ∈ ks.map (·.2) := fun d => by
        constructor
        · intro hd
          obtain ⟨r, hr, rfl⟩ := List.mem_map.mp hd
          obtain ⟨k, hk, rfl⟩ := rowk r hr
          exact List.mem_map.mpr ⟨k, hk, (dat k hk).symm⟩
        · intro hd
          obtain ⟨k, hk, rfl⟩ := List.mem_map.mp hd
          obtain ⟨r, hr, e⟩ := List.mem_map.mp (hL2 k hk)
          exact List.mem_map.mpr ⟨r, hr, by rw [e]; exact dat k hk⟩
      have halL : AllAlike (L.map fun p => p.2.data) := fun x hx y hy => hal x ((inL x).mp hx) y ((inL y).mp hy)
      refine ⟨a, L, rfl, upd_same, fun r hr => ?_, halL, fun M l pm nd few pw hl => ?_⟩
      · obtain ⟨k, hk1, rfl⟩ := rowk r hr
        have e : (Sn.row k).2.data = k.2 := dat k hk1
        rw [e]
        exact ⟨dp_up s2.fh _ _ (hk k hk1), okk k hk1, rfl⟩
      · have s3 : Stp p ta F1 (upd H1 a (Sn.SetNO X.w a L)) F1 (upd (upd H1 a (Sn.SetNO X.w a L)) l (.lst (M.map fun q => V.ref q.1))) := Stp.add s2.fh hl
        have s13 := (s1.trans s2).trans s3
        have ee : M.map (fun p => p.2.data) = es := by
          refine Sn.sorted_one (fun x hx y hy => ?_) ?_ pw h1
          · have pd := pm.map fun p => p.2.data
            exact halL x (pd.mem_iff.mp hx) y (pd.mem_iff.mp hy)
          · refine (List.perm_ext_iff_of_nodup ?_ hnd).mpr fun d => ?_
            · rw [List.Nodup, List.pairwise_map] at nd ⊢
              refine List.Pairwise.imp_of_mem (fun {r r'} hr hr' ne z => ne ?_) nd
              obtain ⟨k, hk1, rfl⟩ := rowk r (pm.mem_iff.mp hr)
              obtain ⟨k', hk2, rfl⟩ := rowk r' (pm.mem_iff.mp hr')
              have z' : k.2 = k'.2 := by rw [← dat k hk1, ← dat k' hk2]; exact z
              show Sn.nk k.2 = Sn.nk k'.2
              rw [z']
            · rw [h2 d, ← inL d]
              exact (pm.map fun p => p.2.data).mem_iff
        have dpM : DpAll X.K F1 (M.map fun q => V.ref q.1) (M.map fun p => p.2.data) := by
          have key : ∀ N : List Sn.Row, (∀ r ∈ N, r ∈ L) → DpAll X.K F1 (N.map fun q => V.ref q.1) (N.map fun p => p.2.data) := fun N => by
            induction N with
            | nil => exact fun _ => .nil
            | cons r N ih =>
              intro hN
              obtain ⟨k, hk1, e⟩ := rowk r (hN r List.mem_cons_self)
              refine .cons ?_ (ih fun r' hr' => hN r' (List.mem_cons_of_mem _ hr'))
              rw [e]
              show Dp X.K F1 (V.ref k.1) (Sn.nk k.2).data
              rw [dat k hk1]
              exact hk k hk1
          exact key M fun r hr => pm.mem_iff.mp hr
        rw [ee] at dpM
        exact qq l _ F1 _ s13 ((i1.add ha).add hl) (fresh0 (s1.trans s2) hl) (fresh_back s2.fh hl) upd_same dpM⟩
/-- sorted(xs), a list of alike tuples -/
theorem dn_sortL (h : DQ S p e Γ t true ds t1) (hz : ds.length < 64) (hok : ∀ d ∈ ds, Sn.okK d = true) (hal : AllAlike ds) (h1 : es.Pairwise fun x y => Sn.dle x y = true) (h2 : ds.Perm es)
    (hg : glb S "sorted") (hm : S.mg "sorted" = none) (ns1 : Ns e := by intro _ _; rfl) (ns2 : ∀ env, (backTo pos (starEach [e] env)).any (·.1) = false := by intro _; rfl) :
    DN S p (.Call (.Name "sorted" q) [e] [] pos) Γ t es t1 := fun X hX =>
  let ⟨_, e1, e2⟩ := h X hX
  have hu : X.A.units + 20 < cLine := by have := hX.room.un; omega
  ⟨_, pe_callB (Sn.cr_sortL hu) (hg.gl hX) (by rw [hX.mg]; exact hm) (by decide +kernel) (pa_cons e1 pa_nil (ns1 _ _)) (by decide) (by decide) (ns1 _ _) (da_ne ns1 nss0),
    fun ta F0 H0 σ F H o Q qq => e2 ta F0 H0 σ F H o _ fun x vs F1 H1 s1 i1 hs hd => by
      have z := hs F1 H1 (Stp.refl s1.fh)
      rw [if_pos rfl] at z
      obtain ⟨bs, rfl, rfl, hb⟩ := dps_zip hd
      refine ⟨x, bs, rfl, z, fun b h => dp_up s1.fh _ _ (hb b h), by simpa using hz, hal, fun b h => hok _ (List.mem_map.mpr ⟨b, h, rfl⟩), fun l cs pm pw hl => ?_⟩
      have s2 : Stp p ta F1 H1 F1 (upd H1 l (.lst (cs.map (·.1)))) := Stp.add s1.fh hl
      have ee : cs.map (·.2) = es := by
        have pd := pm.map (·.2)
        exact Sn.sorted_one (fun x hx y hy => hal x (pd.mem_iff.mp hx) y (pd.mem_iff.mp hy)) (pd.trans h2) pw h1
      have dpM : DpAll X.K F1 (cs.map (·.1)) (cs.map (·.2)) := dps_of fun b h => hb b (pm.mem_iff.mp h)
      rw [ee] at dpM
      exact qq l _ F1 _ (s1.trans s2) (i1.add hl) (fresh0 s1 hl) (fresh_back s1.fh hl) upd_same dpM⟩
end
end Sc

/-! DL9 -/
set_option Elab.async false
set_option linter.all false
set_option maxRecDepth 100000
namespace Sc
open PySem PySem.Spec PyProof.Rows L2 Evl
section
variable {X : Cx}
def rNotInT (K : PySem.W.Frag) : R2 := fun x y H Q => ∃ d ds, Dp K H x d ∧ Dp K H y (.tuple ds) ∧ SeqAt.shaped d = true ∧ SeqAt.shaped (.tuple ds) = true ∧ Q (.bl (!ds.any fun z => PyData.eqv z d)) H
theorem op_notInT (hu : X.A.units + 65 < cLine) : OpR X (compareOp .NotIn) (rNotInT X.K) := by
  intro pins s σ H x y v u Q I rx ry h
  obtain ⟨d, ds, hd, he, sd, se, q⟩ := h
  obtain ⟨as, r1⟩ := Dp.reads I d x v hd rx
  obtain ⟨bs, r2⟩ := Dp.reads I (.tuple ds) y u he ry
  exact SeqAt.notIn_tuple_reads r2 r1 (SeqAt.canLay_of_shaped se) (SeqAt.canLay_of_shaped sd) (room_in_shaped sd hu) ⟨.bl _, H, I, rfl, q⟩
end
section
variable {S : Sta} {p : Bool} {e a b : Expr} {es : List Expr} {Γ : List En} {t t1 t2 : Tn} {d : PD} {ds : List PD} {as : List En} {pos q : Pos} {ar : Ar} {k : Nat} {x : Str}
theorem dc_ninT (ha : DR S p a Γ t d t1) (hb : DR S p b Γ t1 (.tuple ds) t2) (h1 : SeqAt.shaped d = true) (h2 : SeqAt.shaped (.tuple ds) = true) (hm : behindInMarks .NotIn b = false) : DC S p .NotIn a b Γ t (!ds.any fun z => PyData.eqv z d) t2 := fun X hX =>
  let ⟨_, a1, a2⟩ := ha X hX; let ⟨_, b1, b2⟩ := hb X hX
  ⟨_, _, _, op_notInT (by have := hX.room.un; omega), a1, b1, hm, evR2 a2 b2 fun x y H z1 z2 Q q => ⟨d, ds, z1, z2, h1, h2, q⟩⟩
/-- f() -/
theorem de_call0 (h : S.df x k ar) (hr : ar [] t (.d d) t2) (hg : glb S x) (hk : k ≤ S.k := by decide) (hdb : (x == ("__debug__" : Str)) = false := by decide) : DE S p (.Call (.Name x q) [] [] pos) Γ t d t2 := fun X hX => by
  obtain ⟨f, fd, ps, h1, h2, h3, h4⟩ := df_in hX h
  refine ⟨_, pe_call0 h4 (hX.room.mono hk) (hg.gl hX) h1 h2 h3 .nil pass0 hdb, fun ta F0 H0 σ F H o Q qq => ?_⟩
  exact ⟨p, ta, F, t, [], .d d, t2, o.fh, o.tin, .nil, hr, fun v F' H' s2 i2 d2 => qq v F' H' s2 i2 d2⟩
/-- f(e), e a new list of three numbers: the drawing list of f -/
theorem de_callT {i j l : Int} (h : S.df x k ar) (ha : DN S false e Γ t [.int i, .int j, .int l] t1) (hr : ar [.tin] (i, j, l) (.d d) t2) (hg : glb S x) (hk : k ≤ S.k := by decide) (hdb : (x == ("__debug__" : Str)) = false := by decide)
    (ns : Ns e := by intro _ _; rfl) : DE S false (.Call (.Name x q) [e] [] pos) Γ t d t1 := fun X hX => by
  obtain ⟨f, fd, ps, h1, h2, h3, h4⟩ := df_in hX h
  obtain ⟨_, a1, a2⟩ := ha X hX
  refine ⟨_, pe_call h4 (hX.room.mono hk) (hg.gl hX) h1 h2 h3 .nil pass0 (pa_cons a1 pa_nil (ns _ _)) hdb (ns _ _) (da_ne ns nss0), fun ta F0 H0 σ F H o Q qq => a2 ta F0 H0 σ F H o _ fun a vs F1 H1 s1 i1 hn hf hl hd => ?_⟩
  have ev : vs = [V.int i, V.int j, V.int l] := dps_ints (ns := [i, j, l]) hd
  subst ev
  refine ⟨true, a, F1, (i, j, l), [.tin], .d d, t2, s1.fh, fun _ => ⟨hf, hl⟩, .cons ⟨rfl, rfl⟩ .nil, hr, fun v F' H' s2 i2 d2 => qq v F' H' ?_ (fun z => nomatch z) d2⟩
  have hF : ∀ b, H b ≠ none → H1 b ≠ none := fun b hb => s1.dom b hb
  refine ⟨s1.ff.trans s2.ff, s2.fh, fun b o hb _ => s2.old b o (s1.old b o hb (fun z => nomatch z)) (fun _ e => ?_), fun b hb => (s2.new b (hF b hb)).trans (s1.new b hb), fun b hb => s2.dom b (hF b hb)⟩
  rw [e, hn] at hb
  cases hb
end
end Sc

/-! DL10 -/
set_option Elab.async false
set_option linter.all false
set_option maxRecDepth 100000
namespace Sc
open PySem PySem.Spec PyProof.Rows L2 Evl
/-- // by a divisor below 2 ^ 9000, of any sign -/
def CDivV (_ j : Int) : Prop := j ≠ 0 ∧ j.natAbs.log2 < 9000
section
variable {X : Cx}
theorem op_fdivV : OpR X (binaryOp .FloorDiv) (rI CDivV fun i j => .int (i.fdiv j)) := opI fun i j _ _ _ _ _ hc q => floordiv_int hc.1 q (.inl (PyProof.noPylong_of_log2 hc.2))
end
section
variable {S : Sta} {p : Bool} {e a b : Expr} {Γ : List En} {t t1 t2 : Tn} {d d' : PD} {ds : List PD} {i j : Int} {pos : Pos}
theorem de_fdiv (ha : DE S p a Γ t (.int i) t1) (hb : DE S p b Γ t1 (.int j) t2) (hc : CDivV i j) : DE S p (.BinOp a .FloorDiv b pos) Γ t (.int (i.fdiv j)) t2 := fun X hX =>
  let ⟨_, a1, a2⟩ := ha X hX; let ⟨_, b1, b2⟩ := hb X hX
  ⟨_, pe_op op_fdivV a1 b1, ev2 a2 b2 fun x y F H _ h1 h2 Q q => by cases h1; cases h2; exact ⟨i, j, rfl, rfl, hc, q _ (Dp.int _)⟩⟩
theorem DE.as (h : DE S p e Γ t d t1) (hd : d = d') : DE S p e Γ t d' t1 := hd ▸ h
end
end Sc

/-! E0 -/
set_option Elab.async false
set_option linter.all false
set_option maxRecDepth 100000
namespace Sc
open PySem PySem.Spec PyProof.Rows L2 Evl
def HasD (K : PySem.W.Frag) (mg : Str → Option Value) (x : Str) (i : Nat) : Prop := ∃ f fd, FunD K x x (defArgs (topS i)) (defBody (topS i)) (defScope (topS i)) [] [] f fd ∧ mg x = some (.ref f)
/-- what the head tells: every def stands, the built-in names are free -/
structure Ge (K : PySem.W.Frag) (mg : Str → Option Value) : Prop where
  d : ∀ y ∈ tabD, HasD K mg y.1 y.2
  f : ∀ y ∈ tabF, mg y = none
  gcd : mg "gcd" = some (.builtin "math.gcd")
  non : ∃ c, mg "NONE" = some (.ref c) ∧ ∀ H, SqT K H c [.int 0, .int 1]
/-- the state in which the def at place i runs -/
abbrev St0 (P : Program) (w : World) (K : PySem.W.Frag) (mg : Str → Option Value) (base : Heap) (N : List Str) (i k : Nat) : Sta := ⟨P, w, K, mg, base, N, defScope (topS i), k, true⟩
theorem mkD {P : Program} {w : World} {K : PySem.W.Frag} {mg : Str → Option Value} {base : Heap} (G : Ge K mg) {x : Str} (i : Nat) {k : Nat} {ar : Ar} (N ps : List Str) (hx : (x, i) ∈ tabD) (sc : FnScope N ps (defScope (topS i)))
    (bd : ∀ f fd, FunD K x x (defArgs (topS i)) (defBody (topS i)) (defScope (topS i)) [] [] f fd → Binds K fd ps []) (hlen : ∀ es t r t', ar es t r t' → es.length = ps.length)
    (body : ∀ (p : Bool) (es : List En) (t : Tn) (r : Rs) (t' : Tn), ar es t r t' → DSs (St0 P w K mg base N i k) p (defBody (topS i)) (es ++ List.replicate (N.length - ps.length) .no) t (BodyPost r t')) : Df P w K mg base x (k + 1) ar := by
  obtain ⟨f, fd, F, hm⟩ := G.d _ hx
  exact Df.mk F hm sc (bd f fd F) hlen body
end Sc

/-! M1 -/
set_option Elab.async false
set_option linter.all false
set_option maxRecDepth 100000
namespace Sc
open PySem
/-- a fraction, as the program keeps it -/
def encQ (q : Rat) : PyData := .tuple [.int q.num, .int (q.den : Int)]
def frac (q : Rat) : Rat := q - (q.floor : Rat)
/-- numerator and denominator below 2 ^ k -/
structure Bd (k : Nat) (q : Rat) : Prop where
  n : q.num.natAbs < 2 ^ k
  d : q.den < 2 ^ k
theorem Bd.mono {k l : Nat} {q : Rat} (h : Bd k q) (hl : k ≤ l := by omega) : Bd l q :=
  ⟨Nat.lt_of_lt_of_le h.n (Nat.pow_le_pow_right (by decide) hl), Nat.lt_of_lt_of_le h.d (Nat.pow_le_pow_right (by decide) hl)⟩
/-- what a and b are divided by -/
def cmn (a b : Int) : Int := if b < 0 then -(Int.gcd a b : Int) else (Int.gcd a b : Int)
theorem sgn_mul {g b c : Int} (hb : b ≠ 0) (hg : 0 < g) : g * c = b.sign * (g * c) / g * (if b < 0 then -g else g) := by
  have e : b.sign * (g * c) / g = b.sign * c := by
    rw [show b.sign * (g * c) = g * (b.sign * c) by rw [← Int.mul_assoc, Int.mul_comm b.sign, Int.mul_assoc]]
    exact Int.mul_ediv_cancel_left _ (by omega)
  rw [e]
  rcases Int.lt_trichotomy b 0 with h | h | h
  · rw [if_pos h, Int.sign_eq_neg_one_of_neg h, Int.neg_one_mul, Int.neg_mul_neg, Int.mul_comm]
  · exact absurd h hb
  · rw [if_neg (by omega), Int.sign_eq_one_of_pos h]
    simp [Int.mul_comm]
/-- a fraction's parts divide those that it is made of -/
theorem divInt_parts {a b : Int} (hb : b ≠ 0) : cmn a b ≠ 0 ∧ a = (Rat.divInt a b).num * cmn a b ∧ b = (Rat.divInt a b).den * cmn a b := by
  have gp : 0 < Int.gcd a b := Int.gcd_pos_of_ne_zero_right _ hb
  have hg : Int.gcd b a = Int.gcd a b := Int.gcd_comm b a
  unfold cmn
  refine ⟨by split <;> omega, ?_, ?_⟩
  · rw [Rat.num_divInt, hg]
    obtain ⟨c, hc⟩ : (Int.gcd a b : Int) ∣ a := Int.gcd_dvd_left ..
    have k := sgn_mul (c := c) hb (show (0 : Int) < (Int.gcd a b : Int) by omega)
    rw [← hc] at k
    exact k
  · rw [Rat.den_divInt, if_neg hb, hg]
    obtain ⟨c, hc⟩ : (Int.gcd a b : Nat) ∣ b.natAbs := Int.ofNat_dvd.mp (by rw [Int.dvd_natAbs]; exact Int.gcd_dvd_right ..)
    have e1 : b.natAbs / Int.gcd a b = c := by rw [hc]; exact Nat.mul_div_cancel_left _ gp
    rw [e1]
    have e2 : (b.natAbs : Int) = (Int.gcd a b : Int) * (c : Int) := by rw [hc]; exact Int.natCast_mul _ _
    rcases Int.lt_trichotomy b 0 with h | h | h
    · rw [if_pos h, Int.mul_neg, Int.mul_comm, ← e2]
      omega
    · exact absurd h hb
    · rw [if_neg (by omega), Int.mul_comm, ← e2]
      omega
theorem part_eq {a b : Int} (hb : b ≠ 0) : encQ (Rat.divInt a b) = .tuple [.int (a.fdiv (cmn a b)), .int (b.fdiv (cmn a b))] := by
  obtain ⟨h0, h1, h2⟩ := divInt_parts (a := a) hb
  rw [Int.fdiv_eq_of_eq_mul_left h0 h1, Int.fdiv_eq_of_eq_mul_left h0 h2]
  rfl
theorem natAbs_le_mul {x c : Int} (hc : c ≠ 0) : x.natAbs ≤ (x * c).natAbs := by
  rw [Int.natAbs_mul]
  exact Nat.le_mul_of_pos_right _ (by omega)
theorem Bd.divInt {a b : Int} {k : Nat} (hb : b ≠ 0) (h1 : a.natAbs < 2 ^ k) (h2 : b.natAbs < 2 ^ k) : Bd k (Rat.divInt a b) := by
  obtain ⟨h0, e1, e2⟩ := divInt_parts (a := a) hb
  have l1 := natAbs_le_mul (x := (Rat.divInt a b).num) h0
  have l2 := natAbs_le_mul (x := ((Rat.divInt a b).den : Int)) h0
  rw [← e1] at l1
  rw [← e2] at l2
  exact ⟨by omega, by omega⟩
theorem den_ne (q : Rat) : (q.den : Int) ≠ 0 := by have := q.den_pos; omega
theorem add_eq (a b : Rat) : Rat.divInt (a.num * b.den + b.num * a.den) (a.den * b.den) = a + b := by
  rw [Rat.add_def', ← Int.natCast_mul, Rat.divInt_ofNat]
theorem mul_eq (a b : Rat) : Rat.divInt (a.num * b.num) (a.den * b.den) = a * b := by
  rw [Rat.mul_def', ← Int.natCast_mul, Rat.divInt_ofNat]
theorem div_eq (a b : Rat) : Rat.divInt (a.num * b.den) (a.den * b.num) = a / b := by
  rw [Rat.div_def, Rat.inv_def]
  conv => rhs; rw [← Rat.num_divInt_den a]
  rw [Rat.divInt_mul_divInt]
theorem mulInt_eq (a : Rat) (n : Int) : Rat.divInt (a.num * n) a.den = a * (n : Rat) := by
  rw [← mul_eq a (n : Rat), Rat.num_intCast, Rat.den_intCast]
  simp
theorem num_ne {q : Rat} (h : q ≠ 0) : q.num ≠ 0 := fun e => h (Rat.num_eq_zero.mp e)
theorem mul_lt_pow {i j : Int} {a b : Nat} (ha : i.natAbs < 2 ^ a) (hb : j.natAbs < 2 ^ b) : (i * j).natAbs < 2 ^ (a + b) := by
  rw [Int.natAbs_mul, Nat.pow_add]
  exact Nat.mul_lt_mul'' ha hb
theorem natCast_abs (n : Nat) : (n : Int).natAbs = n := Int.natAbs_natCast n
theorem add_lt_pow {i j : Int} {a : Nat} (ha : i.natAbs < 2 ^ a) (hb : j.natAbs < 2 ^ a) : (i + j).natAbs < 2 ^ (a + 1) := by
  have h := Int.natAbs_add_le i j
  have e : 2 ^ (a + 1) = 2 ^ a + 2 ^ a := by omega
  omega
theorem Bd.add {k l : Nat} {a b : Rat} (ha : Bd k a) (hb : Bd l b) : Bd (k + l + 1) (a + b) := by
  rw [← add_eq]
  have q := mul_lt_pow (i := (a.den : Int)) (j := (b.den : Int)) ha.d hb.d
  refine .divInt (by have := den_ne a; have := den_ne b; exact Int.mul_ne_zero ‹_› ‹_›) ?_ ?_
  · refine add_lt_pow (mul_lt_pow (j := (b.den : Int)) ha.n hb.d) ?_
    rw [Nat.add_comm k l]
    exact mul_lt_pow (j := (a.den : Int)) hb.n ha.d
  · exact Nat.lt_of_lt_of_le q (Nat.pow_le_pow_right (by decide) (by omega))
theorem Bd.neg {k : Nat} {a : Rat} (ha : Bd k a) : Bd k (-a) := ⟨by rw [Rat.neg_num, Int.natAbs_neg]; exact ha.n, by rw [Rat.neg_den]; exact ha.d⟩
theorem Bd.sub {k l : Nat} {a b : Rat} (ha : Bd k a) (hb : Bd l b) : Bd (k + l + 1) (a - b) := by
  rw [Rat.sub_eq_add_neg]
  exact ha.add hb.neg
theorem Bd.mul {k l : Nat} {a b : Rat} (ha : Bd k a) (hb : Bd l b) : Bd (k + l) (a * b) := by
  rw [← mul_eq]
  have q := mul_lt_pow (i := (a.den : Int)) (j := (b.den : Int)) ha.d hb.d
  exact .divInt (by have := den_ne a; have := den_ne b; exact Int.mul_ne_zero ‹_› ‹_›) (mul_lt_pow ha.n hb.n) q
theorem Bd.div {k l : Nat} {a b : Rat} (ha : Bd k a) (hb : Bd l b) (h0 : b ≠ 0) : Bd (k + l) (a / b) := by
  rw [← div_eq]
  exact .divInt (Int.mul_ne_zero (den_ne a) (num_ne h0)) (mul_lt_pow (j := (b.den : Int)) ha.n hb.d) (mul_lt_pow (i := (a.den : Int)) ha.d hb.n)
theorem Bd.int {k : Nat} {n : Int} (h : n.natAbs < 2 ^ k) (hk : 0 < k := by omega) : Bd k (n : Rat) := ⟨by rw [Rat.num_intCast]; exact h, by rw [Rat.den_intCast]; exact Nat.one_lt_pow (by omega) (by decide)⟩
theorem floor_natAbs (q : Rat) : q.floor.natAbs ≤ q.num.natAbs := by
  rw [Rat.floor_def]
  have := q.den_pos
  exact Int.natAbs_ediv_le_natAbs _ _
theorem Bd.floor {k : Nat} {q : Rat} (h : Bd k q) (hk : 0 < k := by omega) : Bd k (q.floor : Rat) := .int (Nat.lt_of_le_of_lt (floor_natAbs q) h.n) hk
def fracR (q : Rat) : Rat := ⟨q.num % q.den, q.den, q.den_nz, by
  have h := q.reduced
  have hd := q.den_pos
  unfold Nat.Coprime at h ⊢
  have e : Int.gcd (q.num % (q.den : Int)) q.den = Int.gcd q.num q.den := by
    have := Int.emod_add_mul_ediv q.num q.den
    conv => rhs; rw [← this]
    rw [Int.gcd_add_mul_left_left]
  unfold Int.gcd at e
  rw [Int.natAbs_natCast] at e
  rw [e]
  exact h⟩
theorem frac_eq (q : Rat) : frac q = fracR q := by
  have h : fracR q + (q.floor : Rat) = q := by
    rw [← add_eq, Rat.num_intCast, Rat.den_intCast]
    have e : (fracR q).num * ((1 : Nat) : Int) + q.floor * ((fracR q).den : Int) = q.num := by
      show q.num % (q.den : Int) * 1 + q.floor * (q.den : Int) = q.num
      rw [Rat.floor_def, Int.mul_one]
      have := Int.emod_add_mul_ediv q.num q.den
      rw [Int.mul_comm (q.num / _)]
      exact this
    rw [e]
    show Rat.divInt q.num ((q.den : Int) * 1) = q
    rw [Int.mul_one]
    exact Rat.num_divInt_den q
  unfold frac
  grind
theorem frac_enc (q : Rat) : encQ (frac q) = .tuple [.int (q.num % (q.den : Int)), .int (q.den : Int)] := by rw [frac_eq]; rfl
theorem Bd.frac {k : Nat} {q : Rat} (h : Bd k q) : Bd k (frac q) := by
  rw [frac_eq]
  refine ⟨?_, h.d⟩
  show (q.num % (q.den : Int)).natAbs < 2 ^ k
  have := q.den_pos
  have h2 := Int.emod_lt_of_pos q.num (show (0 : Int) < q.den by omega)
  have h3 := Int.emod_nonneg q.num (den_ne q)
  have := h.d
  omega
theorem le_iff (a b : Rat) : decide (a.num * (b.den : Int) ≤ b.num * (a.den : Int)) = decide (a ≤ b) := by
  exact decide_eq_decide.mpr (Rat.le_iff a b).symm
theorem lt_iff (a b : Rat) : decide (a.num * (b.den : Int) < b.num * (a.den : Int)) = decide (a < b) := by
  exact decide_eq_decide.mpr (Rat.lt_iff a b).symm
def ab (q : Rat) : Rat := if q < 0 then -q else q
theorem ab_enc (q : Rat) : encQ (ab q) = .tuple [.int (q.num.natAbs : Int), .int (q.den : Int)] := by
  unfold ab
  have h := Rat.num_nonneg (q := q)
  by_cases z : q < 0
  · rw [if_pos z]
    have : ¬ 0 ≤ q.num := fun y => by have := h.mp y; grind
    show PyData.tuple [.int (-q).num, .int ((-q).den : Int)] = _
    rw [Rat.neg_num, Rat.neg_den]
    have e : (q.num.natAbs : Int) = -q.num := by omega
    rw [e]
  · rw [if_neg z]
    have : 0 ≤ q.num := h.mpr (by grind)
    have e : (q.num.natAbs : Int) = q.num := by omega
    rw [e]
    rfl
theorem Bd.ab {k : Nat} {q : Rat} (h : Bd k q) : Bd k (ab q) := by
  unfold Sc.ab
  split
  · exact h.neg
  · exact h
theorem ab_ne {q : Rat} (h : q ≠ 0) : ab q ≠ 0 := by
  unfold ab
  split <;> grind
theorem encQ_inj {a b : Rat} (h : encQ a = encQ b) : a = b := by
  simp only [encQ, PyData.tuple.injEq, List.cons.injEq, PyData.int.injEq, and_true] at h
  exact Rat.ext h.1 (by omega)
/-- what round_by does -/
def rnd (p l : Rat) : Rat := p - ((p / ab l).floor : Rat) * ab l
theorem Bd.rnd {k l : Nat} {a b : Rat} (ha : Bd k a) (hb : Bd l b) (h0 : b ≠ 0) (hk : 0 < k := by omega) : Bd (k + k + l + l + 1) (rnd a b) := by
  unfold Sc.rnd
  exact (ha.sub (((ha.div hb.ab (ab_ne h0)).floor).mul hb.ab)).mono
end Sc

/-! E1 -/
set_option Elab.async false
set_option linter.all false
set_option maxRecDepth 100000
namespace Sc
open PySem PySem.Spec PyProof.Rows L2 Evl
abbrev Bi (i : Int) : Prop := i.natAbs < 2 ^ 8900
/-- small enough for one step of reckoning -/
abbrev Sm (q : Rat) : Prop := Bd 4400 q
theorem bi_mul {i j : Int} (h1 : i.natAbs < 2 ^ 4400) (h2 : j.natAbs < 2 ^ 4400) : CMulW i j := wide_mul h1 h2 (by decide) (by decide) (by decide)
theorem bi_div {i j : Int} (h0 : j ≠ 0) (h : Bi j) : CDivV i j := ⟨h0, Nat.lt_of_lt_of_le (PySem.Flt.log2_lt_of (by decide) h) (by decide)⟩
theorem gcd_bi {a b : Int} (hb : b ≠ 0) (h : Bi b) : Bi (Int.gcd a b : Int) := by
  have : Int.gcd a b ≤ b.natAbs := Nat.le_of_dvd (by omega) (Int.ofNat_dvd.mp (by rw [Int.dvd_natAbs]; exact Int.gcd_dvd_right ..))
  show (Int.gcd a b : Int).natAbs < 2 ^ 8900
  have h' : b.natAbs < 2 ^ 8900 := h
  omega
theorem gcd_ne {a b : Int} (hb : b ≠ 0) : (Int.gcd a b : Int) ≠ 0 := by
  have := Int.gcd_pos_of_ne_zero_right a hb
  omega
section
variable {S : Sta} {p : Bool} {e : Expr} {Γ : List En} {t t1 : Tn} {i : Int}
variable {a b c e5 e6 : Expr} {t2 t3 t4 t5 t6 : Tn} {d1 d2 d3 d4 d5 d6 : PD} {pos : Pos} {kk : Nat}
theorem de_tup0 {x1} : DE S p (.Tuple [] x1 pos) Γ t (.tuple []) t := de_tup (ds := []) da_nil (by decide)
theorem de_tup1 {x1} (h1 : DE S p a Γ t d1 t1) (n1 : Ns a := by intro _ _; rfl) : DE S p (.Tuple [a] x1 pos) Γ t (.tuple [d1]) t1 := de_tup (ds := [d1]) (da_cons h1 da_nil n1) (by show 1 ≤ _; decide)
theorem de_tup2 {x1} (h1 : DE S p a Γ t d1 t1) (h2 : DE S p b Γ t1 d2 t2) (n1 : Ns a := by intro _ _; rfl) (n2 : Ns b := by intro _ _; rfl) : DE S p (.Tuple [a, b] x1 pos) Γ t (.tuple [d1, d2]) t2 :=
  de_tup (ds := [d1, d2]) (da_cons h1 (da_cons h2 da_nil n2) n1) (by show 2 ≤ _; decide)
theorem de_tup3 {x1} (h1 : DE S p a Γ t d1 t1) (h2 : DE S p b Γ t1 d2 t2) (h3 : DE S p c Γ t2 d3 t3) (n1 : Ns a := by intro _ _; rfl) (n2 : Ns b := by intro _ _; rfl) (n3 : Ns c := by intro _ _; rfl) : DE S p (.Tuple [a, b, c] x1 pos) Γ t (.tuple [d1, d2, d3]) t3 :=
  de_tup (ds := [d1, d2, d3]) (da_cons h1 (da_cons h2 (da_cons h3 da_nil n3) n2) n1) (by show 3 ≤ _; decide)
theorem de_tup4 {x1} (h1 : DE S p a Γ t d1 t1) (h2 : DE S p b Γ t1 d2 t2) (h3 : DE S p c Γ t2 d3 t3) (h4 : DE S p e Γ t3 d4 t4) (n1 : Ns a := by intro _ _; rfl) (n2 : Ns b := by intro _ _; rfl) (n3 : Ns c := by intro _ _; rfl) (n4 : Ns e := by intro _ _; rfl) :
    DE S p (.Tuple [a, b, c, e] x1 pos) Γ t (.tuple [d1, d2, d3, d4]) t4 :=
  de_tup (ds := [d1, d2, d3, d4]) (da_cons h1 (da_cons h2 (da_cons h3 (da_cons h4 da_nil n4) n3) n2) n1) (by show 4 ≤ _; decide)
theorem dn_lst0 : DN S p (.List [] pos) Γ t [] t := dn_lst (ds := []) da_nil (by decide)
theorem dn_lst1 (h1 : DE S p a Γ t d1 t1) (n1 : Ns a := by intro _ _; rfl) : DN S p (.List [a] pos) Γ t [d1] t1 := dn_lst (ds := [d1]) (da_cons h1 da_nil n1) (by show 1 ≤ _; decide)
theorem dn_lst2 (h1 : DE S p a Γ t d1 t1) (h2 : DE S p b Γ t1 d2 t2) (n1 : Ns a := by intro _ _; rfl) (n2 : Ns b := by intro _ _; rfl) : DN S p (.List [a, b] pos) Γ t [d1, d2] t2 :=
  dn_lst (ds := [d1, d2]) (da_cons h1 (da_cons h2 da_nil n2) n1) (by show 2 ≤ _; decide)
theorem dn_lst3 (h1 : DE S p a Γ t d1 t1) (h2 : DE S p b Γ t1 d2 t2) (h3 : DE S p c Γ t2 d3 t3) (n1 : Ns a := by intro _ _; rfl) (n2 : Ns b := by intro _ _; rfl) (n3 : Ns c := by intro _ _; rfl) : DN S p (.List [a, b, c] pos) Γ t [d1, d2, d3] t3 :=
  dn_lst (ds := [d1, d2, d3]) (da_cons h1 (da_cons h2 (da_cons h3 da_nil n3) n2) n1) (by show 3 ≤ _; decide)
theorem dpt_none : DPt S p none Γ t none := trivial
theorem dpt_some (h : DE S p e Γ t (.int i) t) : DPt S p (some e) Γ t (some i) := h
end
section
variable {P : Program} {w : World} {K : PySem.W.Frag} {mg : Str → Option Value} {base : Heap}
theorem df_part_of (G : Ge K mg) : Df P w K mg base "part_of" 1 (fun es t r t' => ∃ (a b : Int), (b ≠ 0 ∧ Bi b) ∧ es = [.v (.int a), .v (.int b)] ∧ r = .d (encQ (Rat.divInt a b)) ∧ t' = t) := by
  refine mkD G 3 ["top", "bottom", "common"] ["top", "bottom"] (by decide +kernel) ⟨rfl, rfl, rfl, by decide +kernel, rfl, by decide +kernel, by decide +kernel⟩ (fun f fd F => F.bindsN fun _ _ _ _ _ _ us hl => match us, hl with | [_, _], _ => rfl) ?len ?_
  case len => intro es t r t' h; obtain ⟨_, _, _, rfl, _, _⟩ := h; rfl
  rintro p _ t _ _ ⟨a, b, hP, rfl, rfl, rfl⟩
  obtain ⟨hb, bb⟩ := hP
  have g0 := gcd_ne (a := a) hb
  have g1 := gcd_bi (a := a) hb bb
  (refine ds_cons ?_; refine ds_set 2 (de_gcd (de_n 0 rfl) (de_n 1 rfl) rfl G.gcd) ?_)
  (refine ds_cons ?_; refine ds_if (dt_cmp (dc_lt (de_n 1 rfl) de_int)) (fun h => ?_) fun h => ?_)
  · have h := of_decide_eq_true h
    (refine ds_one ?_; refine ds_set 2 (de_neg (de_n 2 rfl)) ?_)
    (refine ds_one ?_; refine ds_ret (de_tup2 (de_fdiv (de_n 0 rfl) (de_n 2 rfl) ?_) (de_fdiv (de_n 1 rfl) (de_n 2 rfl) ?_)) ?_)
    · exact bi_div (by omega) (by show (-_ : Int).natAbs < _; rw [Int.natAbs_neg]; exact g1)
    · exact bi_div (by omega) (by show (-_ : Int).natAbs < _; rw [Int.natAbs_neg]; exact g1)
    · exact ⟨by rw [part_eq hb, cmn, if_pos h], rfl⟩
  · have h := of_decide_eq_false h
    refine ds_nil ?_
    (refine ds_one ?_; refine ds_ret (de_tup2 (de_fdiv (de_n 0 rfl) (de_n 2 rfl) ?_) (de_fdiv (de_n 1 rfl) (de_n 2 rfl) ?_)) ?_)
    · exact bi_div g0 g1
    · exact bi_div g0 g1
    · exact ⟨by rw [part_eq hb, cmn, if_neg h], rfl⟩
theorem den_mul {a b : Rat} (ha : Sm a) (hb : Sm b) : (a.den : Int) * (b.den : Int) ≠ 0 ∧ Bi ((a.den : Int) * (b.den : Int)) :=
  ⟨Int.mul_ne_zero (den_ne a) (den_ne b), Nat.lt_of_lt_of_le (mul_lt_pow (i := (a.den : Int)) (j := (b.den : Int)) ha.d hb.d) (by decide)⟩
theorem den_num {a b : Rat} (ha : Sm a) (hb : Sm b) (h : b ≠ 0) : (a.den : Int) * b.num ≠ 0 ∧ Bi ((a.den : Int) * b.num) :=
  ⟨Int.mul_ne_zero (den_ne a) (num_ne h), Nat.lt_of_lt_of_le (mul_lt_pow (i := (a.den : Int)) ha.d hb.n) (by decide)⟩
theorem df_part_plus (G : Ge K mg) : Df P w K mg base "part_plus" 2 (fun es t r t' => ∃ (a b : Rat), (Sm a ∧ Sm b) ∧ es = [.v (encQ a), .v (encQ b)] ∧ r = .d (encQ (a + b)) ∧ t' = t) := by
  refine mkD G 4 ["one", "other"] ["one", "other"] (by decide +kernel) ⟨rfl, rfl, rfl, by decide +kernel, rfl, by decide +kernel, by decide +kernel⟩ (fun f fd F => F.bindsN fun _ _ _ _ _ _ us hl => match us, hl with | [_, _], _ => rfl) ?len ?_
  case len => intro es t r t' h; obtain ⟨_, _, _, rfl, _, _⟩ := h; rfl
  rintro p _ t _ _ ⟨a, b, hP, rfl, rfl, rfl⟩
  obtain ⟨ha, hb⟩ := hP
  (refine ds_one ?_; refine ds_ret (de_call (df_part_of G) (da_cons (de_add (de_mulW (de_ix (DE.tup (de_n 0 rfl)) de_int rfl) (de_ix (DE.tup (de_n 1 rfl)) de_int rfl) ?_) (de_mulW (de_ix (DE.tup (de_n 1 rfl)) de_int rfl) (de_ix (DE.tup (de_n 0 rfl)) de_int rfl) ?_)) (da_cons (de_mulW (de_ix (DE.tup (de_n 0 rfl)) de_int rfl) (de_ix (DE.tup (de_n 1 rfl)) de_int rfl) ?_) da_nil)) ⟨_, _, ?_, rfl, rfl, rfl⟩ rfl (Nat.le_of_ble_eq_true rfl)) ?_)
  · exact bi_mul ha.n hb.d
  · exact bi_mul hb.n ha.d
  · exact bi_mul ha.d hb.d
  · exact den_mul ha hb
  · exact ⟨congrArg encQ (add_eq a b), rfl⟩
theorem df_part_minus (G : Ge K mg) : Df P w K mg base "part_minus" 1 (fun es t r t' => ∃ (a : Rat), es = [.v (encQ a)] ∧ r = .d (encQ (-a)) ∧ t' = t) := by
  refine mkD G 5 ["one"] ["one"] (by decide +kernel) ⟨rfl, rfl, rfl, by decide +kernel, rfl, by decide +kernel, by decide +kernel⟩ (fun f fd F => F.bindsN fun _ _ _ _ _ _ us hl => match us, hl with | [_], _ => rfl) ?len ?_
  case len => intro es t r t' h; obtain ⟨_, rfl, _, _⟩ := h; rfl
  rintro p _ t _ _ ⟨a, rfl, rfl, rfl⟩
  (refine ds_one ?_; refine ds_ret (de_tup2 (de_neg (de_ix (DE.tup (de_n 0 rfl)) de_int rfl)) (de_ix (DE.tup (de_n 0 rfl)) de_int rfl)) ?_)
  exact ⟨by rw [encQ, Rat.neg_num, Rat.neg_den], rfl⟩
theorem df_part_less (G : Ge K mg) : Df P w K mg base "part_less" 3 (fun es t r t' => ∃ (a b : Rat), (Sm a ∧ Sm b) ∧ es = [.v (encQ a), .v (encQ b)] ∧ r = .d (encQ (a - b)) ∧ t' = t) := by
  refine mkD G 6 ["one", "other"] ["one", "other"] (by decide +kernel) ⟨rfl, rfl, rfl, by decide +kernel, rfl, by decide +kernel, by decide +kernel⟩ (fun f fd F => F.bindsN fun _ _ _ _ _ _ us hl => match us, hl with | [_, _], _ => rfl) ?len ?_
  case len => intro es t r t' h; obtain ⟨_, _, _, rfl, _, _⟩ := h; rfl
  rintro p _ t _ _ ⟨a, b, hP, rfl, rfl, rfl⟩
  obtain ⟨ha, hb⟩ := hP
  (refine ds_one ?_; refine ds_ret (de_call (df_part_plus G) (da_cons (de_n 0 rfl) (da_cons (de_call (df_part_minus G) (da_cons (de_n 1 rfl) da_nil) ⟨_, rfl, rfl, rfl⟩ rfl (Nat.le_of_ble_eq_true rfl)) da_nil)) ⟨_, _, ?_, rfl, rfl, rfl⟩ rfl (Nat.le_of_ble_eq_true rfl)) ?_)
  · exact ⟨ha, hb.neg⟩
  · exact ⟨by rw [Rat.sub_eq_add_neg], rfl⟩
theorem df_part_times (G : Ge K mg) : Df P w K mg base "part_times" 2 (fun es t r t' => ∃ (a b : Rat), (Sm a ∧ Sm b) ∧ es = [.v (encQ a), .v (encQ b)] ∧ r = .d (encQ (a * b)) ∧ t' = t) := by
  refine mkD G 7 ["one", "other"] ["one", "other"] (by decide +kernel) ⟨rfl, rfl, rfl, by decide +kernel, rfl, by decide +kernel, by decide +kernel⟩ (fun f fd F => F.bindsN fun _ _ _ _ _ _ us hl => match us, hl with | [_, _], _ => rfl) ?len ?_
  case len => intro es t r t' h; obtain ⟨_, _, _, rfl, _, _⟩ := h; rfl
  rintro p _ t _ _ ⟨a, b, hP, rfl, rfl, rfl⟩
  obtain ⟨ha, hb⟩ := hP
  (refine ds_one ?_; refine ds_ret (de_call (df_part_of G) (da_cons (de_mulW (de_ix (DE.tup (de_n 0 rfl)) de_int rfl) (de_ix (DE.tup (de_n 1 rfl)) de_int rfl) ?_) (da_cons (de_mulW (de_ix (DE.tup (de_n 0 rfl)) de_int rfl) (de_ix (DE.tup (de_n 1 rfl)) de_int rfl) ?_) da_nil)) ⟨_, _, ?_, rfl, rfl, rfl⟩ rfl (Nat.le_of_ble_eq_true rfl)) ?_)
  · exact bi_mul ha.n hb.n
  · exact bi_mul ha.d hb.d
  · exact den_mul ha hb
  · exact ⟨congrArg encQ (mul_eq a b), rfl⟩
theorem df_part_over (G : Ge K mg) : Df P w K mg base "part_over" 2 (fun es t r t' => ∃ (a b : Rat), (Sm a ∧ Sm b ∧ b ≠ 0) ∧ es = [.v (encQ a), .v (encQ b)] ∧ r = .d (encQ (a / b)) ∧ t' = t) := by
  refine mkD G 8 ["one", "other"] ["one", "other"] (by decide +kernel) ⟨rfl, rfl, rfl, by decide +kernel, rfl, by decide +kernel, by decide +kernel⟩ (fun f fd F => F.bindsN fun _ _ _ _ _ _ us hl => match us, hl with | [_, _], _ => rfl) ?len ?_
  case len => intro es t r t' h; obtain ⟨_, _, _, rfl, _, _⟩ := h; rfl
  rintro p _ t _ _ ⟨a, b, hP, rfl, rfl, rfl⟩
  obtain ⟨ha, hb, h0⟩ := hP
  (refine ds_one ?_; refine ds_ret (de_call (df_part_of G) (da_cons (de_mulW (de_ix (DE.tup (de_n 0 rfl)) de_int rfl) (de_ix (DE.tup (de_n 1 rfl)) de_int rfl) ?_) (da_cons (de_mulW (de_ix (DE.tup (de_n 0 rfl)) de_int rfl) (de_ix (DE.tup (de_n 1 rfl)) de_int rfl) ?_) da_nil)) ⟨_, _, ?_, rfl, rfl, rfl⟩ rfl (Nat.le_of_ble_eq_true rfl)) ?_)
  · exact bi_mul ha.n hb.d
  · exact bi_mul ha.d hb.n
  · exact den_num ha hb h0
  · exact ⟨congrArg encQ (div_eq a b), rfl⟩
theorem df_part_size (G : Ge K mg) : Df P w K mg base "part_size" 1 (fun es t r t' => ∃ (a : Rat), es = [.v (encQ a)] ∧ r = .d (encQ (ab a)) ∧ t' = t) := by
  refine mkD G 9 ["one"] ["one"] (by decide +kernel) ⟨rfl, rfl, rfl, by decide +kernel, rfl, by decide +kernel, by decide +kernel⟩ (fun f fd F => F.bindsN fun _ _ _ _ _ _ us hl => match us, hl with | [_], _ => rfl) ?len ?_
  case len => intro es t r t' h; obtain ⟨_, rfl, _, _⟩ := h; rfl
  rintro p _ t _ _ ⟨a, rfl, rfl, rfl⟩
  (refine ds_one ?_; refine ds_ret (de_tup2 (de_abs (de_ix (DE.tup (de_n 0 rfl)) de_int rfl) rfl (G.f _ (by decide))) (de_ix (DE.tup (de_n 0 rfl)) de_int rfl)) ?_)
  exact ⟨(ab_enc a).symm, rfl⟩
theorem df_at_most (G : Ge K mg) : Df P w K mg base "at_most" 1 (fun es t r t' => ∃ (a b : Rat), (Sm a ∧ Sm b) ∧ es = [.v (encQ a), .v (encQ b)] ∧ r = .d (.bool (decide (a ≤ b))) ∧ t' = t) := by
  refine mkD G 10 ["one", "other"] ["one", "other"] (by decide +kernel) ⟨rfl, rfl, rfl, by decide +kernel, rfl, by decide +kernel, by decide +kernel⟩ (fun f fd F => F.bindsN fun _ _ _ _ _ _ us hl => match us, hl with | [_, _], _ => rfl) ?len ?_
  case len => intro es t r t' h; obtain ⟨_, _, _, rfl, _, _⟩ := h; rfl
  rintro p _ t _ _ ⟨a, b, hP, rfl, rfl, rfl⟩
  obtain ⟨ha, hb⟩ := hP
  (refine ds_one ?_; refine ds_ret (de_cmp (dc_le (de_mulW (de_ix (DE.tup (de_n 0 rfl)) de_int rfl) (de_ix (DE.tup (de_n 1 rfl)) de_int rfl) ?_) (de_mulW (de_ix (DE.tup (de_n 1 rfl)) de_int rfl) (de_ix (DE.tup (de_n 0 rfl)) de_int rfl) ?_))) ?_)
  · exact bi_mul ha.n hb.d
  · exact bi_mul hb.n ha.d
  · exact ⟨congrArg PyData.bool (le_iff a b), rfl⟩
theorem fdiv_floor (q : Rat) : q.num.fdiv (q.den : Int) = q.floor := by
  rw [Rat.floor_def, Int.fdiv_eq_ediv_of_nonneg _ (by omega)]
theorem df_wholes_in (G : Ge K mg) : Df P w K mg base "wholes_in" 3 (fun es t r t' => ∃ (a b : Rat), (Bd 2000 a ∧ Bd 2000 b ∧ b ≠ 0) ∧ es = [.v (encQ a), .v (encQ b)] ∧ r = .d (.int (a / ab b).floor) ∧ t' = t) := by
  refine mkD G 11 ["one", "other", "far"] ["one", "other"] (by decide +kernel) ⟨rfl, rfl, rfl, by decide +kernel, rfl, by decide +kernel, by decide +kernel⟩ (fun f fd F => F.bindsN fun _ _ _ _ _ _ us hl => match us, hl with | [_, _], _ => rfl) ?len ?_
  case len => intro es t r t' h; obtain ⟨_, _, _, rfl, _, _⟩ := h; rfl
  rintro p _ t _ _ ⟨a, b, hP, rfl, rfl, rfl⟩
  obtain ⟨ha, hb, h0⟩ := hP
  have hq : Bd 4000 (a / ab b) := (ha.div hb.ab (ab_ne h0)).mono
  (refine ds_cons ?_; refine ds_set 2 (de_call (df_part_over G) (da_cons (de_n 0 rfl) (da_cons (de_call (df_part_size G) (da_cons (de_n 1 rfl) da_nil) ⟨_, rfl, rfl, rfl⟩ rfl (Nat.le_of_ble_eq_true rfl)) da_nil)) ⟨_, _, ?_, rfl, rfl, rfl⟩ rfl (Nat.le_of_ble_eq_true rfl)) ?_)
  · exact ⟨ha.mono, hb.ab.mono, ab_ne h0⟩
  (refine ds_one ?_; refine ds_ret (de_fdiv (de_ix (DE.tup (de_n 2 rfl)) de_int rfl) (de_ix (DE.tup (de_n 2 rfl)) de_int rfl) ?_) ?_)
  · exact bi_div (den_ne _) (Nat.lt_of_lt_of_le hq.d (by decide))
  · exact ⟨congrArg PyData.int (fdiv_floor _), rfl⟩
theorem encQ_int (n : Int) : encQ (n : Rat) = .tuple [.int n, .int 1] := by rw [encQ, Rat.num_intCast, Rat.den_intCast]; rfl
theorem df_round_by (G : Ge K mg) : Df P w K mg base "round_by" 4 (fun es t r t' => ∃ (a b : Rat), (Bd 1400 a ∧ Bd 100 b ∧ b ≠ 0) ∧ es = [.v (encQ a), .v (encQ b)] ∧ r = .d (encQ (rnd a b)) ∧ t' = t) := by
  refine mkD G 12 ["one", "other"] ["one", "other"] (by decide +kernel) ⟨rfl, rfl, rfl, by decide +kernel, rfl, by decide +kernel, by decide +kernel⟩ (fun f fd F => F.bindsN fun _ _ _ _ _ _ us hl => match us, hl with | [_, _], _ => rfl) ?len ?_
  case len => intro es t r t' h; obtain ⟨_, _, _, rfl, _, _⟩ := h; rfl
  rintro p _ t _ _ ⟨a, b, hP, rfl, rfl, rfl⟩
  obtain ⟨ha, hb, h0⟩ := hP
  have hf : Bd 1500 ((a / ab b).floor : Rat) := ((ha.div hb.ab (ab_ne h0)).floor).mono
  (refine ds_one ?_; refine ds_ret (de_call (df_part_less G) (da_cons (de_n 0 rfl) (da_cons (de_call (df_part_times G) (da_cons (DE.as (de_tup2 (de_call (df_wholes_in G) (da_cons (de_n 0 rfl) (da_cons (de_n 1 rfl) da_nil)) ⟨_, _, ?_, rfl, rfl, rfl⟩ rfl (Nat.le_of_ble_eq_true rfl)) de_int) (d' := encQ ((a / ab b).floor : Rat)) (by rfl)) (da_cons (de_call (df_part_size G) (da_cons (de_n 1 rfl) da_nil) ⟨_, rfl, rfl, rfl⟩ rfl (Nat.le_of_ble_eq_true rfl)) da_nil)) ⟨_, _, ?_, rfl, rfl, rfl⟩ rfl (Nat.le_of_ble_eq_true rfl)) da_nil)) ⟨_, _, ?_, rfl, rfl, rfl⟩ rfl (Nat.le_of_ble_eq_true rfl)) ?_)
  · exact ⟨ha.mono, hb.mono, h0⟩
  · exact ⟨hf.mono, hb.ab.mono⟩
  · exact ⟨ha.mono, (hf.mul hb.ab).mono⟩
  · exact ⟨rfl, rfl⟩
theorem df_angle_of (G : Ge K mg) : Df P w K mg base "angle_of" 1 (fun es t r t' => ∃ (a : Rat), es = [.v (encQ a)] ∧ r = .d (encQ (frac a)) ∧ t' = t) := by
  refine mkD G 13 ["one"] ["one"] (by decide +kernel) ⟨rfl, rfl, rfl, by decide +kernel, rfl, by decide +kernel, by decide +kernel⟩ (fun f fd F => F.bindsN fun _ _ _ _ _ _ us hl => match us, hl with | [_], _ => rfl) ?len ?_
  case len => intro es t r t' h; obtain ⟨_, rfl, _, _⟩ := h; rfl
  rintro p _ t _ _ ⟨a, rfl, rfl, rfl⟩
  (refine ds_one ?_; refine ds_ret (de_tup2 (de_mod (de_ix (DE.tup (de_n 0 rfl)) de_int rfl) (de_ix (DE.tup (de_n 0 rfl)) de_int rfl) ?_) (de_ix (DE.tup (de_n 0 rfl)) de_int rfl)) ?_)
  · have := a.den_pos
    show (0 : Int) < (a.den : Int)
    omega
  · exact ⟨(frac_enc a).symm, rfl⟩
end
end Sc

/-! E2 -/
set_option Elab.async false
set_option linter.all false
set_option maxRecDepth 100000
namespace Sc
open PySem PySem.Spec PyProof.Rows L2 Evl
section
variable {P : Program} {w : World} {K : PySem.W.Frag} {mg : Str → Option Value} {base : Heap}
theorem df__law_common (G : Ge K mg) : Df P w K mg base "_law_common" 1 (fun es t r t' => ∃ (a b : Int), es = [.v (.int a), .v (.int b)] ∧ r = .d (.int (Int.gcd a b : Nat)) ∧ t' = t) := by
  refine mkD G 45 ["_law_one_so", "_law_other_so"] ["_law_one_so", "_law_other_so"] (by decide +kernel) ⟨rfl, rfl, rfl, by decide +kernel, rfl, by decide +kernel, by decide +kernel⟩ (fun f fd F => F.bindsN fun _ _ _ _ _ _ us hl => match us, hl with | [_, _], _ => rfl) ?len ?_
  case len => intro es t r t' h; obtain ⟨_, _, rfl, _, _⟩ := h; rfl
  rintro p _ t0 _ t ⟨a, b, rfl, rfl, rfl⟩
  (refine ds_cons ?_; refine ds_par 0 1 (DE.dv (de_abs (de_n 0 rfl) rfl (G.f _ (by decide)))) (DE.dv (de_abs (de_n 1 rfl) rfl (G.f _ (by decide)))) ?_ (by intro env h; cases env; cases h; rfl))
  refine ds_cons ?_
  refine ds_while (fun m Γ t' => ∃ x y : Nat, Γ = [.v (.int x), .v (.int y)] ∧ t' = t ∧ Nat.gcd x y = Int.gcd a b ∧ m = y) b.natAbs ⟨a.natAbs, b.natAbs, rfl, rfl, rfl, rfl⟩ ?_
  rintro m _ _ ⟨x, y, rfl, rfl, hg, rfl⟩
  refine ⟨_, (dt_cmp (dc_gt (de_n 1 rfl) de_int)), fun h => ?_, fun h => ?_⟩
  · have h := of_decide_eq_true h
    have hy : 0 < m := by omega
    (refine ds_one ?_; refine ds_par 0 1 (DE.dv (de_n 1 rfl)) (DE.dv (de_mod (de_n 0 rfl) (de_n 1 rfl) ?_)) ?_ (by intro env h; cases env; cases h; rfl))
    · exact h
    · refine ⟨x % m, Nat.mod_lt _ hy, m, x % m, ?_, rfl, ?_, rfl⟩
      · show [En.v (.int (m : Int)), En.v (.int ((x : Int) % (m : Int)))] = _
        rw [Int.natCast_emod]
      · rw [← hg, Nat.gcd_comm x m, Nat.gcd_rec m x, Nat.gcd_comm]
  · have h := of_decide_eq_false h
    have hy : m = 0 := by omega
    subst hy
    (refine ds_one ?_; refine ds_ret (de_n 0 rfl) ?_)
    rw [Nat.gcd_zero_right] at hg
    exact ⟨by rw [hg], rfl⟩
theorem df__law_part (G : Ge K mg) : Df P w K mg base "_law_part" 2 (fun es t r t' => ∃ (a b : Int), (b ≠ 0 ∧ Bi b) ∧ es = [.v (.int a), .v (.int b)] ∧ r = .d (encQ (Rat.divInt a b)) ∧ t' = t) := by
  refine mkD G 46 ["_law_top_so", "_law_bottom_so", "_law_own"] ["_law_top_so", "_law_bottom_so"] (by decide +kernel) ⟨rfl, rfl, rfl, by decide +kernel, rfl, by decide +kernel, by decide +kernel⟩ (fun f fd F => F.bindsN fun _ _ _ _ _ _ us hl => match us, hl with | [_, _], _ => rfl) ?len ?_
  case len => intro es t r t' h; obtain ⟨_, _, _, rfl, _, _⟩ := h; rfl
  rintro p _ t0 _ t ⟨a, b, hP, rfl, rfl, rfl⟩
  obtain ⟨hb, bb⟩ := hP
  have g0 := gcd_ne (a := a) hb
  have g1 := gcd_bi (a := a) hb bb
  (refine ds_cons ?_; refine ds_set 2 (de_call (df__law_common G) (da_cons (de_n 0 rfl) (da_cons (de_n 1 rfl) da_nil)) ⟨_, _, rfl, rfl, rfl⟩ rfl (Nat.le_of_ble_eq_true rfl)) ?_)
  (refine ds_cons ?_; refine ds_if (dt_cmp (dc_lt (de_n 1 rfl) de_int)) (fun h => ?_) fun h => ?_)
  · have h := of_decide_eq_true h
    (refine ds_one ?_; refine ds_set 2 (de_neg (de_n 2 rfl)) ?_)
    (refine ds_one ?_; refine ds_ret (de_tup2 (de_fdiv (de_n 0 rfl) (de_n 2 rfl) ?_) (de_fdiv (de_n 1 rfl) (de_n 2 rfl) ?_)) ?_)
    · exact bi_div (by omega) (by show (-_ : Int).natAbs < _; rw [Int.natAbs_neg]; exact g1)
    · exact bi_div (by omega) (by show (-_ : Int).natAbs < _; rw [Int.natAbs_neg]; exact g1)
    · exact ⟨by rw [part_eq hb, cmn, if_pos h], rfl⟩
  · have h := of_decide_eq_false h
    refine ds_nil ?_
    (refine ds_one ?_; refine ds_ret (de_tup2 (de_fdiv (de_n 0 rfl) (de_n 2 rfl) ?_) (de_fdiv (de_n 1 rfl) (de_n 2 rfl) ?_)) ?_)
    · exact bi_div g0 g1
    · exact bi_div g0 g1
    · exact ⟨by rw [part_eq hb, cmn, if_neg h], rfl⟩
theorem df__law_sum (G : Ge K mg) : Df P w K mg base "_law_sum" 3 (fun es t r t' => ∃ (a b : Rat), (Sm a ∧ Sm b) ∧ es = [.v (encQ a), .v (encQ b)] ∧ r = .d (encQ (a + b)) ∧ t' = t) := by
  refine mkD G 47 ["_law_one_so", "_law_other_so"] ["_law_one_so", "_law_other_so"] (by decide +kernel) ⟨rfl, rfl, rfl, by decide +kernel, rfl, by decide +kernel, by decide +kernel⟩ (fun f fd F => F.bindsN fun _ _ _ _ _ _ us hl => match us, hl with | [_, _], _ => rfl) ?len ?_
  case len => intro es t r t' h; obtain ⟨_, _, _, rfl, _, _⟩ := h; rfl
  rintro p _ t0 _ t ⟨a, b, hP, rfl, rfl, rfl⟩
  obtain ⟨ha, hb⟩ := hP
  (refine ds_one ?_; refine ds_ret (de_call (df__law_part G) (da_cons (de_add (de_mulW (de_ix (DE.tup (de_n 0 rfl)) de_int rfl) (de_ix (DE.tup (de_n 1 rfl)) de_int rfl) ?_) (de_mulW (de_ix (DE.tup (de_n 1 rfl)) de_int rfl) (de_ix (DE.tup (de_n 0 rfl)) de_int rfl) ?_)) (da_cons (de_mulW (de_ix (DE.tup (de_n 0 rfl)) de_int rfl) (de_ix (DE.tup (de_n 1 rfl)) de_int rfl) ?_) da_nil)) ⟨_, _, ?_, rfl, rfl, rfl⟩ rfl (Nat.le_of_ble_eq_true rfl)) ?_)
  · exact bi_mul ha.n hb.d
  · exact bi_mul hb.n ha.d
  · exact bi_mul ha.d hb.d
  · exact den_mul ha hb
  · exact ⟨congrArg encQ (add_eq a b), rfl⟩
theorem df__law_minus (G : Ge K mg) : Df P w K mg base "_law_minus" 1 (fun es t r t' => ∃ (a : Rat), es = [.v (encQ a)] ∧ r = .d (encQ (-a)) ∧ t' = t) := by
  refine mkD G 48 ["_law_one_so"] ["_law_one_so"] (by decide +kernel) ⟨rfl, rfl, rfl, by decide +kernel, rfl, by decide +kernel, by decide +kernel⟩ (fun f fd F => F.bindsN fun _ _ _ _ _ _ us hl => match us, hl with | [_], _ => rfl) ?len ?_
  case len => intro es t r t' h; obtain ⟨_, rfl, _, _⟩ := h; rfl
  rintro p _ t0 _ t ⟨a, rfl, rfl, rfl⟩
  (refine ds_one ?_; refine ds_ret (de_tup2 (de_neg (de_ix (DE.tup (de_n 0 rfl)) de_int rfl)) (de_ix (DE.tup (de_n 0 rfl)) de_int rfl)) ?_)
  exact ⟨by rw [encQ, Rat.neg_num, Rat.neg_den], rfl⟩
theorem df__law_less (G : Ge K mg) : Df P w K mg base "_law_less" 4 (fun es t r t' => ∃ (a b : Rat), (Sm a ∧ Sm b) ∧ es = [.v (encQ a), .v (encQ b)] ∧ r = .d (encQ (a - b)) ∧ t' = t) := by
  refine mkD G 49 ["_law_one_so", "_law_other_so"] ["_law_one_so", "_law_other_so"] (by decide +kernel) ⟨rfl, rfl, rfl, by decide +kernel, rfl, by decide +kernel, by decide +kernel⟩ (fun f fd F => F.bindsN fun _ _ _ _ _ _ us hl => match us, hl with | [_, _], _ => rfl) ?len ?_
  case len => intro es t r t' h; obtain ⟨_, _, _, rfl, _, _⟩ := h; rfl
  rintro p _ t0 _ t ⟨a, b, hP, rfl, rfl, rfl⟩
  obtain ⟨ha, hb⟩ := hP
  (refine ds_one ?_; refine ds_ret (de_call (df__law_sum G) (da_cons (de_n 0 rfl) (da_cons (de_call (df__law_minus G) (da_cons (de_n 1 rfl) da_nil) ⟨_, rfl, rfl, rfl⟩ rfl (Nat.le_of_ble_eq_true rfl)) da_nil)) ⟨_, _, ?_, rfl, rfl, rfl⟩ rfl (Nat.le_of_ble_eq_true rfl)) ?_)
  · exact ⟨ha, hb.neg⟩
  · exact ⟨by rw [Rat.sub_eq_add_neg], rfl⟩
theorem df__law_prod (G : Ge K mg) : Df P w K mg base "_law_prod" 3 (fun es t r t' => ∃ (a b : Rat), (Sm a ∧ Sm b) ∧ es = [.v (encQ a), .v (encQ b)] ∧ r = .d (encQ (a * b)) ∧ t' = t) := by
  refine mkD G 50 ["_law_one_so", "_law_other_so"] ["_law_one_so", "_law_other_so"] (by decide +kernel) ⟨rfl, rfl, rfl, by decide +kernel, rfl, by decide +kernel, by decide +kernel⟩ (fun f fd F => F.bindsN fun _ _ _ _ _ _ us hl => match us, hl with | [_, _], _ => rfl) ?len ?_
  case len => intro es t r t' h; obtain ⟨_, _, _, rfl, _, _⟩ := h; rfl
  rintro p _ t0 _ t ⟨a, b, hP, rfl, rfl, rfl⟩
  obtain ⟨ha, hb⟩ := hP
  (refine ds_one ?_; refine ds_ret (de_call (df__law_part G) (da_cons (de_mulW (de_ix (DE.tup (de_n 0 rfl)) de_int rfl) (de_ix (DE.tup (de_n 1 rfl)) de_int rfl) ?_) (da_cons (de_mulW (de_ix (DE.tup (de_n 0 rfl)) de_int rfl) (de_ix (DE.tup (de_n 1 rfl)) de_int rfl) ?_) da_nil)) ⟨_, _, ?_, rfl, rfl, rfl⟩ rfl (Nat.le_of_ble_eq_true rfl)) ?_)
  · exact bi_mul ha.n hb.n
  · exact bi_mul ha.d hb.d
  · exact den_mul ha hb
  · exact ⟨congrArg encQ (mul_eq a b), rfl⟩
theorem df__law_quot (G : Ge K mg) : Df P w K mg base "_law_quot" 3 (fun es t r t' => ∃ (a b : Rat), (Sm a ∧ Sm b ∧ b ≠ 0) ∧ es = [.v (encQ a), .v (encQ b)] ∧ r = .d (encQ (a / b)) ∧ t' = t) := by
  refine mkD G 51 ["_law_one_so", "_law_other_so"] ["_law_one_so", "_law_other_so"] (by decide +kernel) ⟨rfl, rfl, rfl, by decide +kernel, rfl, by decide +kernel, by decide +kernel⟩ (fun f fd F => F.bindsN fun _ _ _ _ _ _ us hl => match us, hl with | [_, _], _ => rfl) ?len ?_
  case len => intro es t r t' h; obtain ⟨_, _, _, rfl, _, _⟩ := h; rfl
  rintro p _ t0 _ t ⟨a, b, hP, rfl, rfl, rfl⟩
  obtain ⟨ha, hb, h0⟩ := hP
  (refine ds_one ?_; refine ds_ret (de_call (df__law_part G) (da_cons (de_mulW (de_ix (DE.tup (de_n 0 rfl)) de_int rfl) (de_ix (DE.tup (de_n 1 rfl)) de_int rfl) ?_) (da_cons (de_mulW (de_ix (DE.tup (de_n 0 rfl)) de_int rfl) (de_ix (DE.tup (de_n 1 rfl)) de_int rfl) ?_) da_nil)) ⟨_, _, ?_, rfl, rfl, rfl⟩ rfl (Nat.le_of_ble_eq_true rfl)) ?_)
  · exact bi_mul ha.n hb.d
  · exact bi_mul ha.d hb.n
  · exact den_num ha hb h0
  · exact ⟨congrArg encQ (div_eq a b), rfl⟩
theorem df__law_times (G : Ge K mg) : Df P w K mg base "_law_times" 3 (fun es t r t' => ∃ (a : Rat) (n : Int), (Sm a ∧ n.natAbs < 2 ^ 4400) ∧ es = [.v (encQ a), .v (.int n)] ∧ r = .d (encQ (a * (n : Rat))) ∧ t' = t) := by
  refine mkD G 52 ["_law_one_so", "_law_number_so"] ["_law_one_so", "_law_number_so"] (by decide +kernel) ⟨rfl, rfl, rfl, by decide +kernel, rfl, by decide +kernel, by decide +kernel⟩ (fun f fd F => F.bindsN fun _ _ _ _ _ _ us hl => match us, hl with | [_, _], _ => rfl) ?len ?_
  case len => intro es t r t' h; obtain ⟨_, _, _, rfl, _, _⟩ := h; rfl
  rintro p _ t0 _ t ⟨a, n, hP, rfl, rfl, rfl⟩
  obtain ⟨ha, hb⟩ := hP
  (refine ds_one ?_; refine ds_ret (de_call (df__law_part G) (da_cons (de_mulW (de_ix (DE.tup (de_n 0 rfl)) de_int rfl) (de_n 1 rfl) ?_) (da_cons (de_ix (DE.tup (de_n 0 rfl)) de_int rfl) da_nil)) ⟨_, _, ?_, rfl, rfl, rfl⟩ rfl (Nat.le_of_ble_eq_true rfl)) ?_)
  · exact bi_mul ha.n hb
  · exact ⟨den_ne a, Nat.lt_of_lt_of_le ha.d (by decide)⟩
  · exact ⟨congrArg encQ (mulInt_eq a n), rfl⟩
theorem df__law_under (G : Ge K mg) : Df P w K mg base "_law_under" 1 (fun es t r t' => ∃ (a b : Rat), (Sm a ∧ Sm b) ∧ es = [.v (encQ a), .v (encQ b)] ∧ r = .d (.bool (decide (a < b))) ∧ t' = t) := by
  refine mkD G 53 ["_law_one_so", "_law_other_so"] ["_law_one_so", "_law_other_so"] (by decide +kernel) ⟨rfl, rfl, rfl, by decide +kernel, rfl, by decide +kernel, by decide +kernel⟩ (fun f fd F => F.bindsN fun _ _ _ _ _ _ us hl => match us, hl with | [_, _], _ => rfl) ?len ?_
  case len => intro es t r t' h; obtain ⟨_, _, _, rfl, _, _⟩ := h; rfl
  rintro p _ t0 _ t ⟨a, b, hP, rfl, rfl, rfl⟩
  obtain ⟨ha, hb⟩ := hP
  (refine ds_one ?_; refine ds_ret (de_cmp (dc_lt (de_mulW (de_ix (DE.tup (de_n 0 rfl)) de_int rfl) (de_ix (DE.tup (de_n 1 rfl)) de_int rfl) ?_) (de_mulW (de_ix (DE.tup (de_n 1 rfl)) de_int rfl) (de_ix (DE.tup (de_n 0 rfl)) de_int rfl) ?_))) ?_)
  · exact bi_mul ha.n hb.d
  · exact bi_mul hb.n ha.d
  · exact ⟨congrArg PyData.bool (lt_iff a b), rfl⟩
theorem df__law_size (G : Ge K mg) : Df P w K mg base "_law_size" 1 (fun es t r t' => ∃ (a : Rat), es = [.v (encQ a)] ∧ r = .d (encQ (ab a)) ∧ t' = t) := by
  refine mkD G 54 ["_law_one_so"] ["_law_one_so"] (by decide +kernel) ⟨rfl, rfl, rfl, by decide +kernel, rfl, by decide +kernel, by decide +kernel⟩ (fun f fd F => F.bindsN fun _ _ _ _ _ _ us hl => match us, hl with | [_], _ => rfl) ?len ?_
  case len => intro es t r t' h; obtain ⟨_, rfl, _, _⟩ := h; rfl
  rintro p _ t0 _ t ⟨a, rfl, rfl, rfl⟩
  (refine ds_one ?_; refine ds_ret (de_tup2 (de_abs (de_ix (DE.tup (de_n 0 rfl)) de_int rfl) rfl (G.f _ (by decide))) (de_ix (DE.tup (de_n 0 rfl)) de_int rfl)) ?_)
  exact ⟨(ab_enc a).symm, rfl⟩
theorem df__law_floor (G : Ge K mg) : Df P w K mg base "_law_floor" 1 (fun es t r t' => ∃ (a : Rat), (Sm a) ∧ es = [.v (encQ a)] ∧ r = .d (.int a.floor) ∧ t' = t) := by
  refine mkD G 55 ["_law_one_so"] ["_law_one_so"] (by decide +kernel) ⟨rfl, rfl, rfl, by decide +kernel, rfl, by decide +kernel, by decide +kernel⟩ (fun f fd F => F.bindsN fun _ _ _ _ _ _ us hl => match us, hl with | [_], _ => rfl) ?len ?_
  case len => intro es t r t' h; obtain ⟨_, _, rfl, _, _⟩ := h; rfl
  rintro p _ t0 _ t ⟨a, hP, rfl, rfl, rfl⟩
  (refine ds_one ?_; refine ds_ret (de_fdiv (de_ix (DE.tup (de_n 0 rfl)) de_int rfl) (de_ix (DE.tup (de_n 0 rfl)) de_int rfl) ?_) ?_)
  · exact bi_div (den_ne _) (Nat.lt_of_lt_of_le hP.d (by decide))
  · exact ⟨congrArg PyData.int (fdiv_floor _), rfl⟩
theorem df__law_round (G : Ge K mg) : Df P w K mg base "_law_round" 5 (fun es t r t' => ∃ (a b : Rat), (Bd 1400 a ∧ Bd 100 b ∧ b ≠ 0) ∧ es = [.v (encQ a), .v (encQ b)] ∧ r = .d (encQ (rnd a b)) ∧ t' = t) := by
  refine mkD G 56 ["_law_one_so", "_law_other_so", "_law_many_so"] ["_law_one_so", "_law_other_so"] (by decide +kernel) ⟨rfl, rfl, rfl, by decide +kernel, rfl, by decide +kernel, by decide +kernel⟩ (fun f fd F => F.bindsN fun _ _ _ _ _ _ us hl => match us, hl with | [_, _], _ => rfl) ?len ?_
  case len => intro es t r t' h; obtain ⟨_, _, _, rfl, _, _⟩ := h; rfl
  rintro p _ t0 _ t ⟨a, b, hP, rfl, rfl, rfl⟩
  obtain ⟨ha, hb, h0⟩ := hP
  have hq : Bd 1500 (a / ab b) := (ha.div hb.ab (ab_ne h0)).mono
  have hf : Bd 1500 ((a / ab b).floor : Rat) := hq.floor
  (refine ds_cons ?_; refine ds_set 2 (de_call (df__law_floor G) (da_cons (de_call (df__law_quot G) (da_cons (de_n 0 rfl) (da_cons (de_call (df__law_size G) (da_cons (de_n 1 rfl) da_nil) ⟨_, rfl, rfl, rfl⟩ rfl (Nat.le_of_ble_eq_true rfl)) da_nil)) ⟨_, _, ?_, rfl, rfl, rfl⟩ rfl (Nat.le_of_ble_eq_true rfl)) da_nil) ⟨_, ?_, rfl, rfl, rfl⟩ rfl (Nat.le_of_ble_eq_true rfl)) ?_)
  · exact ⟨ha.mono, hb.ab.mono, ab_ne h0⟩
  · exact hq.mono
  (refine ds_one ?_; refine ds_ret (de_call (df__law_less G) (da_cons (de_n 0 rfl) (da_cons (de_call (df__law_times G) (da_cons (de_call (df__law_size G) (da_cons (de_n 1 rfl) da_nil) ⟨_, rfl, rfl, rfl⟩ rfl (Nat.le_of_ble_eq_true rfl)) (da_cons (de_n 2 rfl) da_nil)) ⟨_, _, ?_, rfl, rfl, rfl⟩ rfl (Nat.le_of_ble_eq_true rfl)) da_nil)) ⟨_, _, ?_, rfl, rfl, rfl⟩ rfl (Nat.le_of_ble_eq_true rfl)) ?_)
  · exact ⟨hb.ab.mono, Nat.lt_of_lt_of_le (Nat.lt_of_le_of_lt (floor_natAbs _) hq.n) (Nat.pow_le_pow_right (by decide) (by decide))⟩
  · exact ⟨ha.mono, (hb.ab.mul hf).mono⟩
  · exact ⟨by rw [rnd, Rat.mul_comm], rfl⟩
theorem df__law_angle (G : Ge K mg) : Df P w K mg base "_law_angle" 1 (fun es t r t' => ∃ (a : Rat), es = [.v (encQ a)] ∧ r = .d (encQ (frac a)) ∧ t' = t) := by
  refine mkD G 57 ["_law_one_so"] ["_law_one_so"] (by decide +kernel) ⟨rfl, rfl, rfl, by decide +kernel, rfl, by decide +kernel, by decide +kernel⟩ (fun f fd F => F.bindsN fun _ _ _ _ _ _ us hl => match us, hl with | [_], _ => rfl) ?len ?_
  case len => intro es t r t' h; obtain ⟨_, rfl, _, _⟩ := h; rfl
  rintro p _ t0 _ t ⟨a, rfl, rfl, rfl⟩
  (refine ds_one ?_; refine ds_ret (de_tup2 (de_mod (de_ix (DE.tup (de_n 0 rfl)) de_int rfl) (de_ix (DE.tup (de_n 0 rfl)) de_int rfl) ?_) (de_ix (DE.tup (de_n 0 rfl)) de_int rfl)) ?_)
  · have := a.den_pos
    show (0 : Int) < (a.den : Int)
    omega
  · exact ⟨(frac_enc a).symm, rfl⟩
end
end Sc

/-! M2 -/
set_option Elab.async false
set_option linter.all false
set_option maxRecDepth 100000
namespace Sc
open PySem
/-! ### sorted lists without doubles -/
structure Lo {α : Type} (le : α → α → Bool) : Prop where
  tot : ∀ a b, le a b = true ∨ le b a = true
  tr : ∀ a b c, le a b = true → le b c = true → le a c = true
  anti : ∀ a b, le a b = true → le b a = true → a = b
section
variable {α : Type} [DecidableEq α] (le : α → α → Bool)
def insU (x : α) : List α → List α
  | [] => [x]
  | y :: ys => if x = y then y :: ys else if le x y = true then x :: y :: ys else y :: insU x ys
def setS (xs : List α) : List α := xs.foldr (insU le) []
def insD (x : α) : List α → List α
  | [] => [x]
  | y :: ys => if le x y = true then x :: y :: ys else y :: insD x ys
def srt (xs : List α) : List α := xs.foldr (insD le) []
variable {le}
theorem mem_insU {x y : α} : ∀ {l : List α}, y ∈ insU le x l ↔ y = x ∨ y ∈ l
  | [] => by simp [insU]
  | z :: l => by
    unfold insU
    split
    · rename_i h
      subst h
      simp
    · split
      · simp
      · simp only [List.mem_cons, mem_insU (l := l)]
        constructor
        · rintro (h | h | h) <;> simp [h]
        · rintro (h | h | h) <;> simp [h]
theorem mem_setS {y : α} : ∀ {l : List α}, y ∈ setS le l ↔ y ∈ l
  | [] => by simp [setS]
  | x :: l => by
    show y ∈ insU le x (setS le l) ↔ _
    rw [mem_insU, mem_setS (l := l), List.mem_cons]
abbrev Asc (le : α → α → Bool) (l : List α) : Prop := l.Pairwise fun a b => le a b = true ∧ a ≠ b
theorem insU_asc (o : Lo le) (x : α) : ∀ {l : List α}, Asc le l → Asc le (insU le x l)
  | [], _ => by simp [insU, Asc]
  | y :: l, h => by
    obtain ⟨h1, h2⟩ := List.pairwise_cons.mp h
    unfold insU
    split
    · exact h
    · rename_i ne
      split
      · rename_i hl
        refine List.pairwise_cons.mpr ⟨fun z hz => ?_, h⟩
        rcases List.mem_cons.mp hz with e | hz
        · subst e
          exact ⟨hl, ne⟩
        · refine ⟨o.tr _ _ _ hl (h1 z hz).1, fun e => ?_⟩
          subst e
          exact ne (o.anti _ _ hl (h1 _ hz).1)
      · rename_i hl
        refine List.pairwise_cons.mpr ⟨fun z hz => ?_, insU_asc o x h2⟩
        rcases mem_insU.mp hz with e | hz
        · subst e
          exact ⟨(o.tot z y).resolve_left hl, fun e => ne e.symm⟩
        · exact h1 z hz
theorem setS_asc (o : Lo le) : ∀ l : List α, Asc le (setS le l)
  | [] => List.Pairwise.nil
  | x :: l => insU_asc o x (setS_asc o l)
theorem Asc.nodup {l : List α} (h : Asc le l) : l.Nodup := h.imp fun z => z.2
theorem asc_uniq (o : Lo le) {l m : List α} (hl : Asc le l) (hm : Asc le m) (h : ∀ x, x ∈ l ↔ x ∈ m) : l = m :=
  List.Perm.eq_of_pairwise (le := fun a b => le a b = true ∧ a ≠ b) (fun a b _ _ x y => o.anti a b x.1 y.1) hl hm ((List.perm_ext_iff_of_nodup hl.nodup hm.nodup).mpr h)
theorem setS_uniq (o : Lo le) {l m : List α} (hm : Asc le m) (h : ∀ x, x ∈ m ↔ x ∈ l) : setS le l = m :=
  asc_uniq o (setS_asc o l) hm fun x => by rw [mem_setS, h]
theorem setS_congr (o : Lo le) {l m : List α} (h : ∀ x, x ∈ l ↔ x ∈ m) : setS le l = setS le m :=
  setS_uniq o (setS_asc o m) fun x => by rw [mem_setS, h]
theorem setS_id (o : Lo le) {l : List α} (h : Asc le l) : setS le l = l := setS_uniq o h fun _ => Iff.rfl
theorem insU_len (x : α) : ∀ l : List α, (insU le x l).length ≤ l.length + 1
  | [] => by simp [insU]
  | y :: l => by
    unfold insU
    have := insU_len x l
    split
    · simp
    · split <;> simp <;> omega
theorem setS_len : ∀ l : List α, (setS le l).length ≤ l.length
  | [] => Nat.le_refl _
  | x :: l => Nat.le_trans (insU_len x (setS le l)) (Nat.succ_le_succ (setS_len l))
theorem insD_perm (x : α) : ∀ l : List α, (insD le x l).Perm (x :: l)
  | [] => .refl _
  | y :: l => by
    unfold insD
    split
    · exact .refl _
    · exact ((insD_perm x l).cons y).trans (.swap x y l)
theorem srt_perm : ∀ l : List α, (srt le l).Perm l
  | [] => .refl _
  | x :: l => (insD_perm x (srt le l)).trans ((srt_perm l).cons x)
abbrev Nd (le : α → α → Bool) (l : List α) : Prop := l.Pairwise fun a b => le a b = true
theorem insD_nd (o : Lo le) (x : α) : ∀ {l : List α}, Nd le l → Nd le (insD le x l)
  | [], _ => by simp [insD, Nd]
  | y :: l, h => by
    obtain ⟨h1, h2⟩ := List.pairwise_cons.mp h
    unfold insD
    split
    · rename_i hl
      refine List.pairwise_cons.mpr ⟨fun z hz => ?_, h⟩
      rcases List.mem_cons.mp hz with e | hz
      · subst e
        exact hl
      · exact o.tr _ _ _ hl (h1 z hz)
    · rename_i hl
      refine List.pairwise_cons.mpr ⟨fun z hz => ?_, insD_nd o x h2⟩
      rcases List.mem_cons.mp ((insD_perm x l).mem_iff.mp hz) with e | hz
      · subst e
        exact (o.tot z y).resolve_left hl
      · exact h1 z hz
theorem srt_nd (o : Lo le) : ∀ l : List α, Nd le (srt le l)
  | [] => List.Pairwise.nil
  | x :: l => insD_nd o x (srt_nd o l)
theorem nd_asc {l : List α} (h : Nd le l) (hn : l.Nodup) : Asc le l := by
  have := List.Pairwise.and h hn
  exact this
theorem srt_set (o : Lo le) {l : List α} (hn : l.Nodup) : srt le l = setS le l :=
  (setS_uniq o (nd_asc (srt_nd o l) ((srt_perm l).nodup_iff.mpr hn)) fun x => (srt_perm l).mem_iff).symm
theorem nd_uniq (o : Lo le) {l m : List α} (hl : Nd le l) (hm : Nd le m) (h : l.Perm m) : l = m :=
  List.Perm.eq_of_pairwise (le := fun a b => le a b = true) (fun a b _ _ x y => o.anti a b x y) hl hm h
end
/-! ### the figures -/
inductive Ln where
  | ring (q : Rat)
  | flute (q : Rat)
  | lead (l p : Rat)
  deriving DecidableEq
structure Gr where
  l : Ln
  s : Rat
  e : Rat
  d : Int
  deriving DecidableEq
structure Br where
  len : Rat
  gs : List Gr
  deriving DecidableEq
def encL : Ln → PyData
  | .ring q => .tuple [.str "ring", encQ q]
  | .flute q => .tuple [.str "flute", encQ q]
  | .lead l p => .tuple [.str "lead", encQ l, encQ p]
def encG (g : Gr) : PyData := .tuple [encL g.l, encQ g.s, encQ g.e, .int g.d]
def encB (b : Br) : PyData := .tuple [encQ b.len, .tuple (b.gs.map encG)]
theorem encL_inj {a b : Ln} (h : encL a = encL b) : a = b := by
  cases a <;> cases b <;> simp [encL] at h
  · rw [encQ_inj h]
  · exact absurd h.1 (by decide)
  · exact absurd h.1 (by decide)
  · rw [encQ_inj h]
  · rw [encQ_inj h.1, encQ_inj h.2]
theorem encG_inj {a b : Gr} (h : encG a = encG b) : a = b := by
  cases a
  cases b
  simp only [encG, PyData.tuple.injEq, List.cons.injEq, PyData.int.injEq, and_true] at h
  obtain ⟨h1, h2, h3, h4⟩ := h
  rw [encL_inj h1, encQ_inj h2, encQ_inj h3, h4]
theorem map_inj {α β : Type} {f : α → β} (h : ∀ a b, f a = f b → a = b) : ∀ {l m : List α}, l.map f = m.map f → l = m
  | [], [], _ => rfl
  | [], _ :: _, e => by simp at e
  | _ :: _, [], e => by simp at e
  | a :: l, b :: m, e => by
    simp only [List.map_cons, List.cons.injEq] at e
    rw [h _ _ e.1, map_inj h e.2]
theorem encB_inj {a b : Br} (h : encB a = encB b) : a = b := by
  cases a
  cases b
  simp only [encB, PyData.tuple.injEq, List.cons.injEq, and_true] at h
  rw [encQ_inj h.1, map_inj (fun _ _ => encG_inj) h.2]
end Sc

/-! M3 -/
set_option Elab.async false
set_option linter.all false
set_option maxRecDepth 100000
namespace Sc
open PySem PySem.Spec PyProof.Rows L2 Evl PySem.W
/-! ### equality of data without truth values -/
mutual
def nb : PyData → Bool
  | .none => true
  | .int _ => true
  | .str x => PyData.strOk x
  | .list xs => nbAll xs
  | .tuple xs => nbAll xs
  | _ => false
def nbAll : List PyData → Bool
  | [] => true
  | x :: xs => nb x && nbAll xs
end
mutual
theorem nb_lay : ∀ d : PyData, nb d = true → d.canLay0 = true
  | .none, _ => rfl
  | .int _, _ => rfl
  | .str x, h => by rw [nb] at h; rw [PyData.canLay0]; exact h
  | .list xs, h => by rw [nb] at h; rw [PyData.canLay0]; exact nbs_lay xs h
  | .tuple xs, h => by rw [nb] at h; rw [PyData.canLay0]; exact nbs_lay xs h
  | .bool _, h => by simp [nb] at h
  | .dict _, h => by simp [nb] at h
theorem nbs_lay : ∀ ds : List PyData, nbAll ds = true → PyData.canLayAll0 ds = true
  | [], _ => rfl
  | d :: ds, h => by
    rw [nbAll, Bool.and_eq_true] at h
    rw [PyData.canLayAll0, nb_lay d h.1, nbs_lay ds h.2]
    rfl
end
mutual
theorem nb_eqv : ∀ d e : PyData, nb d = true → nb e = true → PyData.eqv d e = true → d = e
  | .none, e, _, he, h => by cases e <;> first | rfl | simp [PyData.eqv, nb] at h he
  | .int i, e, _, he, h => by
    cases e <;> simp [PyData.eqv, nb] at h he
    rw [h]
  | .str x, e, _, he, h => by
    cases e <;> simp [PyData.eqv, nb] at h he
    rw [h]
  | .list xs, e, hd, he, h => by
    cases e <;> simp [PyData.eqv, nb] at h he hd
    rw [nbs_eqv xs _ hd he h]
  | .tuple xs, e, hd, he, h => by
    cases e <;> simp [PyData.eqv, nb] at h he hd
    rw [nbs_eqv xs _ hd he h]
  | .bool _, _, hd, _, _ => by simp [nb] at hd
  | .dict _, _, hd, _, _ => by simp [nb] at hd
theorem nbs_eqv : ∀ ds es : List PyData, nbAll ds = true → nbAll es = true → PyData.eqvAll ds es = true → ds = es
  | [], [], _, _, _ => rfl
  | [], _ :: _, _, _, h => by simp [PyData.eqvAll] at h
  | _ :: _, [], _, _, h => by simp [PyData.eqvAll] at h
  | d :: ds, e :: es, hd, he, h => by
    rw [nbAll, Bool.and_eq_true] at hd he
    rw [PyData.eqvAll, Bool.and_eq_true] at h
    rw [nb_eqv d e hd.1 he.1 h.1, nbs_eqv ds es hd.2 he.2 h.2]
end
theorem eqv_self : ∀ d : PyData, nb d = true → PyData.eqv d d = true := fun d h => SeqAt.eqv_refl d (nb_lay d h)
theorem eqv_dec {α : Type} [DecidableEq α] {enc : α → PyData} (hi : ∀ a b, enc a = enc b → a = b) (hn : ∀ a, nb (enc a) = true) (a b : α) : PyData.eqv (enc a) (enc b) = decide (a = b) := by
  by_cases h : a = b
  · subst h
    rw [eqv_self _ (hn a), decide_eq_true rfl]
  · rw [decide_eq_false h]
    cases q : PyData.eqv (enc a) (enc b) with
    | false => rfl
    | true => exact absurd (hi _ _ (nb_eqv _ _ (hn a) (hn b) q)) h
theorem eqv_ne {d e : PyData} (hd : nb d = true) (he : nb e = true) (h : d ≠ e) : PyData.eqv d e = false := by
  cases q : PyData.eqv d e with
  | false => rfl
  | true => exact absurd (nb_eqv _ _ hd he q) h
theorem nbAll_map {α : Type} {enc : α → PyData} (hn : ∀ a, nb (enc a) = true) : ∀ l : List α, nbAll (l.map enc) = true
  | [] => rfl
  | a :: l => by rw [List.map_cons, nbAll, hn a, nbAll_map hn l]; rfl
theorem depthAll_map {α : Type} {enc : α → PyData} {n : Nat} (hn : ∀ a, (enc a).depth ≤ n) : ∀ l : List α, PyData.depthAll (l.map enc) ≤ n
  | [] => Nat.zero_le _
  | a :: l => by
    rw [List.map_cons, PyData.depthAll]
    have := hn a
    have := depthAll_map hn l
    omega
theorem shp {d : PyData} (h : nb d = true) (hd : d.depth ≤ 64) : SeqAt.shaped d = true := by
  unfold SeqAt.shaped
  rw [nb_lay d h, decide_eq_true hd]
  rfl
/-! ### the encodings -/
theorem nb_Q (q : Rat) : nb (encQ q) = true := rfl
theorem dp_Q (q : Rat) : (encQ q).depth = 1 := rfl
theorem nb_L (l : Ln) : nb (encL l) = true := by
  cases l <;> simp only [encL, nb, nbAll, nb_Q, Bool.and_true] <;> decide +kernel
theorem dp_L (l : Ln) : (encL l).depth = 2 := by cases l <;> rfl
theorem nb_G (g : Gr) : nb (encG g) = true := by
  simp only [encG, nb, nbAll, nb_Q, nb_L, Bool.and_true]
theorem dp_G (g : Gr) : (encG g).depth = 3 := by
  show max (encL g.l).depth (max 1 (max 1 (max 0 0))) + 1 = 3
  rw [dp_L]
  rfl
theorem nb_gs (gs : List Gr) : nb (.tuple (gs.map encG)) = true := by rw [nb]; exact nbAll_map nb_G gs
theorem dp_gs (gs : List Gr) : (PyData.tuple (gs.map encG)).depth ≤ 4 := by
  rw [PyData.depth]
  exact Nat.succ_le_succ (depthAll_map (fun g => Nat.le_of_eq (dp_G g)) gs)
theorem nb_B (b : Br) : nb (encB b) = true := by
  have := nb_gs b.gs
  simp only [encB, nbAll, nb_Q, Bool.and_true, Bool.true_and] at this ⊢
  rw [nb, nbAll, nbAll, nbAll, this]
  rfl
theorem dp_B (b : Br) : (encB b).depth ≤ 5 := by
  show max 1 (max (PyData.tuple (b.gs.map encG)).depth 0) + 1 ≤ 5
  have := dp_gs b.gs
  omega
/-- what may stand in a set or a sorted list -/
structure EncOk {α : Type} (enc : α → PyData) : Prop where
  inj : ∀ a b, enc a = enc b → a = b
  al : ∀ a b, alike (enc a) (enc b) = true
  ok : ∀ a, Sn.okK (enc a) = true
theorem al_Q (a b : Rat) : alike (encQ a) (encQ b) = true := rfl
theorem encOk_Q : EncOk encQ := ⟨fun _ _ => encQ_inj, al_Q, fun _ => rfl⟩
theorem al_L (a b : Ln) : alike (encL a) (encL b) = true := by cases a <;> cases b <;> rfl
theorem encOk_L : EncOk encL := ⟨fun _ _ => encL_inj, al_L, fun a => by cases a <;> rfl⟩
theorem pl_L (l : Ln) : Sn.pl (encL l) = true := by cases l <;> rfl
theorem encOk_G : EncOk encG := ⟨fun _ _ => encG_inj, fun a b => by
    show (alike (encL a.l) (encL b.l) && (true && (true && true))) = true
    rw [al_L]
    rfl, fun a => by
    show ((Sn.pl (encL a.l) && true) && decide ((encG a).depth ≤ 8)) = true
    rw [pl_L, dp_G]
    rfl⟩
/-- the order of the encodings -/
def leD {α : Type} (enc : α → PyData) (a b : α) : Bool := Sn.dle (enc a) (enc b)
theorem EncOk.lo {α : Type} {enc : α → PyData} (h : EncOk enc) : Lo (leD enc) where
  tot a b := Sn.dle_total.total _ _
  tr a b c := Sn.dle_total.trans _ _ _
  anti a b h1 h2 := h.inj a b (Sn.dle_anti (h.al a b) h1 h2)
theorem EncOk.all {α : Type} {enc : α → PyData} (h : EncOk enc) (l : List α) : AllAlike (l.map enc) := fun d hd e he => by
  obtain ⟨a, _, rfl⟩ := List.mem_map.mp hd
  obtain ⟨b, _, rfl⟩ := List.mem_map.mp he
  exact h.al a b
theorem EncOk.oks {α : Type} {enc : α → PyData} (h : EncOk enc) (l : List α) : ∀ d ∈ l.map enc, Sn.okK d = true := fun d hd => by
  obtain ⟨a, _, rfl⟩ := List.mem_map.mp hd
  exact h.ok a
section
variable {S : Sta} {p : Bool} {e a b : Expr} {Γ : List En} {t t1 t2 : Tn} {pos q q2 pos2 : Pos} {α : Type} [DecidableEq α] {enc : α → PyData}
/-- sorted(set(xs)) -/
theorem dn_setS (ho : EncOk enc) (xs : List α) (h : DQ S p e Γ t true (xs.map enc) t1) (hz : xs.length < 64) (hg : glb S "sorted") (hm : S.mg "sorted" = none) (hg2 : glb S "set") (hm2 : S.mg "set" = none) (ns1 : Ns e := by intro _ _; rfl) :
    DN S p (.Call (.Name "sorted" q) [.Call (.Name "set" q2) [e] [] pos2] [] pos) Γ t ((setS (leD enc) xs).map enc) t1 :=
  dn_sortS h (by rw [List.length_map]; exact hz) (ho.oks xs) (ho.all xs) (List.pairwise_map.mpr ((setS_asc ho.lo xs).imp fun h => h.1))
    (by
      rw [List.Nodup, List.pairwise_map]
      exact (setS_asc ho.lo xs).imp fun h z => h.2 (ho.inj _ _ z))
    (fun d => by
      constructor
      · intro hd
        obtain ⟨x, hx, rfl⟩ := List.mem_map.mp hd
        exact List.mem_map.mpr ⟨x, mem_setS.mp hx, rfl⟩
      · intro hd
        obtain ⟨x, hx, rfl⟩ := List.mem_map.mp hd
        exact List.mem_map.mpr ⟨x, mem_setS.mpr hx, rfl⟩) hg hm hg2 hm2 ns1
/-- sorted(xs) -/
theorem dn_srt (ho : EncOk enc) (xs : List α) (h : DQ S p e Γ t true (xs.map enc) t1) (hz : xs.length < 64) (hg : glb S "sorted") (hm : S.mg "sorted" = none) (ns1 : Ns e := by intro _ _; rfl) (ns2 : ∀ env, (backTo pos (starEach [e] env)).any (·.1) = false := by intro _; rfl) :
    DN S p (.Call (.Name "sorted" q) [e] [] pos) Γ t ((srt (leD enc) xs).map enc) t1 :=
  dn_sortL h (by rw [List.length_map]; exact hz) (ho.oks xs) (ho.all xs) (List.pairwise_map.mpr (srt_nd ho.lo xs)) (((srt_perm xs).map enc).symm) hg hm ns1 ns2
end
/-! ### the plain figure -/
def leQ (a b : Rat) : Bool := decide (a ≤ b)
theorem lo_Q : Lo leQ where
  tot a b := by simp only [leQ, decide_eq_true_eq]; grind
  tr a b c := by simp only [leQ, decide_eq_true_eq]; grind
  anti a b := by simp only [leQ, decide_eq_true_eq]; grind
abbrev ascQ (qs : List Rat) : List Rat := setS leQ qs
abbrev setQ (qs : List Rat) : List Rat := setS (leD encQ) qs
abbrev setL (ls : List Ln) : List Ln := setS (leD encL) ls
abbrev setG (gs : List Gr) : List Gr := setS (leD encG) gs
abbrev srtG (gs : List Gr) : List Gr := srt (leD encG) gs
def maxI (xs : List Int) : Int := xs.foldr max 0
theorem maxI_ub : ∀ (xs : List Int) (x : Int), x ∈ xs → x ≤ maxI xs
  | [], x, h => by cases h
  | y :: xs, x, h => by
    show x ≤ max y (maxI xs)
    rcases List.mem_cons.mp h with e | h
    · omega
    · have := maxI_ub xs x h
      omega
theorem maxI_nn : ∀ xs : List Int, 0 ≤ maxI xs
  | [] => Int.le_refl _
  | y :: xs => by
    show 0 ≤ max y (maxI xs)
    have := maxI_nn xs
    omega
theorem maxI_mem : ∀ xs : List Int, maxI xs ∈ 0 :: xs
  | [] => List.mem_cons_self
  | y :: xs => by
    show max y (maxI xs) ∈ _
    have h := maxI_mem xs
    rcases Int.le_total y (maxI xs) with c | c
    · rw [Int.max_eq_right c]
      rcases List.mem_cons.mp h with z | z
      · rw [z]
        exact List.mem_cons_self
      · exact List.mem_cons_of_mem _ (List.mem_cons_of_mem _ z)
    · rw [Int.max_eq_left c]
      exact List.mem_cons_of_mem _ List.mem_cons_self
theorem maxI_pos {xs : List Int} (hn : xs ≠ []) (hp : ∀ x ∈ xs, 0 ≤ x) : maxI xs ∈ xs := by
  rcases List.mem_cons.mp (maxI_mem xs) with h | h
  · cases xs with
    | nil => exact absurd rfl hn
    | cons x xs =>
      have h1 := maxI_ub (x :: xs) x List.mem_cons_self
      have h2 := hp x List.mem_cons_self
      have : maxI (x :: xs) = x := by omega
      rw [this]
      exact List.mem_cons_self
  · exact h
/-- how deep it is between two places -/
def segD (gs : List Gr) (s e : Rat) : Int := maxI ((gs.filter fun g => decide (g.s ≤ s) && decide (e ≤ g.e)).map (·.d))
abbrev Sg := Rat × Rat × Int
def encS (x : Sg) : PyData := .tuple [encQ x.1, encQ x.2.1, .int x.2.2]
def pstep (gs : List Gr) (fnd : List Sg) (se : Rat × Rat) : List Sg :=
  match fnd.getLast? with
  | some (s', e', d') => if e' = se.1 ∧ d' = segD gs se.1 se.2 then fnd.dropLast ++ [(s', se.2, segD gs se.1 se.2)] else if 0 < segD gs se.1 se.2 then fnd ++ [(se.1, se.2, segD gs se.1 se.2)] else fnd
  | none => if 0 < segD gs se.1 se.2 then fnd ++ [(se.1, se.2, segD gs se.1 se.2)] else fnd
def lstep (gs : List Gr) (fnd : List Sg) (se : Rat × Rat) : List Sg :=
  match fnd.getLast? with
  | some (s', _, d') => if d' = segD gs se.1 se.2 then fnd.dropLast ++ [(s', se.2, segD gs se.1 se.2)] else fnd ++ [(se.1, se.2, segD gs se.1 se.2)]
  | none => fnd ++ [(se.1, se.2, segD gs se.1 se.2)]
def segs (ps : List Rat) : List (Rat × Rat) := ps.zip ps.tail
def Ln.isRing : Ln → Bool
  | .ring _ => true
  | _ => false
def mkG (l : Ln) (x : Sg) : Gr := ⟨l, x.1, x.2.1, x.2.2⟩
def placesG (gs : List Gr) : List Rat := ascQ (gs.map (·.s) ++ gs.map (·.e))
def plainRow (l : Ln) (gs : List Gr) : List Gr := match l with
  | .ring q => [⟨l, q, q, maxI (gs.map (·.d))⟩]
  | _ => ((segs (placesG gs)).foldl (pstep gs) []).map (mkG l)
def lplainRow (l : Ln) (gs : List Gr) : List Gr := match l with
  | .ring q => [⟨l, q, q, maxI (gs.map (·.d))⟩]
  | _ => (((segs (placesG gs)).foldl (lstep gs) []).filter fun x => decide (0 < x.2.2)).map (mkG l)
def ofL (l : Ln) (gs : List Gr) : List Gr := gs.filter fun g => decide (g.l = l)
def plainG (gs : List Gr) : List Gr := setG ((setL (gs.map (·.l))).flatMap fun l => plainRow l (ofL l gs))
def lplainG (gs : List Gr) : List Gr := srtG ((setL (gs.map (·.l))).flatMap fun l => lplainRow l (ofL l gs))
/-! ### moves -/
def Ln.moved (sh tn : Rat) : Ln → Ln
  | .ring q => .ring (q + sh)
  | .flute q => .flute (frac (q + tn))
  | .lead l p => .lead l (rnd (p + sh - l * tn) l)
def Ln.mirr : Ln → Ln
  | .ring q => .ring q
  | .flute q => .flute (frac (-q))
  | .lead l p => .lead (-l) p
def Ln.ended (far : Rat) : Ln → Ln
  | .ring q => .ring (far - q)
  | .flute q => .flute (frac (-q))
  | .lead l p => .lead l (rnd (far - p) l)
def Gr.turned (a : Rat) (g : Gr) : Gr := { g with l := g.l.moved 0 a }
def Gr.mirr (g : Gr) : Gr := { g with l := g.l.mirr }
def Gr.ended (far : Rat) (g : Gr) : Gr := ⟨g.l.ended far, far - g.e, far - g.s, g.d⟩
def Ln.last : Ln → Rat
  | .ring q => q
  | .flute q => q
  | .lead _ p => p
def Ln.turnTo (n f : Ln) : Rat := match n with
  | .lead l p => frac (-((f.last - p) / l))
  | _ => frac (f.last - n.last)
def Ln.same : Ln → Ln → Bool
  | .ring _, .ring _ => true
  | .flute _, .flute _ => true
  | .lead a _, .lead b _ => decide (a = b)
  | _, _ => false
inductive Tr where
  | all
  | some (as : List Rat)
  deriving DecidableEq
def encT : Tr → PyData
  | .all => .str "all"
  | .some as => .tuple (as.map encQ)
def rounds (gs : List Gr) : List Gr := gs.filter fun g => !g.l.isRing
def turnedG (a : Rat) (gs : List Gr) : List Gr := setG (gs.map (Gr.turned a))
def lturnedG (a : Rat) (gs : List Gr) : List Gr := srtG (gs.map (Gr.turned a))
def turnsOf (r : Gr) (near far : List Gr) : List Rat :=
  ((far.filter fun g => !g.l.isRing && Ln.same g.l r.l && decide ((g.s, g.e, g.d) = (r.s, r.e, r.d))).map fun g => r.l.turnTo g.l).filter fun a => decide (turnedG a near = far)
def lturnsOf (r : Gr) (near far : List Gr) : List Rat :=
  ((far.filter fun g => Ln.same g.l r.l).map fun g => r.l.turnTo g.l).filter fun a => decide (lturnedG a near = far)
def turnsB (b o : Br) : Tr :=
  if b.len ≠ o.len ∨ (plainG b.gs).length ≠ (plainG o.gs).length then .some [] else
  match rounds (plainG b.gs) with
  | [] => if plainG b.gs = plainG o.gs then .all else .some []
  | r :: _ => .some (setQ (turnsOf r (plainG b.gs) (plainG o.gs)))
def lturnsB (b o : Br) : Tr :=
  if b.len ≠ o.len then .some [] else
  match rounds (lplainG b.gs) with
  | [] => if lplainG b.gs = lplainG o.gs then .all else .some []
  | r :: _ => .some (setQ (lturnsOf r (lplainG b.gs) (lplainG o.gs)))
def endsB (b : Br) : Br := ⟨b.len, setG ((plainG b.gs).map (Gr.ended b.len))⟩
def mirrB (b : Br) : Br := ⟨b.len, setG ((plainG b.gs).map Gr.mirr)⟩
def lendedB (b : Br) : Br := ⟨b.len, srtG (b.gs.map (Gr.ended b.len))⟩
def lmirrB (b : Br) : Br := ⟨b.len, srtG (b.gs.map Gr.mirr)⟩
def lplainB (b : Br) : Br := ⟨b.len, lplainG b.gs⟩
def plainB (b : Br) : Br := ⟨b.len, plainG b.gs⟩
def lturnedB (a : Rat) (b : Br) : Br := ⟨b.len, lturnedG a b.gs⟩
def alikeB (b o : Br) : Bool := decide (turnsB b o ≠ .some []) || decide (turnsB (endsB b) o ≠ .some [])
def lalikeB (b o : Br) : Bool := decide (lturnsB b o ≠ .some []) || decide (lturnsB (lendedB b) o ≠ .some [])
end Sc

/-! E3 -/
set_option Elab.async false
set_option linter.all false
set_option maxRecDepth 100000
namespace Sc
open PySem PySem.Spec PyProof.Rows L2 Evl
theorem blk0 {P : Program} {w : World} {K : PySem.W.Frag} {mg : Str → Option Value} {base : Heap} {N : List Str} {i k : Nat} {scope : Scope} {own : List (Str × Nat)} (h : blkC N (defScope (topS i)) scope own = true) (hk : scope.kind = .function) : BlkS (St0 P w K mg base N i k) scope own := ⟨blkOk_by h, hk⟩
theorem cB {c i : Nat} (hc : c ≤ 2 ^ (100 * i)) (hi : i ≤ 64) : c < 2 ^ 8900 := Nat.lt_of_le_of_lt hc (Nat.pow_lt_pow_right (by decide) (by omega))
theorem common_eq {q : Rat} {c : Nat} (hc : 0 < c) (h : q.den ∣ c) : Rat.divInt (q.num * ((c : Int).fdiv (q.den : Int))) (c : Int) = q := by
  obtain ⟨m, rfl⟩ := h
  have hd := q.den_pos
  have hm : (m : Int) ≠ 0 := by
    intro z
    have : m = 0 := by omega
    subst this
    omega
  rw [Int.natCast_mul, Int.mul_fdiv_cancel_left _ (den_ne q), Rat.divInt_mul_right hm, Rat.num_divInt_den]
theorem common_lt {q r : Rat} {c : Nat} (hc : 0 < c) (hq : q.den ∣ c) (hr : r.den ∣ c) (h : q < r) : q.num * ((c : Int).fdiv (q.den : Int)) < r.num * ((c : Int).fdiv (r.den : Int)) := by
  have e1 := common_eq hc hq
  have e2 := common_eq hc hr
  have hc' : (0 : Rat) < ((c : Int) : Rat) := by
    rw [show (0 : Rat) = ((0 : Int) : Rat) from rfl]
    exact Rat.intCast_lt_intCast.mpr (by omega)
  rw [← e1, ← e2, Rat.divInt_eq_div, Rat.divInt_eq_div] at h
  have h3 := Rat.mul_lt_mul_of_pos_right h hc'
  have hne : ((c : Int) : Rat) ≠ 0 := by grind
  rw [Rat.div_mul_cancel hne, Rat.div_mul_cancel hne] at h3
  exact Rat.intCast_lt_intCast.mp h3
section
variable {P : Program} {w : World} {K : PySem.W.Frag} {mg : Str → Option Value} {base : Heap}
theorem df_in_order (G : Ge K mg) : Df P w K mg base "in_order" 2 (fun es t r t' => ∃ (qs : List Rat), ((∀ q ∈ qs, Bd 100 q) ∧ qs.length < 64) ∧ es = [.v (.list (qs.map encQ))] ∧ r = .l ((ascQ qs).map encQ) ∧ t' = t) := by
  refine mkD G 14 ["parts", "common", "one", "tops", "top"] ["parts"] (by decide +kernel) ⟨rfl, rfl, rfl, by decide +kernel, rfl, by decide +kernel, by decide +kernel⟩ (fun f fd F => F.bindsN fun _ _ _ _ _ _ us hl => match us, hl with | [_], _ => rfl) ?len ?_
  case len => intro es t r t' h; obtain ⟨_, _, rfl, _, _⟩ := h; rfl
  rintro p _ t0 _ t ⟨qs, hP, rfl, rfl, rfl⟩
  obtain ⟨hb, hz⟩ := hP
  (refine ds_cons ?_; refine ds_set 1 de_int ?_)
  refine ds_cons ?_
  refine ds_for (fun i Γ t' => t' = t ∧ ∃ (c : Nat) (x : En), Γ = [.v (.list (qs.map encQ)), .v (.int (c : Int)), x, .no, .no] ∧ 0 < c ∧ c ≤ 2 ^ (100 * i) ∧ ∀ q ∈ qs.take i, q.den ∣ c) (di_list (de_n 0 rfl)) ⟨rfl, 1, _, rfl, by decide, by decide, fun _ h => (by cases h)⟩ ?_ ?_
  · rintro i d _ _ hd ⟨rfl, c, x, rfl, h0, hc, hdv⟩
    rw [List.getElem?_map] at hd
    cases hq : qs[i]? with
    | none => rw [hq] at hd; cases hd
    | some q =>
    rw [hq] at hd
    have hd : encQ q = d := Option.some.inj hd
    subst hd
    have hi : i < qs.length := (List.getElem?_eq_some_iff.mp hq).1
    have hbq := hb q (List.mem_of_getElem? hq)
    have hqp := q.den_pos
    have hg0 : 0 < Int.gcd (c : Int) (q.den : Int) := Int.gcd_pos_of_ne_zero_right _ (den_ne q)
    have hgn : Int.gcd (c : Int) (q.den : Int) = Nat.gcd c q.den := by rw [Int.gcd_natCast_natCast]
    have hgd : Nat.gcd c q.den ∣ c := Nat.gcd_dvd_left ..
    have hgl : Nat.gcd c q.den ≤ c := Nat.le_of_dvd h0 hgd
    have hfd : (c : Int).fdiv (Int.gcd (c : Int) (q.den : Int) : Nat) = ((c / Nat.gcd c q.den : Nat) : Int) := by
      rw [hgn, Int.natCast_ediv, Int.fdiv_eq_ediv_of_nonneg _ (by omega)]
    have hcg : c / Nat.gcd c q.den ≤ c := Nat.div_le_self _ _
    refine ⟨_, _, dg_n 2, ?_⟩
    (refine ds_one ?_; refine ds_set 1 (de_mulW (de_fdiv (de_n 1 rfl) (de_gcd (de_n 1 rfl) (de_ix (DE.tup (de_n 2 rfl)) de_int rfl) rfl G.gcd) ?_) (de_ix (DE.tup (de_n 2 rfl)) de_int rfl) ?_) ?_)
    · exact bi_div (by omega) (by rw [hgn]; exact Nat.lt_of_le_of_lt hgl (cB hc (by omega)))
    · rw [hfd]
      exact wide_mul (a := 8900) (b := 100) (Nat.lt_of_le_of_lt hcg (cB hc (by omega))) hbq.d (by decide) (by decide) (by decide)
    · refine ⟨rfl, c / Nat.gcd c q.den * q.den, .v (encQ q), ?_, ?_, ?_, ?_⟩
      · rw [hfd, Int.natCast_mul]
        rfl
      · exact Nat.mul_pos (Nat.div_pos hgl (by omega)) hqp
      · rw [Nat.mul_add, Nat.mul_one, Nat.pow_add]
        exact Nat.mul_le_mul (Nat.le_trans hcg hc) (Nat.le_of_lt hbq.d)
      · intro r hr
        rw [List.take_succ, hq] at hr
        rcases List.mem_append.mp hr with z | z
        · refine Nat.dvd_trans (hdv r z) ?_
          obtain ⟨m, hm⟩ := Nat.gcd_dvd_right c q.den
          refine ⟨m, ?_⟩
          have e1 : c / Nat.gcd c q.den * (Nat.gcd c q.den * m) = c * m := by rw [← Nat.mul_assoc, Nat.div_mul_cancel hgd]
          rw [← hm] at e1
          exact e1
        · have e : r = q := by simpa using z
          subst e
          exact Nat.dvd_mul_left ..
  · rintro _ _ ⟨rfl, c, x, rfl, h0, hc, hdv⟩
    rw [List.length_map, List.take_length] at hdv
    rw [List.length_map] at hc
    have hc2 : c < 2 ^ 8900 := cB hc (by omega)
    have mem : ∀ q, q ∈ ascQ qs ↔ q ∈ qs := fun q => mem_setS
    refine ds_cons ?_
    refine ds_setN 3 (dn_sortI (ns := qs.map fun q => q.num * ((c : Int).fdiv (q.den : Int))) (es := (ascQ qs).map fun q => q.num * ((c : Int).fdiv (q.den : Int))) (DO.seq (DN.own (DN.is (dn_lc (own := [("one", 2)]) (blk0 (by decide +kernel) rfl) qs encQ (fun _ => true) (fun q => .int (q.num * ((c : Int).fdiv (q.den : Int)))) (di_list (de_n 0 rfl)) (by omega) ?step) ?eq))) (by rw [List.length_map]; exact hz) ?asc ?mem rfl (G.f _ (by decide)) rfl (G.f _ (by decide))) ?nx
    case step =>
      intro q hq
      refine ⟨_, _, dg_n 2, by simp, rfl, fun _ => ?_⟩
      have hbq := hb q hq
      refine (de_mulW (de_ix (DE.tup (de_n 2 rfl)) de_int rfl) (de_fdiv (de_n 1 rfl) (de_ix (DE.tup (de_n 2 rfl)) de_int rfl) ?_) ?_)
      · exact bi_div (den_ne q) (Nat.lt_of_lt_of_le hbq.d (Nat.pow_le_pow_right (by decide) (by decide)))
      · refine wide_mul (a := 100) (b := 8900) hbq.n ?_ (by decide) (by decide) (by decide)
        rw [Int.fdiv_eq_ediv_of_nonneg _ (by omega)]
        exact Nat.lt_of_le_of_lt (Int.natAbs_ediv_le_natAbs _ _) hc2
    case eq =>
      rw [List.filter_eq_self.mpr (fun _ _ => rfl), List.map_map]
      rfl
    case asc =>
      rw [List.pairwise_map]
      refine List.Pairwise.imp_of_mem (fun {a b} ha hb' h => ?_) (setS_asc lo_Q qs)
      refine common_lt h0 (hdv a ((mem a).mp ha)) (hdv b ((mem b).mp hb')) ?_
      have h1 : decide (a ≤ b) = true := h.1
      have h1 := of_decide_eq_true h1
      have h2 := h.2
      grind
    case mem =>
      intro k
      constructor
      · intro h
        obtain ⟨q, hq, rfl⟩ := List.mem_map.mp h
        exact List.mem_map.mpr ⟨q, (mem q).mp hq, rfl⟩
      · intro h
        obtain ⟨q, hq, rfl⟩ := List.mem_map.mp h
        exact List.mem_map.mpr ⟨q, (mem q).mpr hq, rfl⟩
    case nx =>
      have hl : (ascQ qs).length < 100000 := by
        have : (ascQ qs).length ≤ qs.length := setS_len _
        clear hc2 hc
        omega
      refine ds_cool 3 rfl ?_
      refine ds_one ?_
      refine ds_retN (dn_lc (own := [("top", 4)]) (blk0 (by decide +kernel) rfl) (ascQ qs) (fun q => .int (q.num * ((c : Int).fdiv (q.den : Int)))) (fun _ => true) encQ (di_list (DE.as (de_n 3 rfl) (by rw [List.map_map]; rfl))) hl ?_) ?_
      · intro q hq
        refine ⟨_, _, dg_n 4, by simp, rfl, fun _ => ?_⟩
        have hq' := (mem q).mp hq
        refine DE.as (de_call (df_part_of G) (da_cons (de_n 4 rfl) (da_cons (de_n 1 rfl) da_nil)) ⟨_, _, ?_, rfl, rfl, rfl⟩ rfl (Nat.le_of_ble_eq_true rfl)) ?_
        · exact ⟨by omega, hc2⟩
        · exact congrArg encQ (common_eq h0 (hdv q hq'))
      · exact ⟨by rw [List.filter_eq_self.mpr (fun _ _ => rfl)], rfl⟩
end
end Sc

/-! E4 -/
set_option Elab.async false
set_option linter.all false
set_option maxRecDepth 100000
namespace Sc
open PySem PySem.Spec PyProof.Rows L2 Evl
mutual
def tupD : PyData → PyData
  | .list xs => .tuple (tupDs xs)
  | .tuple xs => .tuple (tupDs xs)
  | d => d
def tupDs : List PyData → List PyData
  | [] => []
  | x :: xs => tupD x :: tupDs xs
end
mutual
def listD : PyData → PyData
  | .list xs => .list (listDs xs)
  | .tuple xs => .list (listDs xs)
  | d => d
def listDs : List PyData → List PyData
  | [] => []
  | x :: xs => listD x :: listDs xs
end
theorem tupDs_map : ∀ xs : List PyData, tupDs xs = xs.map tupD
  | [] => rfl
  | x :: xs => by rw [tupDs, tupDs_map xs]; rfl
theorem listDs_map : ∀ xs : List PyData, listDs xs = xs.map listD
  | [] => rfl
  | x :: xs => by rw [listDs, listDs_map xs]; rfl
mutual
theorem tup_pl : ∀ d : PyData, Sn.pl d = true → tupD d = d
  | .int _, _ => rfl
  | .str _, _ => rfl
  | .tuple xs, h => by rw [Sn.pl] at h; rw [tupD, tups_pl xs h]
  | .none, _ => rfl
  | .bool _, _ => rfl
  | .list _, h => by simp [Sn.pl] at h
  | .dict _, _ => rfl
theorem tups_pl : ∀ ds : List PyData, Sn.plAll ds = true → tupDs ds = ds
  | [], _ => rfl
  | d :: ds, h => by
    rw [Sn.plAll, Bool.and_eq_true] at h
    rw [tupDs, tup_pl d h.1, tups_pl ds h.2]
end
mutual
theorem tup_list : ∀ d : PyData, Sn.pl d = true → tupD (listD d) = d
  | .int _, _ => rfl
  | .str _, _ => rfl
  | .tuple xs, h => by rw [Sn.pl] at h; rw [listD, tupD, tups_list xs h]
  | .none, h => by simp [Sn.pl] at h
  | .bool _, h => by simp [Sn.pl] at h
  | .list _, h => by simp [Sn.pl] at h
  | .dict _, h => by simp [Sn.pl] at h
theorem tups_list : ∀ ds : List PyData, Sn.plAll ds = true → tupDs (listDs ds) = ds
  | [], _ => rfl
  | d :: ds, h => by
    rw [Sn.plAll, Bool.and_eq_true] at h
    rw [listDs, tupDs, tup_list d h.1, tups_list ds h.2]
end
/-- ints, texts, lists and tuples, no deeper than n, none long -/
def tk : Nat → PyData → Bool
  | _, .int _ => true
  | _, .str _ => true
  | n + 1, .list xs => decide (xs.length < 1000) && xs.all (tk n)
  | n + 1, .tuple xs => decide (xs.length < 1000) && xs.all (tk n)
  | _, _ => false
theorem tk_list : ∀ (n : Nat) (d : PyData), tk n d = true → tk n (listD d) = true
  | 0, d, h => by cases d <;> simp [tk, listD] at h ⊢
  | n + 1, d, h => by
    have key : ∀ xs : List PyData, (decide (xs.length < 1000) && xs.all (tk n)) = true → (decide ((listDs xs).length < 1000) && (listDs xs).all (tk n)) = true := fun xs h => by
      rw [Bool.and_eq_true, decide_eq_true_eq, List.all_eq_true] at h ⊢
      rw [listDs_map, List.length_map]
      refine ⟨h.1, fun x hx => ?_⟩
      obtain ⟨y, hy, rfl⟩ := List.mem_map.mp hx
      exact tk_list n y (h.2 y hy)
    cases d with
    | list xs => exact key xs h
    | tuple xs => exact key xs h
    | int _ => rfl
    | str _ => rfl
    | none => simp [tk] at h
    | bool _ => simp [tk] at h
    | dict _ => simp [tk] at h
theorem tk_Q (q : Rat) : tk 1 (encQ q) = true := rfl
theorem tk_L (l : Ln) : tk 2 (encL l) = true := by cases l <;> rfl
theorem tk_G (g : Gr) : tk 3 (encG g) = true := by
  show (true && (tk 2 (encL g.l) && (true && (true && (true && true))))) = true
  rw [tk_L]
  rfl
theorem tk_B (b : Br) (h : b.gs.length < 1000) : tk 5 (encB b) = true := by
  show (true && (true && (tk 4 (.tuple (b.gs.map encG)) && true))) = true
  have : tk 4 (.tuple (b.gs.map encG)) = true := by
    rw [tk, Bool.and_eq_true, decide_eq_true_eq, List.length_map, List.all_eq_true]
    refine ⟨h, fun x hx => ?_⟩
    obtain ⟨g, _, rfl⟩ := List.mem_map.mp hx
    exact tk_G g
  rw [this]
  rfl
theorem pl_Q (q : Rat) : Sn.pl (encQ q) = true := rfl
theorem pl_G (g : Gr) : Sn.pl (encG g) = true := by
  show (Sn.pl (encL g.l) && true) = true
  rw [pl_L]
  rfl
end Sc
namespace Sc
open PySem PySem.Spec PyProof.Rows L2 Evl
theorem plAll_G : ∀ gs : List Gr, Sn.plAll (gs.map encG) = true
  | [] => rfl
  | g :: gs => by rw [List.map_cons, Sn.plAll, pl_G, plAll_G gs]; rfl
theorem pl_B (b : Br) : Sn.pl (encB b) = true := by
  show (true && (Sn.pl (.tuple (b.gs.map encG)) && true)) = true
  rw [Sn.pl, plAll_G]
  rfl
/-- d, read as tuples, is the BAR b -/
structure IsB (b : Br) (d : PyData) : Prop where
  tk : tk 5 d = true
  eq : tupD d = encB b
theorem isB_self {b : Br} (h : b.gs.length < 1000) : IsB b (encB b) := ⟨tk_B b h, tup_pl _ (pl_B b)⟩
theorem isB_list {b : Br} (h : b.gs.length < 1000) : IsB b (listD (encB b)) := ⟨tk_list 5 _ (tk_B b h), tup_list _ (pl_B b)⟩
section
variable {P : Program} {w : World} {K : PySem.W.Frag} {mg : Str → Option Value} {base : Heap}
abbrev arTup (n : Nat) : Ar := fun es t r t' => ∃ d : PD, tk n d = true ∧ es = [.v d] ∧ r = .d (tupD d) ∧ t' = t
theorem df_tupled (G : Ge K mg) : ∀ n : Nat, Df P w K mg base "tupled" (n + 1) (arTup n) := by
  intro n
  induction n with
  | zero =>
    refine mkD G 16 ["thing", "part"] ["thing"] (by decide +kernel) ⟨rfl, rfl, rfl, by decide +kernel, rfl, by decide +kernel, by decide +kernel⟩ (fun f fd F => F.bindsN fun _ _ _ _ _ _ us hl => match us, hl with | [_], _ => rfl) (fun es t r t' h => by obtain ⟨_, _, rfl, _, _⟩ := h; rfl) ?_
    rintro p _ t0 _ t ⟨d, hd, rfl, rfl, rfl⟩
    have hr : tupD d = d := by cases d <;> simp [tk] at hd <;> rfl
    rw [hr]
    refine ds_one ?_
    cases d <;> simp [tk] at hd
    · refine ds_ret (de_if (dt_v (de_isi2 (de_n 0 rfl) ⟨rfl, G.f _ (by decide), rfl, by decide, by decide⟩ ⟨rfl, G.f _ (by decide), rfl, by decide, by decide⟩ rfl rfl rfl rfl rfl (G.f _ (by decide)))) (fun h => (by cases h)) fun _ => (de_n 0 rfl)) ⟨rfl, rfl⟩
    · refine ds_ret (de_if (dt_v (de_isi2 (de_n 0 rfl) ⟨rfl, G.f _ (by decide), rfl, by decide, by decide⟩ ⟨rfl, G.f _ (by decide), rfl, by decide, by decide⟩ rfl rfl rfl rfl rfl (G.f _ (by decide)))) (fun h => (by cases h)) fun _ => (de_n 0 rfl)) ⟨rfl, rfl⟩
  | succ n ih =>
    refine mkD G 16 ["thing", "part"] ["thing"] (by decide +kernel) ⟨rfl, rfl, rfl, by decide +kernel, rfl, by decide +kernel, by decide +kernel⟩ (fun f fd F => F.bindsN fun _ _ _ _ _ _ us hl => match us, hl with | [_], _ => rfl) (fun es t r t' h => by obtain ⟨_, _, rfl, _, _⟩ := h; rfl) ?_
    rintro p _ t0 _ t ⟨d, hd, rfl, rfl, rfl⟩
    refine ds_one ?_
    cases d with
    | int _ => refine ds_ret (de_if (dt_v (de_isi2 (de_n 0 rfl) ⟨rfl, G.f _ (by decide), rfl, by decide, by decide⟩ ⟨rfl, G.f _ (by decide), rfl, by decide, by decide⟩ rfl rfl rfl rfl rfl (G.f _ (by decide)))) (fun h => (by cases h)) fun _ => (de_n 0 rfl)) ⟨rfl, rfl⟩
    | str _ => refine ds_ret (de_if (dt_v (de_isi2 (de_n 0 rfl) ⟨rfl, G.f _ (by decide), rfl, by decide, by decide⟩ ⟨rfl, G.f _ (by decide), rfl, by decide, by decide⟩ rfl rfl rfl rfl rfl (G.f _ (by decide)))) (fun h => (by cases h)) fun _ => (de_n 0 rfl)) ⟨rfl, rfl⟩
    | none => simp [tk] at hd
    | bool _ => simp [tk] at hd
    | dict _ => simp [tk] at hd
    | list xs =>
      rw [tk, Bool.and_eq_true, decide_eq_true_eq, List.all_eq_true] at hd
      refine ds_ret (de_if (dt_v (de_isi2 (de_n 0 rfl) ⟨rfl, G.f _ (by decide), rfl, by decide, by decide⟩ ⟨rfl, G.f _ (by decide), rfl, by decide, by decide⟩ rfl rfl rfl rfl rfl (G.f _ (by decide)))) (fun _ => de_tupleL (DO.seq (DN.own (dn_lc (own := [("part", 1)]) (blk0 (by decide +kernel) rfl) xs id (fun _ => true) tupD (di_list (DE.as (de_n 0 rfl) (by rw [List.map_id]))) (by omega) ?step))) rfl (G.f _ (by decide))) fun h => (by cases h)) ?post
      case step =>
        intro x hx
        refine ⟨_, _, dg_n 1, by simp, rfl, fun _ => ?_⟩
        exact de_call ih (da_cons (de_n 1 rfl) da_nil) ⟨_, hd.2 x hx, rfl, rfl, rfl⟩ rfl (Nat.le_refl _)
      case post => exact ⟨by rw [List.filter_eq_self.mpr (fun _ _ => rfl), tupD, tupDs_map], rfl⟩
    | tuple xs =>
      rw [tk, Bool.and_eq_true, decide_eq_true_eq, List.all_eq_true] at hd
      refine ds_ret (de_if (dt_v (de_isi2 (de_n 0 rfl) ⟨rfl, G.f _ (by decide), rfl, by decide, by decide⟩ ⟨rfl, G.f _ (by decide), rfl, by decide, by decide⟩ rfl rfl rfl rfl rfl (G.f _ (by decide)))) (fun _ => de_tupleL (DO.seq (DN.own (dn_lc (own := [("part", 1)]) (blk0 (by decide +kernel) rfl) xs id (fun _ => true) tupD (di_tup (DE.as (de_n 0 rfl) (by rw [List.map_id]))) (by omega) ?step))) rfl (G.f _ (by decide))) fun h => (by cases h)) ?post
      case step =>
        intro x hx
        refine ⟨_, _, dg_n 1, by simp, rfl, fun _ => ?_⟩
        exact de_call ih (da_cons (de_n 1 rfl) da_nil) ⟨_, hd.2 x hx, rfl, rfl, rfl⟩ rfl (Nat.le_refl _)
      case post => exact ⟨by rw [List.filter_eq_self.mpr (fun _ _ => rfl), tupD, tupDs_map], rfl⟩
end
end Sc

/-! E5 -/
set_option Elab.async false
set_option linter.all false
set_option maxRecDepth 100000
namespace Sc
open PySem PySem.Spec PyProof.Rows L2 Evl
section
variable {S : Sta} {p : Bool} {e : Expr} {th el : List Stmt} {Γ : List En} {t t1 : Tn} {pos : Pos} {Φ : Post}
theorem ds_ifT {c : Bool} (hc : DT S p e Γ t c t1) (h : c = true) (h1 : DSs S p th Γ t1 Φ) : DS S p (.If e th el pos) Γ t Φ := ds_if hc (fun _ => h1) fun z => by rw [h] at z; cases z
theorem ds_ifF {c : Bool} (hc : DT S p e Γ t c t1) (h : c = false) (h1 : DSs S p el Γ t1 Φ) : DS S p (.If e th el pos) Γ t Φ := ds_if hc (fun z => by rw [h] at z; cases z) fun _ => h1
/-- NONE -/
theorem de_none {K : PySem.W.Frag} {mg : Str → Option Value} (G : Ge K mg) (hK : S.K = K) (hm : S.mg = mg) (hg : glb S "NONE") : DE S p (.Name "NONE" pos) Γ t (encQ 0) t := by
  obtain ⟨c, h1, h2⟩ := G.non
  subst hK
  subst hm
  exact de_glob hg h1 h2 fun F => .cons (.int 0) (.cons (.int 1) .nil)
end
/-- bounds of a line's numbers -/
def BdL (k : Nat) : Ln → Prop
  | .ring q => Bd k q
  | .flute q => Bd k q
  | .lead l p => Bd 3 l ∧ l ≠ 0 ∧ Bd k p
structure BdG (k m : Nat) (g : Gr) : Prop where
  l : BdL k g.l
  s : Bd m g.s
  e : Bd m g.e
theorem tup_L (l : Ln) : tupD (encL l) = encL l := tup_pl _ (pl_L l)
theorem tup_Q (q : Rat) : tupD (encQ q) = encQ q := rfl
section
variable {P : Program} {w : World} {K : PySem.W.Frag} {mg : Str → Option Value} {base : Heap}
theorem df_set_of (G : Ge K mg) : Df P w K mg base "set_of" 1 (fun eS t rS tS => ∃ (ds es : List PD), (ds.length < 64 ∧ (∀ d ∈ ds, Sn.okK d = true) ∧ PySem.W.AllAlike ds ∧ (es.Pairwise fun x y => Sn.dle x y = true) ∧ es.Nodup ∧ ∀ d, d ∈ es ↔ d ∈ ds) ∧ eS = [.v (.list ds)] ∧ rS = .d (.tuple es) ∧ tS = t) := by
  refine mkD G 17 ["things"] ["things"] (by decide +kernel) ⟨rfl, rfl, rfl, by decide +kernel, rfl, by decide +kernel, by decide +kernel⟩ (fun f fd F => F.bindsN fun _ _ _ _ _ _ us hl => match us, hl with | [_], _ => rfl) (fun es t r t' h => by obtain ⟨_, _, _, rfl, _, _⟩ := h; rfl) ?_
  rintro p _ t0 _ t ⟨ds, es, hP, rfl, rfl, rfl⟩
  obtain ⟨h1, h2, h3, h4, h5, h6⟩ := hP
  refine ds_one ?_
  exact ds_ret (de_tupleL (DO.seq (DN.own (dn_sortS (DE.lst (de_n 0 rfl)) h1 h2 h3 h4 h5 h6 rfl (G.f _ (by decide)) rfl (G.f _ (by decide))))) rfl (G.f _ (by decide))) ⟨rfl, rfl⟩
theorem setCond {α : Type} [DecidableEq α] {enc : α → PD} (ho : EncOk enc) (xs : List α) (hz : xs.length < 64) : (xs.map enc).length < 64 ∧ (∀ d ∈ xs.map enc, Sn.okK d = true) ∧ PySem.W.AllAlike (xs.map enc) ∧
    (((setS (leD enc) xs).map enc).Pairwise fun x y => Sn.dle x y = true) ∧ ((setS (leD enc) xs).map enc).Nodup ∧ ∀ d, d ∈ (setS (leD enc) xs).map enc ↔ d ∈ xs.map enc := by
  refine ⟨by rw [List.length_map]; exact hz, ho.oks xs, ho.all xs, List.pairwise_map.mpr ((setS_asc ho.lo xs).imp fun h => h.1), ?_, fun d => ?_⟩
  · rw [List.Nodup, List.pairwise_map]
    exact (setS_asc ho.lo xs).imp fun h z => h.2 (ho.inj _ _ z)
  · constructor
    · intro hd
      obtain ⟨x, hx, rfl⟩ := List.mem_map.mp hd
      exact List.mem_map.mpr ⟨x, mem_setS.mp hx, rfl⟩
    · intro hd
      obtain ⟨x, hx, rfl⟩ := List.mem_map.mp hd
      exact List.mem_map.mpr ⟨x, mem_setS.mpr hx, rfl⟩
theorem df_lead_line (G : Ge K mg) : Df P w K mg base "lead_line" 5 (fun eS t rS tS => ∃ (l p : Rat), (Bd 1400 p ∧ Bd 100 l ∧ l ≠ 0) ∧ eS = [.v (encQ l), .v (encQ p)] ∧ rS = .d (encL (.lead l (rnd p l))) ∧ tS = t) := by
  refine mkD G 19 ["lead", "phase"] ["lead", "phase"] (by decide +kernel) ⟨rfl, rfl, rfl, by decide +kernel, rfl, by decide +kernel, by decide +kernel⟩ (fun f fd F => F.bindsN fun _ _ _ _ _ _ us hl => match us, hl with | [_, _], _ => rfl) (fun es t r t' h => by obtain ⟨_, _, _, rfl, _, _⟩ := h; rfl) ?_
  rintro p _ t0 _ t ⟨l, p, hP, rfl, rfl, rfl⟩
  (refine ds_one ?_; refine ds_ret (de_tup3 de_str (de_n 0 rfl) (de_call (df_round_by G) (da_cons (de_n 1 rfl) (da_cons (de_n 0 rfl) da_nil)) ⟨_, _, ?_, rfl, rfl, rfl⟩ rfl (Nat.le_of_ble_eq_true rfl))) ?_)
  · exact hP
  · exact ⟨rfl, rfl⟩
theorem df_line_moved (G : Ge K mg) : Df P w K mg base "line_moved" 6 (fun eS t rS tS => ∃ (l : Ln) (sh tn : Rat), (BdL 400 l ∧ Bd 10 sh ∧ Bd 810 tn) ∧ eS = [.v (encL l), .v (.tuple [encQ sh, encQ tn])] ∧ rS = .d (encL (l.moved sh tn)) ∧ tS = t) := by
  refine mkD G 20 ["line", "motion", "own", "shift", "turn"] ["line", "motion"] (by decide +kernel) ⟨rfl, rfl, rfl, by decide +kernel, rfl, by decide +kernel, by decide +kernel⟩ (fun f fd F => F.bindsN fun _ _ _ _ _ _ us hl => match us, hl with | [_, _], _ => rfl) (fun es t r t' h => by obtain ⟨_, _, _, _, rfl, _, _⟩ := h; rfl) ?_
  rintro p _ t0 _ t ⟨l, sh, tn, hP, rfl, rfl, rfl⟩
  obtain ⟨hl, hs, ht⟩ := hP
  have hT : Df P w K mg base "tupled" 3 (arTup 2) := df_tupled G 2
  refine ds_cons ?_
  refine ds_asg (de_tup2 (d1 := encL l) (d2 := .tuple [encQ sh, encQ tn]) (DE.as (de_call hT (da_cons (de_n 0 rfl) da_nil) ⟨_, tk_L l, rfl, rfl, rfl⟩ rfl (Nat.le_of_ble_eq_true rfl)) (tup_L l)) (de_call hT (da_cons (de_n 1 rfl) da_nil) ⟨_, (by rfl), rfl, rfl, rfl⟩ rfl (Nat.le_of_ble_eq_true rfl))) (dg_tup (dgs_cons (dg_n 2) (dgs_cons (dg_tup (dgs_cons (dg_n 3) (dgs_cons (dg_n 4) dgs_nil))) dgs_nil))) ?_ (by intro env h; cases env; cases h; rfl)
  cases l with
  | ring q =>
    (refine ds_cons ?_; refine ds_ifT (dt_cmp (dc_eq (DE.rd (de_ix (DE.tup (de_n 2 rfl)) de_int rfl)) (DE.rd de_str) (by decide +kernel) (by decide +kernel))) (by decide +kernel) ?_)
    (refine ds_one ?_; refine ds_ret (de_tup2 de_str (de_call (df_part_plus G) (da_cons (de_ix (DE.tup (de_n 2 rfl)) de_int rfl) (da_cons (de_n 3 rfl) da_nil)) ⟨_, _, ?_, rfl, rfl, rfl⟩ rfl (Nat.le_of_ble_eq_true rfl))) ?_)
    · exact ⟨Bd.mono hl, hs.mono⟩
    · exact ⟨rfl, rfl⟩
  | flute q =>
    (refine ds_cons ?_; refine ds_ifF (dt_cmp (dc_eq (DE.rd (de_ix (DE.tup (de_n 2 rfl)) de_int rfl)) (DE.rd de_str) (by decide +kernel) (by decide +kernel))) (by decide +kernel) ?_)
    refine ds_nil ?_
    (refine ds_cons ?_; refine ds_ifT (dt_cmp (dc_eq (DE.rd (de_ix (DE.tup (de_n 2 rfl)) de_int rfl)) (DE.rd de_str) (by decide +kernel) (by decide +kernel))) (by decide +kernel) ?_)
    (refine ds_one ?_; refine ds_ret (de_tup2 de_str (de_call (df_angle_of G) (da_cons (de_call (df_part_plus G) (da_cons (de_ix (DE.tup (de_n 2 rfl)) de_int rfl) (da_cons (de_n 4 rfl) da_nil)) ⟨_, _, ?_, rfl, rfl, rfl⟩ rfl (Nat.le_of_ble_eq_true rfl)) da_nil) ⟨_, rfl, rfl, rfl⟩ rfl (Nat.le_of_ble_eq_true rfl))) ?_)
    · exact ⟨Bd.mono hl, ht.mono⟩
    · exact ⟨rfl, rfl⟩
  | lead l q =>
    obtain ⟨h1, h2, h3⟩ := hl
    (refine ds_cons ?_; refine ds_ifF (dt_cmp (dc_eq (DE.rd (de_ix (DE.tup (de_n 2 rfl)) de_int rfl)) (DE.rd de_str) (by decide +kernel) (by decide +kernel))) (by decide +kernel) ?_)
    refine ds_nil ?_
    (refine ds_cons ?_; refine ds_ifF (dt_cmp (dc_eq (DE.rd (de_ix (DE.tup (de_n 2 rfl)) de_int rfl)) (DE.rd de_str) (by decide +kernel) (by decide +kernel))) (by decide +kernel) ?_)
    refine ds_nil ?_
    (refine ds_one ?_; refine ds_ret (de_call (df_lead_line G) (da_cons (de_ix (DE.tup (de_n 2 rfl)) de_int rfl) (da_cons (de_call (df_part_less G) (da_cons (de_call (df_part_plus G) (da_cons (de_ix (DE.tup (de_n 2 rfl)) de_int rfl) (da_cons (de_n 3 rfl) da_nil)) ⟨_, _, ?_, rfl, rfl, rfl⟩ rfl (Nat.le_of_ble_eq_true rfl)) (da_cons (de_call (df_part_times G) (da_cons (de_ix (DE.tup (de_n 2 rfl)) de_int rfl) (da_cons (de_n 4 rfl) da_nil)) ⟨_, _, ?_, rfl, rfl, rfl⟩ rfl (Nat.le_of_ble_eq_true rfl)) da_nil)) ⟨_, _, ?_, rfl, rfl, rfl⟩ rfl (Nat.le_of_ble_eq_true rfl)) da_nil)) ⟨_, _, ?_, rfl, rfl, rfl⟩ rfl (Nat.le_of_ble_eq_true rfl)) ?_)
    · exact ⟨h3.mono, hs.mono⟩
    · exact ⟨h1.mono, ht.mono⟩
    · exact ⟨(h3.add hs).mono, (h1.mul ht).mono⟩
    · exact ⟨((h3.add hs).sub (h1.mul ht)).mono, h1.mono, h2⟩
    · exact ⟨rfl, rfl⟩
theorem df_line_mirrored (G : Ge K mg) : Df P w K mg base "line_mirrored" 4 (fun eS t rS tS => ∃ (l : Ln), eS = [.v (encL l)] ∧ rS = .d (encL l.mirr) ∧ tS = t) := by
  refine mkD G 21 ["line", "own"] ["line"] (by decide +kernel) ⟨rfl, rfl, rfl, by decide +kernel, rfl, by decide +kernel, by decide +kernel⟩ (fun f fd F => F.bindsN fun _ _ _ _ _ _ us hl => match us, hl with | [_], _ => rfl) (fun es t r t' h => by obtain ⟨_, rfl, _, _⟩ := h; rfl) ?_
  rintro p _ t0 _ t ⟨l, rfl, rfl, rfl⟩
  have hT : Df P w K mg base "tupled" 3 (arTup 2) := df_tupled G 2
  refine ds_cons ?_
  refine ds_set 1 (DE.as (de_call hT (da_cons (de_n 0 rfl) da_nil) ⟨_, tk_L l, rfl, rfl, rfl⟩ rfl (Nat.le_of_ble_eq_true rfl)) (tup_L l)) ?_
  cases l with
  | ring q =>
    (refine ds_cons ?_; refine ds_ifT (dt_cmp (dc_eq (DE.rd (de_ix (DE.tup (de_n 1 rfl)) de_int rfl)) (DE.rd de_str) (by decide +kernel) (by decide +kernel))) (by decide +kernel) ?_)
    (refine ds_one ?_; refine ds_ret (de_n 1 rfl) ?_)
    exact ⟨rfl, rfl⟩
  | flute q =>
    (refine ds_cons ?_; refine ds_ifF (dt_cmp (dc_eq (DE.rd (de_ix (DE.tup (de_n 1 rfl)) de_int rfl)) (DE.rd de_str) (by decide +kernel) (by decide +kernel))) (by decide +kernel) ?_)
    refine ds_nil ?_
    (refine ds_cons ?_; refine ds_ifT (dt_cmp (dc_eq (DE.rd (de_ix (DE.tup (de_n 1 rfl)) de_int rfl)) (DE.rd de_str) (by decide +kernel) (by decide +kernel))) (by decide +kernel) ?_)
    (refine ds_one ?_; refine ds_ret (de_tup2 de_str (de_call (df_angle_of G) (da_cons (de_call (df_part_minus G) (da_cons (de_ix (DE.tup (de_n 1 rfl)) de_int rfl) da_nil) ⟨_, rfl, rfl, rfl⟩ rfl (Nat.le_of_ble_eq_true rfl)) da_nil) ⟨_, rfl, rfl, rfl⟩ rfl (Nat.le_of_ble_eq_true rfl))) ?_)
    exact ⟨rfl, rfl⟩
  | lead l q =>
    (refine ds_cons ?_; refine ds_ifF (dt_cmp (dc_eq (DE.rd (de_ix (DE.tup (de_n 1 rfl)) de_int rfl)) (DE.rd de_str) (by decide +kernel) (by decide +kernel))) (by decide +kernel) ?_)
    refine ds_nil ?_
    (refine ds_cons ?_; refine ds_ifF (dt_cmp (dc_eq (DE.rd (de_ix (DE.tup (de_n 1 rfl)) de_int rfl)) (DE.rd de_str) (by decide +kernel) (by decide +kernel))) (by decide +kernel) ?_)
    refine ds_nil ?_
    (refine ds_one ?_; refine ds_ret (de_tup3 de_str (de_call (df_part_minus G) (da_cons (de_ix (DE.tup (de_n 1 rfl)) de_int rfl) da_nil) ⟨_, rfl, rfl, rfl⟩ rfl (Nat.le_of_ble_eq_true rfl)) (de_ix (DE.tup (de_n 1 rfl)) de_int rfl)) ?_)
    exact ⟨rfl, rfl⟩
theorem df_ends_turned (G : Ge K mg) : Df P w K mg base "ends_turned" 6 (fun eS t rS tS => ∃ (l : Ln) (far : Rat), (BdL 400 l ∧ Bd 50 far) ∧ eS = [.v (encL l), .v (encQ far)] ∧ rS = .d (encL (l.ended far)) ∧ tS = t) := by
  refine mkD G 22 ["line", "length", "own", "far"] ["line", "length"] (by decide +kernel) ⟨rfl, rfl, rfl, by decide +kernel, rfl, by decide +kernel, by decide +kernel⟩ (fun f fd F => F.bindsN fun _ _ _ _ _ _ us hl => match us, hl with | [_, _], _ => rfl) (fun es t r t' h => by obtain ⟨_, _, _, rfl, _, _⟩ := h; rfl) ?_
  rintro p _ t0 _ t ⟨l, far, hP, rfl, rfl, rfl⟩
  obtain ⟨hl, hf⟩ := hP
  have hT : Df P w K mg base "tupled" 3 (arTup 2) := df_tupled G 2
  refine ds_cons ?_
  refine ds_par 2 3 (en := .v (encL l)) (em := .v (encQ far)) (DE.dv (DE.as (de_call hT (da_cons (de_n 0 rfl) da_nil) ⟨_, tk_L l, rfl, rfl, rfl⟩ rfl (Nat.le_of_ble_eq_true rfl)) (tup_L l))) (DE.dv (de_call hT (da_cons (de_n 1 rfl) da_nil) ⟨_, (by rfl), rfl, rfl, rfl⟩ rfl (Nat.le_of_ble_eq_true rfl))) ?_ (by intro env h; cases env; cases h; rfl)
  cases l with
  | ring q =>
    (refine ds_cons ?_; refine ds_ifT (dt_cmp (dc_eq (DE.rd (de_ix (DE.tup (de_n 2 rfl)) de_int rfl)) (DE.rd de_str) (by decide +kernel) (by decide +kernel))) (by decide +kernel) ?_)
    (refine ds_one ?_; refine ds_ret (de_tup2 de_str (de_call (df_part_less G) (da_cons (de_n 3 rfl) (da_cons (de_ix (DE.tup (de_n 2 rfl)) de_int rfl) da_nil)) ⟨_, _, ?_, rfl, rfl, rfl⟩ rfl (Nat.le_of_ble_eq_true rfl))) ?_)
    · exact ⟨hf.mono, Bd.mono hl⟩
    · exact ⟨rfl, rfl⟩
  | flute q =>
    (refine ds_cons ?_; refine ds_ifF (dt_cmp (dc_eq (DE.rd (de_ix (DE.tup (de_n 2 rfl)) de_int rfl)) (DE.rd de_str) (by decide +kernel) (by decide +kernel))) (by decide +kernel) ?_)
    refine ds_nil ?_
    (refine ds_cons ?_; refine ds_ifT (dt_cmp (dc_eq (DE.rd (de_ix (DE.tup (de_n 2 rfl)) de_int rfl)) (DE.rd de_str) (by decide +kernel) (by decide +kernel))) (by decide +kernel) ?_)
    (refine ds_one ?_; refine ds_ret (de_tup2 de_str (de_call (df_angle_of G) (da_cons (de_call (df_part_minus G) (da_cons (de_ix (DE.tup (de_n 2 rfl)) de_int rfl) da_nil) ⟨_, rfl, rfl, rfl⟩ rfl (Nat.le_of_ble_eq_true rfl)) da_nil) ⟨_, rfl, rfl, rfl⟩ rfl (Nat.le_of_ble_eq_true rfl))) ?_)
    exact ⟨rfl, rfl⟩
  | lead l q =>
    obtain ⟨h1, h2, h3⟩ := hl
    (refine ds_cons ?_; refine ds_ifF (dt_cmp (dc_eq (DE.rd (de_ix (DE.tup (de_n 2 rfl)) de_int rfl)) (DE.rd de_str) (by decide +kernel) (by decide +kernel))) (by decide +kernel) ?_)
    refine ds_nil ?_
    (refine ds_cons ?_; refine ds_ifF (dt_cmp (dc_eq (DE.rd (de_ix (DE.tup (de_n 2 rfl)) de_int rfl)) (DE.rd de_str) (by decide +kernel) (by decide +kernel))) (by decide +kernel) ?_)
    refine ds_nil ?_
    (refine ds_one ?_; refine ds_ret (de_call (df_lead_line G) (da_cons (de_ix (DE.tup (de_n 2 rfl)) de_int rfl) (da_cons (de_call (df_part_less G) (da_cons (de_n 3 rfl) (da_cons (de_ix (DE.tup (de_n 2 rfl)) de_int rfl) da_nil)) ⟨_, _, ?_, rfl, rfl, rfl⟩ rfl (Nat.le_of_ble_eq_true rfl)) da_nil)) ⟨_, _, ?_, rfl, rfl, rfl⟩ rfl (Nat.le_of_ble_eq_true rfl)) ?_)
    · exact ⟨hf.mono, h3.mono⟩
    · exact ⟨(hf.sub h3).mono, h1.mono, h2⟩
    · exact ⟨rfl, rfl⟩
theorem df_lines_of (G : Ge K mg) : Df P w K mg base "lines_of" 2 (fun eS t rS tS => ∃ (gs : List Gr), (gs.length < 64) ∧ eS = [.v (.tuple (gs.map encG))] ∧ rS = .d (.tuple ((setL (gs.map (·.l))).map encL)) ∧ tS = t) := by
  refine mkD G 24 ["grooves", "own"] ["grooves"] (by decide +kernel) ⟨rfl, rfl, rfl, by decide +kernel, rfl, by decide +kernel, by decide +kernel⟩ (fun f fd F => F.bindsN fun _ _ _ _ _ _ us hl => match us, hl with | [_], _ => rfl) (fun es t r t' h => by obtain ⟨_, _, rfl, _, _⟩ := h; rfl) ?_
  rintro p _ t0 _ t ⟨gs, hP, rfl, rfl, rfl⟩
  refine ds_one ?_
  refine ds_ret (de_call (df_set_of G) (da_cons (DN.frz (dn_lc (own := [("own", 1)]) (blk0 (by decide +kernel) rfl) gs encG (fun _ => true) (fun g => encL g.l) (di_tup (de_n 0 rfl)) (by omega) ?step)) da_nil) ⟨((gs.map (·.l)).map encL), (setL (gs.map (·.l))).map encL, setCond encOk_L _ (by rw [List.length_map]; exact hP), ?eq, rfl, rfl⟩ rfl (Nat.le_of_ble_eq_true rfl)) ⟨rfl, rfl⟩
  case step => exact fun g _ => ⟨_, _, dg_n 1, by simp, rfl, fun _ => (de_ix (DE.tup (de_n 1 rfl)) de_int rfl)⟩
  case eq => rw [List.filter_eq_self.mpr (fun _ _ => rfl), List.map_map]; rfl
theorem df_depth_between (G : Ge K mg) : Df P w K mg base "depth_between" 2 (fun eS t rS tS => ∃ (gs : List Gr) (s e : Rat) (k m : Nat), (gs.length < 64 ∧ m ≤ 50 ∧ (∀ g ∈ gs, BdG k m g) ∧ Bd 100 s ∧ Bd 100 e) ∧ eS = [.v (.list (gs.map encG)), .v (encQ s), .v (encQ e)] ∧ rS = .d (.int (segD gs s e)) ∧ tS = t) := by
  refine mkD G 25 ["grooves", "start", "end", "own"] ["grooves", "start", "end"] (by decide +kernel) ⟨rfl, rfl, rfl, by decide +kernel, rfl, by decide +kernel, by decide +kernel⟩ (fun f fd F => F.bindsN fun _ _ _ _ _ _ us hl => match us, hl with | [_, _, _], _ => rfl) (fun es t r t' h => by obtain ⟨_, _, _, _, _, _, rfl, _, _⟩ := h; rfl) ?_
  rintro p _ t0 _ t ⟨gs, s, e, k, m, hP, rfl, rfl, rfl⟩
  obtain ⟨hz, hm, hg, hs, he⟩ := hP
  refine ds_one ?_
  have hmem := maxI_mem ((gs.filter fun g => decide (g.s ≤ s) && decide (e ≤ g.e)).map (·.d))
  refine ds_ret (de_max (ns := 0 :: (gs.filter fun g => decide (g.s ≤ s) && decide (e ≤ g.e)).map (·.d)) (m := segD gs s e) (DO.seq (DN.own (DN.is (dn_cat (DN.own (dn_lst1 de_int)) (DN.own (dn_lc (own := [("own", 3)]) (blk0 (by decide +kernel) rfl) gs encG (fun g => decide (g.s ≤ s) && decide (e ≤ g.e)) (fun g => .int g.d) (di_list (de_n 0 rfl)) (by omega) ?step)) ?len) ?eq))) hmem ?ub rfl (G.f _ (by decide))) ⟨rfl, rfl⟩
  case step =>
    intro g hgm
    refine ⟨_, _, dg_n 3, by simp, (dw_pt (dw_and (dt_v (de_call (df_at_most G) (da_cons (de_ix (DE.tup (de_n 3 rfl)) de_int rfl) (da_cons (de_n 1 rfl) da_nil)) ⟨_, _, ?_, rfl, rfl, rfl⟩ rfl (Nat.le_of_ble_eq_true rfl))) (fun hW2 => (dw_and1 (dt_v (de_call (df_at_most G) (da_cons (de_n 2 rfl) (da_cons (de_ix (DE.tup (de_n 3 rfl)) de_int rfl) da_nil)) ⟨_, _, ?_, rfl, rfl, rfl⟩ rfl (Nat.le_of_ble_eq_true rfl))))))), fun _ => (de_ix (DE.tup (de_n 3 rfl)) de_int rfl)⟩
    · exact ⟨(hg g hgm).s.mono, hs.mono⟩
    · exact ⟨he.mono, (hg g hgm).e.mono⟩
  case len =>
    have := List.length_filter_le (fun g : Gr => decide (g.s ≤ s) && decide (e ≤ g.e)) gs
    rw [List.length_map]
    show 1 + _ ≤ _
    omega
  case eq => rw [List.map_cons, List.map_map]; rfl
  case ub =>
    intro y hy
    rcases List.mem_cons.mp hy with z | z
    · subst z
      exact maxI_nn _
    · exact maxI_ub _ _ z
end
end Sc

/-! E6 -/
set_option Elab.async false
set_option linter.all false
set_option maxRecDepth 100000
namespace Sc
open PySem PySem.Spec PyProof.Rows L2 Evl
theorem ixN_last (n : Nat) : ixN (n + 1) (-1) = some n := by
  unfold ixN
  rw [if_neg (by decide), if_pos (by omega)]
  congr 1
  omega
theorem atI_last {α : Type} (xs : List α) (x : α) : atI (xs ++ [x]) (-1) = some x := by
  unfold atI
  rw [List.length_append, List.length_singleton, ixN_last]
  simp
theorem set_last {α : Type} (xs : List α) (x y : α) : (xs ++ [x]).set xs.length y = xs ++ [y] := by
  rw [List.set_append_right _ _ (Nat.le_refl _), Nat.sub_self]
  rfl
theorem fold_take {α β : Type} (f : β → α → β) (a : β) {xs : List α} {i : Nat} {x : α} (h : xs[i]? = some x) : (xs.take (i + 1)).foldl f a = f ((xs.take i).foldl f a) x := by
  rw [List.take_succ, h, List.foldl_append]
  rfl
theorem zip_segs (ps : List Rat) : zipD (ps.map encQ) (cutD (ps.map encQ) (some 1) none) = (segs ps).map fun se => .tuple [encQ se.1, encQ se.2] := by
  rw [show (some (1 : Int)) = some ((1 : Nat) : Int) from rfl, cutD_from, ← List.map_drop]
  unfold zipD segs
  rw [List.zipWith_map, List.map_zip_eq_zipWith, List.drop_one]
  rfl
theorem mem_segs {ps : List Rat} {se : Rat × Rat} (h : se ∈ segs ps) : se.1 ∈ ps ∧ se.2 ∈ ps := by
  obtain ⟨h1, h2⟩ := List.of_mem_zip (show (se.1, se.2) ∈ ps.zip ps.tail from h)
  exact ⟨h1, List.mem_of_mem_tail h2⟩
theorem pstep_nil (gs : List Gr) (se : Rat × Rat) : pstep gs [] se = if 0 < segD gs se.1 se.2 then [(se.1, se.2, segD gs se.1 se.2)] else [] := rfl
theorem pstep_snoc (gs : List Gr) (xs : List Sg) (x : Sg) (se : Rat × Rat) : pstep gs (xs ++ [x]) se =
    if x.2.1 = se.1 ∧ x.2.2 = segD gs se.1 se.2 then xs ++ [(x.1, se.2, segD gs se.1 se.2)] else if 0 < segD gs se.1 se.2 then xs ++ [x] ++ [(se.1, se.2, segD gs se.1 se.2)] else xs ++ [x] := by
  unfold pstep
  rw [List.getLast?_concat, List.dropLast_concat]
theorem pstep_len (gs : List Gr) (xs : List Sg) (se : Rat × Rat) : (pstep gs xs se).length ≤ xs.length + 1 := by
  rcases List.eq_nil_or_concat xs with e | ⟨ys, y, e⟩
  · subst e
    rw [pstep_nil]
    split <;> simp
  · subst e
    rw [List.concat_eq_append, pstep_snoc]
    split
    · simp
    · split <;> simp
theorem pfold_len (gs : List Gr) : ∀ (ss : List (Rat × Rat)) (a : List Sg), (ss.foldl (pstep gs) a).length ≤ a.length + ss.length
  | [], a => Nat.le_refl _
  | se :: ss, a => by
    have h := pfold_len gs ss (pstep gs a se)
    have h2 := pstep_len gs a se
    rw [List.foldl_cons, List.length_cons]
    omega
theorem segs_len (ps : List Rat) : (segs ps).length ≤ ps.length := by
  unfold segs
  rw [List.length_zip]
  omega
theorem places_len (gs : List Gr) : (placesG gs).length ≤ 2 * gs.length := by
  have : (placesG gs).length ≤ (gs.map (·.s) ++ gs.map (·.e)).length := setS_len _
  rw [List.length_append, List.length_map, List.length_map] at this
  omega
def Ln.kind : Ln → Str
  | .ring _ => "ring"
  | .flute _ => "flute"
  | .lead _ _ => "lead"
theorem shK (l : Ln) : SeqAt.shaped (.str l.kind) = true := by
  cases l
  · show SeqAt.shaped (.str "ring") = true
    decide +kernel
  · show SeqAt.shaped (.str "flute") = true
    decide +kernel
  · show SeqAt.shaped (.str "lead") = true
    decide +kernel
theorem kind_ring (l : Ln) : PyData.eqv (.str l.kind) (.str "ring") = l.isRing := by
  cases l
  · show PyData.eqv (.str "ring") (.str "ring") = true
    decide +kernel
  · show PyData.eqv (.str "flute") (.str "ring") = false
    decide +kernel
  · show PyData.eqv (.str "lead") (.str "ring") = false
    decide +kernel
section
variable {S : Sta} {p : Bool} {e : Expr} {Γ : List En} {t t1 : Tn} {p1 p2 p3 p4 : Pos} {j j2 : Option Str}
theorem de_kind {l : Ln} {j : _} (h : DE S p e Γ t (encL l) t1) : DE S p (.Subscript e (.Constant (.int 0) j p1) p2) Γ t (.str l.kind) t1 := by
  cases l with
  | ring q => exact de_ix (DE.tup h) de_int rfl
  | flute q => exact de_ix (DE.tup h) de_int rfl
  | lead l q => exact de_ix (DE.tup h) de_int rfl
/-- line[0] == "ring", line[0] != "ring" -/
theorem dt_ring {l : Ln} {j j2 : _} (h : DE S p e Γ t (encL l) t1) : DT S p (.Compare (.Subscript e (.Constant (.int 0) j p1) p2) [.Eq] [.Constant (.str "ring") j2 p3] p4) Γ t l.isRing t1 :=
  DT.is (dt_cmp (dc_eq (DE.rd (de_kind h)) (DE.rd de_str) (shK l) (by decide +kernel))) (kind_ring l)
theorem dt_nring {l : Ln} {j j2 : _} (h : DE S p e Γ t (encL l) t1) : DT S p (.Compare (.Subscript e (.Constant (.int 0) j p1) p2) [.NotEq] [.Constant (.str "ring") j2 p3] p4) Γ t (!l.isRing) t1 :=
  DT.is (dt_cmp (dc_ne (DE.rd (de_kind h)) (DE.rd de_str) (shK l) (by decide +kernel))) (by rw [kind_ring l])
end
theorem eqv_int (a b : Int) : PyData.eqv (.int a) (.int b) = decide (a = b) := by
  by_cases h : a = b
  · subst h
    simp [PyData.eqv]
  · simp [PyData.eqv, h]
theorem ne_nil (xs : List PD) (x : PD) : (!PyData.eqv (.list (xs ++ [x])) (.list [])) = true := by
  cases xs <;> simp [PyData.eqv, PyData.eqvAll]
theorem sh_gs (gs : List Gr) : SeqAt.shaped (.list (gs.map encG)) = true := shp (by rw [nb]; exact nbAll_map nb_G gs) (by
  rw [PyData.depth]
  have := depthAll_map (fun g => Nat.le_of_eq (dp_G g)) gs
  omega)
theorem sh_rows (l : Ln) (fs : List Sg) (x : Sg) : SeqAt.shaped (.list (fs.map (fun x => encG (mkG l x)) ++ [encG (mkG l x)])) = true := by
  have := sh_gs ((fs ++ [x]).map (mkG l))
  rw [List.map_map, List.map_append] at this
  exact this
theorem shQ (q : Rat) : SeqAt.shaped (encQ q) = true := rfl
theorem shI (i : Int) : SeqAt.shaped (.int i) = true := rfl
section
variable {P : Program} {w : World} {K : PySem.W.Frag} {mg : Str → Option Value} {base : Heap}
theorem df_plain_row (G : Ge K mg) : Df P w K mg base "plain_row" 3 (fun eS t rS tS => ∃ (l : Ln) (gs : List Gr) (k m : Nat), (gs.length ≤ 16 ∧ gs ≠ [] ∧ m ≤ 50 ∧ (∀ g ∈ gs, BdG k m g ∧ 0 < g.d)) ∧ eS = [.v (encL l), .v (.list (gs.map encG))] ∧ rS = .l ((plainRow l gs).map encG) ∧ tS = t) := by
  refine mkD G 26 ["line", "grooves", "own", "places", "found", "start", "end", "depth"] ["line", "grooves"] (by decide +kernel) ⟨rfl, rfl, rfl, by decide +kernel, rfl, by decide +kernel, by decide +kernel⟩ (fun f fd F => F.bindsN fun _ _ _ _ _ _ us hl => match us, hl with | [_, _], _ => rfl) (fun es t r t' h => by obtain ⟨_, _, _, _, _, rfl, _, _⟩ := h; rfl) ?_
  rintro p _ t0 _ t ⟨l, gs, k, m, hP, rfl, rfl, rfl⟩
  obtain ⟨hz, hn, hm, hg⟩ := hP
  by_cases hr : l.isRing = true
  · cases l with
    | flute q => cases hr
    | lead l q => cases hr
    | ring q =>
      have hmem : maxI (gs.map (·.d)) ∈ gs.map (·.d) := maxI_pos (fun z => hn (by simpa using z)) fun x hx => by
        obtain ⟨g, hgm, rfl⟩ := List.mem_map.mp hx
        have := (hg g hgm).2
        omega
      (refine ds_cons ?_; refine ds_ifT (dt_cmp (dc_eq (DE.rd (de_ix (DE.tup (de_n 0 rfl)) de_int rfl)) (DE.rd de_str) (by decide +kernel) (by decide +kernel))) (by decide +kernel) ?_)
      refine ds_one ?_
      refine ds_retN (dn_lst1 (de_tup4 (de_n 0 rfl) (de_ix (DE.tup (de_n 0 rfl)) de_int rfl) (de_ix (DE.tup (de_n 0 rfl)) de_int rfl) (de_max (ns := gs.map (·.d)) (m := maxI (gs.map (·.d))) (DO.seq (DN.own (DN.is (dn_lc (own := [("own", 2)]) (blk0 (by decide +kernel) rfl) gs encG (fun _ => true) (fun g => .int g.d) (di_list (de_n 1 rfl)) (by omega) ?step) ?eq))) hmem (fun y hy => maxI_ub _ _ hy) rfl (G.f _ (by decide))))) ⟨rfl, rfl⟩
      case step => exact fun g _ => ⟨_, _, dg_n 2, by simp, rfl, fun _ => (de_ix (DE.tup (de_n 2 rfl)) de_int rfl)⟩
      case eq => rw [List.filter_eq_self.mpr (fun _ _ => rfl), List.map_map]; rfl
  · have hrow : (plainRow l gs).map encG = ((segs (placesG gs)).foldl (pstep gs) []).map fun x => encG (mkG l x) := by
      cases l with
      | ring q => exact absurd rfl hr
      | flute q => rw [plainRow, List.map_map]; rfl; exact fun _ z => nomatch z
      | lead l q => rw [plainRow, List.map_map]; rfl; exact fun _ z => nomatch z
    rw [hrow]
    have hpl : ∀ q ∈ placesG gs, Bd m q := fun q hq => by
      rcases List.mem_append.mp (mem_setS.mp hq) with z | z
      · obtain ⟨g, hgm, rfl⟩ := List.mem_map.mp z
        exact (hg g hgm).1.s
      · obtain ⟨g, hgm, rfl⟩ := List.mem_map.mp z
        exact (hg g hgm).1.e
    have hpz := places_len gs
    have hsz := segs_len (placesG gs)
    refine ds_cons ?_
    refine ds_ifF (dt_ring (l := l) (de_n 0 rfl)) (by simpa using hr) ?_
    refine ds_nil ?_
    refine ds_cons ?_
    refine ds_par 3 4 (en := .own ((placesG gs).map encQ)) (em := .own []) (DN.dv (dn_call (df_in_order G) (da_cons (DN.frz (DN.is (dn_cat (DN.own (dn_lc (own := [("own", 2)]) (blk0 (by decide +kernel) rfl) gs encG (fun _ => true) (fun g => encQ g.s) (di_list (de_n 1 rfl)) (by omega) ?st1)) (DN.own (dn_lc (own := [("own", 2)]) (blk0 (by decide +kernel) rfl) gs encG (fun _ => true) (fun g => encQ g.e) (di_list (de_n 1 rfl)) (by omega) ?st2)) ?cl) ?ceq)) da_nil) ⟨gs.map (·.s) ++ gs.map (·.e), ?hp, rfl, rfl, rfl⟩ rfl (Nat.le_of_ble_eq_true rfl))) (DN.dv dn_lst0) ?_ (by intro env h; cases env; cases h; rfl)
    case st1 => exact fun g _ => ⟨_, _, dg_n 2, by simp, rfl, fun _ => (de_ix (DE.tup (de_n 2 rfl)) de_int rfl)⟩
    case st2 => exact fun g _ => ⟨_, _, dg_n 2, by simp, rfl, fun _ => (de_ix (DE.tup (de_n 2 rfl)) de_int rfl)⟩
    case cl =>
      rw [List.filter_eq_self.mpr (fun _ _ => rfl), List.length_map, List.length_map]
      omega
    case ceq => rw [List.filter_eq_self.mpr (fun _ _ => rfl), List.map_append, List.map_map, List.map_map]; rfl
    case hp =>
      refine ⟨fun q hq => ?_, by rw [List.length_append, List.length_map, List.length_map]; omega⟩
      rcases List.mem_append.mp hq with z | z
      · obtain ⟨g, hgm, rfl⟩ := List.mem_map.mp z
        exact (hg g hgm).1.s.mono
      · obtain ⟨g, hgm, rfl⟩ := List.mem_map.mp z
        exact (hg g hgm).1.e.mono
    refine ds_cool 3 rfl ?_
    refine ds_cons ?_
    refine ds_for (fun i Γ t' => t' = t ∧ ∃ (x y z : En), Γ = [.v (encL l), .v (.list (gs.map encG)), .no, .v (.list ((placesG gs).map encQ)), .own ((((segs (placesG gs)).take i).foldl (pstep gs) []).map fun x => encG (mkG l x)), x, y, z])
      (di_zipL (de_n 3 rfl) (DN.frz (dn_slL (DE.lst (de_n 3 rfl)) (dpt_some de_int) dpt_none)) rfl (G.f _ (by decide))) ⟨rfl, _, _, _, rfl⟩ ?_ ?_
    · rintro i d _ _ hd ⟨rfl, x, y, z, rfl⟩
      rw [zip_segs, List.getElem?_map] at hd
      cases hq : (segs (placesG gs))[i]? with
      | none => rw [hq] at hd; cases hd
      | some se =>
      rw [hq] at hd
      have hd : PyData.tuple [encQ se.1, encQ se.2] = d := Option.some.inj hd
      subst hd
      have hi : i < (segs (placesG gs)).length := (List.getElem?_eq_some_iff.mp hq).1
      obtain ⟨m1, m2⟩ := mem_segs (List.mem_of_getElem? hq)
      rw [fold_take (pstep gs) [] hq]
      have hlen := pfold_len gs ((segs (placesG gs)).take i) []
      rw [List.length_nil, List.length_take] at hlen
      generalize ((segs (placesG gs)).take i).foldl (pstep gs) [] = fs at hlen ⊢
      refine ⟨_, _, dg_tup (dgs_cons (dg_n 5) (dgs_cons (dg_n 6) dgs_nil)), ?_⟩
      (refine ds_cons ?_; refine ds_set 7 (de_call (df_depth_between G) (da_cons (de_n 1 rfl) (da_cons (de_n 5 rfl) (da_cons (de_n 6 rfl) da_nil))) ⟨gs, se.1, se.2, k, m, ?_, rfl, rfl, rfl⟩ rfl (Nat.le_of_ble_eq_true rfl)) ?_)
      · exact ⟨by omega, hm, fun g hgm => (hg g hgm).1, (hpl _ m1).mono, (hpl _ m2).mono⟩
      rcases List.eq_nil_or_concat fs with e | ⟨fs, x, e⟩
      · subst e
        rw [pstep_nil]
        refine ds_one ?_
        refine ds_ifF (c := false) (DT.is (dw_pt (dw_and (c := false) (c' := false) (DT.is (dt_cmp (dc_ne (DO.rd (do_n 4 rfl)) (DO.rd (DN.own dn_lst0)) rfl rfl)) rfl) (fun h => (by cases h)))) rfl) rfl ?_
        refine ds_one ?_
        refine ds_if (dt_cmp (dc_gt (de_n 7 rfl) de_int)) (fun h => ?_) fun h => ?_
        · have h := of_decide_eq_true h
          (refine ds_one ?_; refine ds_app 4 rfl (de_tup4 (de_n 0 rfl) (de_n 5 rfl) (de_n 6 rfl) (de_n 7 rfl)) (by simp) ?_)
          refine ⟨rfl, .v (encQ se.1), .v (encQ se.2), .v (.int (segD gs se.1 se.2)), ?_⟩
          rw [if_pos h]
          rfl
        · have h := of_decide_eq_false h
          refine ds_nil ⟨rfl, .v (encQ se.1), .v (encQ se.2), .v (.int (segD gs se.1 se.2)), ?_⟩
          rw [if_neg h]
          rfl
      · subst e
        rw [List.concat_eq_append, List.length_append, List.length_singleton] at hlen
        rw [List.concat_eq_append, pstep_snoc]
        have em : (fs ++ [x]).map (fun x => encG (mkG l x)) = fs.map (fun x => encG (mkG l x)) ++ [encG (mkG l x)] := by rw [List.map_append]; rfl
        rw [em]
        have hat : atI (fs.map (fun x => encG (mkG l x)) ++ [encG (mkG l x)]) (-1) = some (encG (mkG l x)) := atI_last _ _
        refine ds_one ?_
        refine ds_if (c := decide (x.2.1 = se.1) && decide (x.2.2 = segD gs se.1 se.2)) (DT.is (dw_pt (dw_and (c := true) (c' := decide (x.2.1 = se.1) && decide (x.2.2 = segD gs se.1 se.2)) (DT.is (dt_cmp (dc_ne (DO.rd (do_n 4 rfl)) (DO.rd (DN.own dn_lst0)) ?sh rfl)) ?ne) fun _ =>
          dw_and (DT.is (dt_cmp (dc_eq (DE.rd (de_ix (DE.tup (de_ix (DO.seq (do_n 4 rfl)) (de_neg de_int) hat)) de_int rfl)) (DE.rd (de_n 5 rfl)) rfl rfl)) (eqv_dec (enc := encQ) (fun _ _ => encQ_inj) nb_Q x.2.1 se.1)) fun _ =>
          dw_and1 (DT.is (dt_cmp (dc_eq (DE.rd (de_ix (DE.tup (de_ix (DO.seq (do_n 4 rfl)) (de_neg de_int) hat)) de_int rfl)) (DE.rd (de_n 7 rfl)) rfl rfl)) (eqv_int x.2.2 _)))) rfl) (fun h => ?_) fun h => ?_
        case sh => exact sh_rows l fs x
        case ne => exact ne_nil _ _
        · have h : x.2.1 = se.1 ∧ x.2.2 = segD gs se.1 se.2 := by simpa using h
          refine ds_one ?_
          refine ds_put 4 (k := -1) (j := (fs.map (fun x => encG (mkG l x))).length) rfl (de_tup4 (de_n 0 rfl) (de_ix (DE.tup (de_ix (DO.seq (do_n 4 rfl)) (de_neg de_int) hat)) de_int rfl) (de_n 6 rfl) (de_n 7 rfl)) (de_neg de_int) (by rw [List.length_append]; exact ixN_last _) ?_
          refine ⟨rfl, .v (encQ se.1), .v (encQ se.2), .v (.int (segD gs se.1 se.2)), ?_⟩
          rw [if_pos h, set_last, List.map_append]
          rfl
        · have h : ¬ (x.2.1 = se.1 ∧ x.2.2 = segD gs se.1 se.2) := by simpa using h
          refine ds_one ?_
          refine ds_if (dt_cmp (dc_gt (de_n 7 rfl) de_int)) (fun h2 => ?_) fun h2 => ?_
          · have h2 := of_decide_eq_true h2
            (refine ds_one ?_; refine ds_app 4 rfl (de_tup4 (de_n 0 rfl) (de_n 5 rfl) (de_n 6 rfl) (de_n 7 rfl)) (by rw [List.length_append, List.length_map, List.length_singleton]; omega) ?_)
            refine ⟨rfl, .v (encQ se.1), .v (encQ se.2), .v (.int (segD gs se.1 se.2)), ?_⟩
            rw [if_neg h, if_pos h2, List.map_append, List.map_append]
            rfl
          · have h2 := of_decide_eq_false h2
            refine ds_nil ⟨rfl, .v (encQ se.1), .v (encQ se.2), .v (.int (segD gs se.1 se.2)), ?_⟩
            rw [if_neg h, if_neg h2, List.map_append]
            rfl
    · rintro _ _ ⟨rfl, x, y, z, rfl⟩
      refine ds_one ?_
      refine ds_retO 4 rfl ⟨?_, rfl⟩
      rw [zip_segs, List.length_map, List.take_length]
end
end Sc

/-! M4 -/
set_option Elab.async false
set_option linter.all false
set_option maxRecDepth 100000
namespace Sc
open PySem
/-! ### what rows a plain BAR has -/
def WfG (g : Gr) : Prop := match g.l with
  | .ring q => g.s = q ∧ g.e = q
  | _ => g.s < g.e
structure OkG (k m : Nat) (g : Gr) : Prop where
  b : BdG k m g
  d : 0 < g.d
  w : WfG g
structure OkB (k m n : Nat) (b : Br) : Prop where
  len : Bd 5 b.len
  rows : b.gs.length ≤ n
  g : ∀ g ∈ b.gs, OkG k m g
theorem WfG.of {l : Ln} {s e : Rat} {d : Int} (hr : l.isRing = false) : WfG ⟨l, s, e, d⟩ ↔ s < e := by
  cases l
  · cases hr
  · exact Iff.rfl
  · exact Iff.rfl
theorem segs_lt : ∀ {ps : List Rat}, Asc leQ ps → ∀ se ∈ segs ps, se.1 < se.2
  | [], _, se, h => by simp [segs] at h
  | [a], _, se, h => by simp [segs] at h
  | a :: b :: ps, ha, se, h => by
    obtain ⟨h1, h2⟩ := List.pairwise_cons.mp ha
    have e : segs (a :: b :: ps) = (a, b) :: segs (b :: ps) := rfl
    rw [e] at h
    rcases List.mem_cons.mp h with z | z
    · subst z
      have q := h1 b List.mem_cons_self
      have q1 : decide (a ≤ b) = true := q.1
      have q1 := of_decide_eq_true q1
      have q2 := q.2
      show a < b
      grind
    · exact segs_lt h2 se z
theorem pfold_mem (gs : List Gr) (I : Rat → Prop) : ∀ (ss : List (Rat × Rat)) (a : List Sg), (∀ se ∈ ss, se.1 < se.2 ∧ I se.1 ∧ I se.2) → (∀ x ∈ a, x.1 < x.2.1 ∧ 0 < x.2.2 ∧ I x.1 ∧ I x.2.1) →
    ∀ x ∈ ss.foldl (pstep gs) a, x.1 < x.2.1 ∧ 0 < x.2.2 ∧ I x.1 ∧ I x.2.1
  | [], a, _, ha => ha
  | se :: ss, a, hs, ha => by
    rw [List.foldl_cons]
    refine pfold_mem gs I ss _ (fun z hz => hs z (List.mem_cons_of_mem _ hz)) fun x hx => ?_
    obtain ⟨s1, s2, s3⟩ := hs se List.mem_cons_self
    rcases List.eq_nil_or_concat a with e | ⟨ys, y, e⟩
    · subst e
      rw [pstep_nil] at hx
      split at hx
      · rename_i h
        have := List.mem_singleton.mp hx
        subst this
        exact ⟨s1, h, s2, s3⟩
      · cases hx
    · subst e
      rw [List.concat_eq_append] at hx ha
      rw [pstep_snoc] at hx
      have hy := ha y (by simp)
      split at hx
      · rename_i h
        rcases List.mem_append.mp hx with z | z
        · exact ha x (by simp [z])
        · have := List.mem_singleton.mp z
          subst this
          refine ⟨?_, by show 0 < segD gs se.1 se.2; rw [← h.2]; exact hy.2.1, hy.2.2.1, s3⟩
          show y.1 < se.2
          have := hy.1
          have := h.1
          grind
      · split at hx
        · rename_i h
          rcases List.mem_append.mp hx with z | z
          · exact ha x z
          · have := List.mem_singleton.mp z
            subst this
            exact ⟨s1, h, s2, s3⟩
        · exact ha x hx
theorem mem_places {gs : List Gr} {q : Rat} (h : q ∈ placesG gs) : ∃ g ∈ gs, q = g.s ∨ q = g.e := by
  rcases List.mem_append.mp (mem_setS.mp h) with z | z
  · obtain ⟨g, hg, rfl⟩ := List.mem_map.mp z
    exact ⟨g, hg, .inl rfl⟩
  · obtain ⟨g, hg, rfl⟩ := List.mem_map.mp z
    exact ⟨g, hg, .inr rfl⟩
theorem prow_eq {l : Ln} (hr : l.isRing = false) (gs : List Gr) : plainRow l gs = ((segs (placesG gs)).foldl (pstep gs) []).map (mkG l) := by
  cases l
  · cases hr
  · rfl
  · rfl
theorem prow_ok {k m : Nat} {l : Ln} {gs : List Gr} (hn : gs ≠ []) (hl : ∀ g ∈ gs, g.l = l) (hg : ∀ g ∈ gs, OkG k m g) : ∀ x ∈ plainRow l gs, OkG k m x ∧ x.l = l := by
  intro x hx
  obtain ⟨g0, hg0⟩ := List.exists_mem_of_ne_nil _ hn
  have h0 := hg g0 hg0
  have hb : BdL k l := by rw [← hl g0 hg0]; exact h0.b.l
  by_cases hr : l.isRing = true
  · cases l with
    | flute q => cases hr
    | lead l q => cases hr
    | ring q =>
      have := List.mem_singleton.mp hx
      subst this
      have hw := h0.w
      unfold WfG at hw
      rw [hl g0 hg0] at hw
      have hs := h0.b.s
      rw [hw.1] at hs
      refine ⟨⟨⟨hb, hs, hs⟩, ?_, ⟨rfl, rfl⟩⟩, rfl⟩
      have := maxI_ub (gs.map (·.d)) g0.d (List.mem_map.mpr ⟨g0, hg0, rfl⟩)
      have := h0.d
      show 0 < maxI _
      omega
  · have hr : l.isRing = false := by simpa using hr
    rw [prow_eq hr] at hx
    obtain ⟨y, hy, rfl⟩ := List.mem_map.mp hx
    have I : ∀ q ∈ placesG gs, Bd m q := fun q hq => by
      obtain ⟨g, hgm, z | z⟩ := mem_places hq
      · rw [z]
        exact (hg g hgm).b.s
      · rw [z]
        exact (hg g hgm).b.e
    obtain ⟨a1, a2, a3, a4⟩ := pfold_mem gs (Bd m) (segs (placesG gs)) [] (fun se hs => ⟨segs_lt (setS_asc lo_Q _) se hs, I _ (mem_segs hs).1, I _ (mem_segs hs).2⟩) (fun _ h => (by cases h)) y hy
    exact ⟨⟨⟨hb, a3, a4⟩, a2, (WfG.of hr).mpr a1⟩, rfl⟩
theorem prow_len (l : Ln) {gs : List Gr} (hn : gs ≠ []) : (plainRow l gs).length ≤ 2 * gs.length := by
  by_cases hr : l.isRing = true
  · cases l with
    | flute q => cases hr
    | lead l q => cases hr
    | ring q =>
      have : 0 < gs.length := List.length_pos_iff.mpr hn
      show 1 ≤ _
      omega
  · have hr : l.isRing = false := by simpa using hr
    rw [prow_eq hr, List.length_map]
    have h1 := pfold_len gs (segs (placesG gs)) []
    have h2 := segs_len (placesG gs)
    have h3 := places_len gs
    rw [List.length_nil] at h1
    omega
theorem mem_ofL {l : Ln} {gs : List Gr} {g : Gr} : g ∈ ofL l gs ↔ g ∈ gs ∧ g.l = l := by
  unfold ofL
  rw [List.mem_filter, decide_eq_true_eq]
theorem ofL_ne {l : Ln} {gs : List Gr} (h : l ∈ setL (gs.map (·.l))) : ofL l gs ≠ [] := by
  obtain ⟨g, hg, e⟩ := List.mem_map.mp (mem_setS.mp h)
  exact List.ne_nil_of_mem (mem_ofL.mpr ⟨hg, e⟩)
theorem sum_ofL : ∀ (gs : List Gr) (ls : List Ln), ls.Nodup → (ls.map fun l => (ofL l gs).length).sum ≤ gs.length
  | [], ls, _ => by
    induction ls with
    | nil => simp
    | cons l ls ih =>
      have := ih (List.nodup_cons.mp ‹_›).2
      rw [List.map_cons, List.sum_cons]
      have e : (ofL l []).length = 0 := rfl
      rw [e, Nat.zero_add]
      exact this
  | g :: gs, ls, hn => by
    have ih := sum_ofL gs ls hn
    have key : ∀ ms : List Ln, ms.Nodup → (ms.map fun l => (ofL l (g :: gs)).length).sum ≤ (ms.map fun l => (ofL l gs).length).sum + 1 := by
      intro ms
      induction ms with
      | nil => intro _; simp
      | cons l ms ih2 =>
        intro hm
        obtain ⟨h1, h2⟩ := List.nodup_cons.mp hm
        rw [List.map_cons, List.sum_cons, List.map_cons, List.sum_cons]
        by_cases e : g.l = l
        · have e2 : (ofL l (g :: gs)).length = (ofL l gs).length + 1 := by
            unfold ofL
            rw [List.filter_cons_of_pos (by simpa using e)]
            rfl
          have e3 : ∀ ns : List Ln, (∀ n ∈ ns, n ≠ g.l) → (ns.map fun l => (ofL l (g :: gs)).length) = ns.map fun l => (ofL l gs).length := by
            intro ns hns
            refine List.map_congr_left fun n hnn => ?_
            unfold ofL
            rw [List.filter_cons_of_neg (by simpa using fun z => hns n hnn z.symm)]
          rw [e2, e3 ms fun n hn' z => h1 (by rw [← e, ← z]; exact hn')]
          omega
        · have e2 : (ofL l (g :: gs)).length = (ofL l gs).length := by
            unfold ofL
            rw [List.filter_cons_of_neg (by simpa using e)]
          have := ih2 h2
          rw [e2]
          omega
    have := key ls hn
    rw [List.length_cons]
    omega
def rowsG (gs : List Gr) : List Gr := (setL (gs.map (·.l))).flatMap fun l => plainRow l (ofL l gs)
theorem rows_len (gs : List Gr) : (rowsG gs).length ≤ 2 * gs.length := by
  unfold rowsG
  rw [List.length_flatMap]
  have h := sum_ofL gs (setL (gs.map (·.l))) (setS_asc encOk_L.lo _).nodup
  have key : ∀ ls : List Ln, (∀ l ∈ ls, ofL l gs ≠ []) → (ls.map fun l => (plainRow l (ofL l gs)).length).sum ≤ 2 * (ls.map fun l => (ofL l gs).length).sum := by
    intro ls
    induction ls with
    | nil => intro _; simp
    | cons l ls ih =>
      intro hl
      have h1 := prow_len l (hl l List.mem_cons_self)
      have h2 := ih fun m hm => hl m (List.mem_cons_of_mem _ hm)
      rw [List.map_cons, List.sum_cons, List.map_cons, List.sum_cons]
      omega
  have := key (setL (gs.map (·.l))) fun l hl => ofL_ne hl
  omega
theorem plainG_len (gs : List Gr) : (plainG gs).length ≤ 2 * gs.length := Nat.le_trans (setS_len _) (rows_len gs)
theorem rows_ok {k m : Nat} {gs : List Gr} (hg : ∀ g ∈ gs, OkG k m g) : ∀ x ∈ rowsG gs, OkG k m x := by
  intro x hx
  obtain ⟨l, hl, hx⟩ := List.mem_flatMap.mp hx
  exact (prow_ok (ofL_ne hl) (fun g h => (mem_ofL.mp h).2) (fun g h => hg g (mem_ofL.mp h).1) x hx).1
theorem plainG_ok {k m : Nat} {gs : List Gr} (hg : ∀ g ∈ gs, OkG k m g) : ∀ x ∈ plainG gs, OkG k m x := fun x hx => rows_ok hg x (mem_setS.mp hx)
theorem OkB.plain {k m n : Nat} {b : Br} (h : OkB k m n b) : OkB k m (2 * n) (plainB b) :=
  ⟨h.len, by have := plainG_len b.gs; have := h.rows; show (plainG b.gs).length ≤ _; omega, plainG_ok h.g⟩
end Sc

/-! E7 -/
set_option Elab.async false
set_option linter.all false
set_option maxRecDepth 100000
namespace Sc
open PySem PySem.Spec PyProof.Rows L2 Evl
theorem shL (l : Ln) : SeqAt.shaped (encL l) = true := shp (nb_L l) (by rw [dp_L]; decide)
theorem shB (b : Br) : SeqAt.shaped (encB b) = true := shp (nb_B b) (by have := dp_B b; omega)
section
variable {P : Program} {w : World} {K : PySem.W.Frag} {mg : Str → Option Value} {base : Heap}
theorem df_plain_grooves (G : Ge K mg) : Df P w K mg base "plain_grooves" 4 (fun eS t rS tS => ∃ (gs : List Gr) (k m : Nat), (gs.length ≤ 16 ∧ m ≤ 50 ∧ ∀ g ∈ gs, OkG k m g) ∧ eS = [.v (.tuple (gs.map encG))] ∧ rS = .d (.tuple ((plainG gs).map encG)) ∧ tS = t) := by
  refine mkD G 27 ["grooves", "found", "line", "own"] ["grooves"] (by decide +kernel) ⟨rfl, rfl, rfl, by decide +kernel, rfl, by decide +kernel, by decide +kernel⟩ (fun f fd F => F.bindsN fun _ _ _ _ _ _ us hl => match us, hl with | [_], _ => rfl) (fun es t r t' h => by obtain ⟨_, _, _, _, rfl, _, _⟩ := h; rfl) ?_
  rintro p _ t0 _ t ⟨gs, k, m, hP, rfl, rfl, rfl⟩
  obtain ⟨hz, hm, hg⟩ := hP
  (refine ds_cons ?_; refine ds_setN 1 (dn_lst0 ) ?_)
  refine ds_cons ?_
  have hrl : ∀ i, (((setL (gs.map (·.l))).take i).flatMap fun l => plainRow l (ofL l gs)).length ≤ 32 := fun i => by
    have h1 := rows_len gs
    unfold rowsG at h1
    have h2 : (((setL (gs.map (·.l))).take i).flatMap fun l => plainRow l (ofL l gs)).length ≤ ((setL (gs.map (·.l))).flatMap fun l => plainRow l (ofL l gs)).length := by
      conv => rhs; rw [← List.take_append_drop i (setL (gs.map (·.l)))]
      rw [List.flatMap_append, List.length_append]
      omega
    omega
  refine ds_for (fun i Γ t' => t' = t ∧ ∃ x : En, Γ = [.v (.tuple (gs.map encG)), .own ((((setL (gs.map (·.l))).take i).flatMap fun l => plainRow l (ofL l gs)).map encG), x, .no])
    (di_tup (de_call (df_lines_of G) (da_cons (de_n 0 rfl) da_nil) ⟨_, ?_, rfl, rfl, rfl⟩ rfl (Nat.le_of_ble_eq_true rfl))) ⟨rfl, _, rfl⟩ ?_ ?_
  · omega
  · rintro i d _ _ hd ⟨rfl, x, rfl⟩
    rw [List.getElem?_map] at hd
    cases hq : (setL (gs.map (·.l)))[i]? with
    | none => rw [hq] at hd; cases hd
    | some l =>
    rw [hq] at hd
    have hd : encL l = d := Option.some.inj hd
    subst hd
    have hne := ofL_ne (List.mem_of_getElem? hq)
    have hfl : (ofL l gs).length ≤ gs.length := List.length_filter_le _ _
    have hpr := prow_len l hne
    refine ⟨_, _, dg_n 2, ?_⟩
    refine ds_one ?_
    refine ds_ext 1 rfl (dn_call (df_plain_row G) (da_cons (de_n 2 rfl) (da_cons (DN.frz (dn_lc (own := [("own", 3)]) (blk0 (by decide +kernel) rfl) gs encG (fun g => decide (g.l = l)) encG (di_tup (de_n 0 rfl)) (by omega) ?step)) da_nil)) ⟨l, ofL l gs, k, m, ?hp, rfl, rfl, rfl⟩ rfl (Nat.le_of_ble_eq_true rfl)) ?hz ?hΦ
    case step =>
      intro g hgm
      refine ⟨_, _, dg_n 3, by simp, DT.is (dt_cmp (dc_eq (DE.rd (de_ix (DE.tup (de_n 3 rfl)) de_int rfl)) (DE.rd (de_n 2 rfl)) (shL _) (shL _))) (eqv_dec (fun _ _ => encL_inj) nb_L g.l l), fun _ => (de_n 3 rfl)⟩
    case hp => exact ⟨by omega, hne, hm, fun g h => ⟨(hg g (mem_ofL.mp h).1).b, (hg g (mem_ofL.mp h).1).d⟩⟩
    case hz =>
      have := hrl i
      rw [List.length_map, List.length_map]
      omega
    case hΦ =>
      refine ⟨rfl, .v (encL l), ?_⟩
      rw [List.take_succ, hq, List.flatMap_append, List.map_append]
      have : (some l).toList.flatMap (fun l => plainRow l (ofL l gs)) = plainRow l (ofL l gs) := by simp
      rw [this]
      rfl
  · rintro _ _ ⟨rfl, x, rfl⟩
    rw [List.length_map, List.take_length]
    refine ds_cool 1 rfl ?_
    refine ds_one ?_
    refine ds_ret (de_call (df_set_of G) (da_cons (de_n 1 rfl) da_nil) ⟨_, (plainG gs).map encG, ?_, rfl, rfl, rfl⟩ rfl (Nat.le_of_ble_eq_true rfl)) ⟨rfl, rfl⟩
    have := rows_len gs
    exact setCond encOk_G (rowsG gs) (by omega)
theorem df_plain_bar (G : Ge K mg) : Df P w K mg base "plain_bar" 7 (fun eS t rS tS => ∃ (b : Br) (d : PD) (k m n : Nat), (IsB b d ∧ OkB k m n b ∧ n ≤ 16 ∧ m ≤ 50) ∧ eS = [.v (d)] ∧ rS = .d (encB (plainB b)) ∧ tS = t) := by
  refine mkD G 28 ["bar", "length", "grooves"] ["bar"] (by decide +kernel) ⟨rfl, rfl, rfl, by decide +kernel, rfl, by decide +kernel, by decide +kernel⟩ (fun f fd F => F.bindsN fun _ _ _ _ _ _ us hl => match us, hl with | [_], _ => rfl) (fun es t r t' h => by obtain ⟨_, _, _, _, _, _, rfl, _, _⟩ := h; rfl) ?_
  rintro p _ t0 _ t ⟨b, d, k, m, n, hP, rfl, rfl, rfl⟩
  obtain ⟨hi, hb, hn, hm⟩ := hP
  have hT : Df P w K mg base "tupled" 6 (arTup 5) := df_tupled G 5
  refine ds_cons ?_
  refine ds_asg (d := .tuple [encQ b.len, .tuple (b.gs.map encG)]) (DE.as (de_call hT (da_cons (de_n 0 rfl) da_nil) ⟨_, hi.tk, rfl, rfl, rfl⟩ rfl (Nat.le_of_ble_eq_true rfl)) hi.eq) (dg_tup (dgs_cons (dg_n 1) (dgs_cons (dg_n 2) dgs_nil))) ?_ (by intro env h; cases env; cases h; rfl)
  (refine ds_one ?_; refine ds_ret (de_tup2 (de_n 1 rfl) (de_call (df_plain_grooves G) (da_cons (de_n 2 rfl) da_nil) ⟨b.gs, k, m, ?_, rfl, rfl, rfl⟩ rfl (Nat.le_of_ble_eq_true rfl))) ?_)
  · have := hb.rows
    exact ⟨by omega, hm, hb.g⟩
  · exact ⟨rfl, rfl⟩
end
end Sc

/-! E8 -/
set_option Elab.async false
set_option linter.all false
set_option maxRecDepth 100000
namespace Sc
open PySem PySem.Spec PyProof.Rows L2 Evl
def encSo : Ln → PD
  | .ring _ => .tuple [.str "ring"]
  | .flute _ => .tuple [.str "flute"]
  | .lead l _ => .tuple [.str "lead", encQ l]
theorem nb_So (l : Ln) : nb (encSo l) = true := by
  cases l <;> simp only [encSo, nb, nbAll, nb_Q, Bool.and_true] <;> decide +kernel
theorem sh_So (l : Ln) : SeqAt.shaped (encSo l) = true := shp (nb_So l) (by cases l <;> exact Nat.le_of_ble_eq_true rfl)
theorem eqv_So (a b : Ln) : PyData.eqv (encSo a) (encSo b) = Ln.same a b := by
  have key : ∀ (r : Bool), (r = true → encSo a = encSo b) → (r = false → encSo a ≠ encSo b) → PyData.eqv (encSo a) (encSo b) = r := fun r h1 h2 => by
    cases r with
    | true => rw [h1 rfl]; exact eqv_self _ (nb_So b)
    | false => exact eqv_ne (nb_So a) (nb_So b) (h2 rfl)
  have sne1 : (("ring" : Str)) ≠ "flute" := by decide
  have sne2 : (("ring" : Str)) ≠ "lead" := by decide
  have sne3 : (("flute" : Str)) ≠ "lead" := by decide
  refine key _ (fun h => ?_) (fun h => ?_)
  · cases a <;> cases b <;> simp [Ln.same, encSo] at h ⊢
    rw [h]
  · cases a <;> cases b <;> simp [Ln.same, encSo, sne1, sne2, sne3, sne1.symm, sne2.symm, sne3.symm] at h ⊢
    exact fun z => h (encQ_inj z)
section
variable {P : Program} {w : World} {K : PySem.W.Frag} {mg : Str → Option Value} {base : Heap}
theorem df_sort_of (G : Ge K mg) : Df P w K mg base "sort_of" 1 (fun eS t rS tS => ∃ (l : Ln), eS = [.v (encL l)] ∧ rS = .d (encSo l) ∧ tS = t) := by
  refine mkD G 30 ["line"] ["line"] (by decide +kernel) ⟨rfl, rfl, rfl, by decide +kernel, rfl, by decide +kernel, by decide +kernel⟩ (fun f fd F => F.bindsN fun _ _ _ _ _ _ us hl => match us, hl with | [_], _ => rfl) (fun es t r t' h => by obtain ⟨_, rfl, _, _⟩ := h; rfl) ?_
  rintro p _ t0 _ t ⟨l, rfl, rfl, rfl⟩
  refine ds_one ?_
  cases l with
  | ring q => exact ds_ret (de_if (c := false) (DT.is (dt_cmp (dc_eq (DE.rd (de_ix (DE.tup (de_n 0 rfl)) de_int rfl)) (DE.rd de_str) (by decide +kernel) (by decide +kernel))) (by decide +kernel)) (fun h => (by cases h)) fun _ => (de_slT (de_n 0 rfl) dpt_none (dpt_some de_int))) ⟨rfl, rfl⟩
  | flute q => exact ds_ret (de_if (c := false) (DT.is (dt_cmp (dc_eq (DE.rd (de_ix (DE.tup (de_n 0 rfl)) de_int rfl)) (DE.rd de_str) (by decide +kernel) (by decide +kernel))) (by decide +kernel)) (fun h => (by cases h)) fun _ => (de_slT (de_n 0 rfl) dpt_none (dpt_some de_int))) ⟨rfl, rfl⟩
  | lead l q => exact ds_ret (de_if (c := true) (DT.is (dt_cmp (dc_eq (DE.rd (de_ix (DE.tup (de_n 0 rfl)) de_int rfl)) (DE.rd de_str) (by decide +kernel) (by decide +kernel))) (by decide +kernel)) (fun _ => (de_slT (de_n 0 rfl) dpt_none (dpt_some de_int))) (fun h => (by cases h))) ⟨rfl, rfl⟩
theorem df_turned_bar (G : Ge K mg) : Df P w K mg base "turned_bar" 7 (fun eS t rS tS => ∃ (b : Br) (a : Rat), ((∀ g ∈ b.gs, BdL 400 g.l) ∧ b.gs.length < 64 ∧ Bd 810 a) ∧ eS = [.v (encB b), .v (encQ a)] ∧ rS = .d (encB ⟨b.len, turnedG a b.gs⟩) ∧ tS = t) := by
  refine mkD G 31 ["bar", "angle", "groove"] ["bar", "angle"] (by decide +kernel) ⟨rfl, rfl, rfl, by decide +kernel, rfl, by decide +kernel, by decide +kernel⟩ (fun f fd F => F.bindsN fun _ _ _ _ _ _ us hl => match us, hl with | [_, _], _ => rfl) (fun es t r t' h => by obtain ⟨_, _, _, rfl, _, _⟩ := h; rfl) ?_
  rintro p _ t0 _ t ⟨b, a, hP, rfl, rfl, rfl⟩
  obtain ⟨hl, hz, ha⟩ := hP
  refine ds_one ?_
  refine ds_ret (de_tup2 (de_ix (DE.tup (de_n 0 rfl)) de_int rfl) (de_call (df_set_of G) (da_cons (DN.frz (DN.is (dn_lc (own := [("groove", 2)]) (blk0 (by decide +kernel) rfl) b.gs encG (fun _ => true) (fun g => encG (g.turned a)) (di_tup (de_ix (DE.tup (de_n 0 rfl)) de_int rfl)) (by omega) ?step) ?eq)) da_nil) ⟨(b.gs.map (Gr.turned a)).map encG, (setG (b.gs.map (Gr.turned a))).map encG, setCond encOk_G _ (by rw [List.length_map]; exact hz), rfl, rfl, rfl⟩ rfl (Nat.le_of_ble_eq_true rfl))) ⟨rfl, rfl⟩
  case eq => rw [List.filter_eq_self.mpr (fun _ _ => rfl), List.map_map]; rfl
  case step =>
    intro g hg
    refine ⟨_, _, dg_n 2, by simp, rfl, fun _ => ?_⟩
    refine DE.as (de_catT (de_tup1 (de_call (df_line_moved G) (da_cons (de_ix (DE.tup (de_n 2 rfl)) de_int rfl) (da_cons (de_tup2 (de_none G rfl rfl rfl) (de_n 1 rfl)) da_nil)) ⟨g.l, 0, a, ?hp, rfl, rfl, rfl⟩ rfl (Nat.le_of_ble_eq_true rfl))) (de_slT (de_n 2 rfl) (dpt_some de_int) dpt_none) (Nat.le_of_ble_eq_true rfl)) ?e2
    case hp => exact ⟨hl g hg, ⟨by decide, by decide⟩, ha⟩
    case e2 => rfl
theorem df_turn_to (G : Ge K mg) : Df P w K mg base "turn_to" 4 (fun eS t rS tS => ∃ (n f : Ln), (n.isRing = false ∧ BdL 400 n ∧ BdL 400 f) ∧ eS = [.v (encL n), .v (encL f)] ∧ rS = .d (encQ (n.turnTo f)) ∧ tS = t) := by
  refine mkD G 32 ["line", "far", "part"] ["line", "far"] (by decide +kernel) ⟨rfl, rfl, rfl, by decide +kernel, rfl, by decide +kernel, by decide +kernel⟩ (fun f fd F => F.bindsN fun _ _ _ _ _ _ us hl => match us, hl with | [_, _], _ => rfl) (fun es t r t' h => by obtain ⟨_, _, _, rfl, _, _⟩ := h; rfl) ?_
  rintro p _ t0 _ t ⟨n, f, hP, rfl, rfl, rfl⟩
  obtain ⟨hr, hn, hf⟩ := hP
  have hfl : Bd 400 f.last := by
    cases f with
    | ring q => exact hf
    | flute q => exact hf
    | lead l p => exact hf.2.2
  have hnl : Bd 400 n.last := by
    cases n with
    | ring q => exact hn
    | flute q => exact hn
    | lead l p => exact hn.2.2
  have last : ∀ (S : Sta) (p : Bool) (x : Expr) (Γ : List En) (l : Ln) (p1 p2 p3 : Pos) (j : _), DE S p x Γ t (encL l) t → DE S p (.Subscript x (.UnaryOp .USub (.Constant (.int 1) j p1) p2) p3) Γ t (encQ l.last) t := by
    intro S p x Γ l p1 p2 p3 j h
    cases l with
    | ring q => exact de_ix (DE.tup h) (de_neg de_int) rfl
    | flute q => exact de_ix (DE.tup h) (de_neg de_int) rfl
    | lead l q => exact de_ix (DE.tup h) (de_neg de_int) rfl
  refine ds_cons ?_
  refine ds_set 2 (de_call (df_part_less G) (da_cons (last _ _ _ _ f _ _ _ _ (de_n 1 rfl)) (da_cons (last _ _ _ _ n _ _ _ _ (de_n 0 rfl)) da_nil)) ⟨_, _, ⟨hfl.mono, hnl.mono⟩, rfl, rfl, rfl⟩ rfl (Nat.le_of_ble_eq_true rfl)) ?_
  refine ds_one ?_
  cases n with
  | ring q => cases hr
  | flute q =>
    exact ds_ret (de_call (df_angle_of G) (da_cons (de_if (c := true) (DT.is (dt_cmp (dc_eq (DE.rd (de_ix (DE.tup (de_n 0 rfl)) de_int rfl)) (DE.rd de_str) (by decide +kernel) (by decide +kernel))) (by decide +kernel)) (fun _ => (de_n 2 rfl)) (fun h => (by cases h))) da_nil) ⟨_, rfl, rfl, rfl⟩ rfl (Nat.le_of_ble_eq_true rfl)) ⟨rfl, rfl⟩
  | lead l q =>
    refine ds_ret (de_call (df_angle_of G) (da_cons (de_if (c := false) (DT.is (dt_cmp (dc_eq (DE.rd (de_ix (DE.tup (de_n 0 rfl)) de_int rfl)) (DE.rd de_str) (by decide +kernel) (by decide +kernel))) (by decide +kernel)) (fun h => (by cases h)) (fun _ => (de_call (df_part_minus G) (da_cons (de_call (df_part_over G) (da_cons (de_n 2 rfl) (da_cons (de_ix (DE.tup (de_n 0 rfl)) de_int rfl) da_nil)) ⟨_, _, ?_, rfl, rfl, rfl⟩ rfl (Nat.le_of_ble_eq_true rfl)) da_nil) ⟨_, rfl, rfl, rfl⟩ rfl (Nat.le_of_ble_eq_true rfl)))) da_nil) ⟨_, rfl, rfl, rfl⟩ rfl (Nat.le_of_ble_eq_true rfl)) ?_
    · exact ⟨(hfl.sub hnl).mono, hn.1.mono, hn.2.1⟩
    · exact ⟨rfl, rfl⟩
theorem df_ends_exchanged (G : Ge K mg) : Df P w K mg base "ends_exchanged" 8 (fun eS t rS tS => ∃ (b : Br) (d : PD) (k m n : Nat), (IsB b d ∧ OkB k m n b ∧ n ≤ 16 ∧ m ≤ 50 ∧ k ≤ 400) ∧ eS = [.v (d)] ∧ rS = .d (encB (endsB b)) ∧ tS = t) := by
  refine mkD G 34 ["bar", "length", "grooves", "found", "line", "start", "end", "depth"] ["bar"] (by decide +kernel) ⟨rfl, rfl, rfl, by decide +kernel, rfl, by decide +kernel, by decide +kernel⟩ (fun f fd F => F.bindsN fun _ _ _ _ _ _ us hl => match us, hl with | [_], _ => rfl) (fun es t r t' h => by obtain ⟨_, _, _, _, _, _, rfl, _, _⟩ := h; rfl) ?_
  rintro p _ t0 _ t ⟨b, d, k, m, n, hP, rfl, rfl, rfl⟩
  obtain ⟨hi, hb, hn, hm, hk⟩ := hP
  have hpl := hb.plain
  refine ds_cons ?_
  refine ds_asg (d := .tuple [encQ b.len, .tuple ((plainG b.gs).map encG)]) (DE.as (de_call (df_plain_bar G) (da_cons (de_n 0 rfl) da_nil) ⟨b, d, k, m, n, ?_, rfl, rfl, rfl⟩ rfl (Nat.le_of_ble_eq_true rfl)) rfl) (dg_tup (dgs_cons (dg_n 1) (dgs_cons (dg_n 2) dgs_nil))) ?_ (by intro env h; cases env; cases h; rfl)
  · exact ⟨hi, hb, hn, hm⟩
  (refine ds_cons ?_; refine ds_setN 3 (dn_lst0 ) ?_)
  refine ds_cons ?_
  have hlen := hpl.rows
  refine ds_for (fun i Γ t' => t' = t ∧ ∃ x y z u : En, Γ = [.v d, .v (encQ b.len), .v (.tuple ((plainG b.gs).map encG)), .own ((((plainG b.gs).take i).map (Gr.ended b.len)).map encG), x, y, z, u])
    (di_tup (de_n 2 rfl)) ⟨rfl, _, _, _, _, rfl⟩ ?_ ?_
  · rintro i e _ _ hd ⟨rfl, x, y, z, u, rfl⟩
    rw [List.getElem?_map] at hd
    cases hq : (plainG b.gs)[i]? with
    | none => rw [hq] at hd; cases hd
    | some g =>
    rw [hq] at hd
    have hd : PyData.tuple [encL g.l, encQ g.s, encQ g.e, .int g.d] = e := Option.some.inj hd
    subst hd
    have ok := hpl.g g (List.mem_of_getElem? hq)
    have okl : BdL 400 g.l := by
      have := ok.b.l
      revert this
      cases g.l with
      | ring q => exact fun h => Bd.mono h
      | flute q => exact fun h => Bd.mono h
      | lead l p => exact fun h => ⟨h.1, h.2.1, h.2.2.mono⟩
    refine ⟨_, _, dg_tup (dgs_cons (dg_n 4) (dgs_cons (dg_n 5) (dgs_cons (dg_n 6) (dgs_cons (dg_n 7) dgs_nil)))), ?_⟩
    (refine ds_one ?_; refine ds_app 3 rfl (de_tup4 (de_call (df_ends_turned G) (da_cons (de_n 4 rfl) (da_cons (de_n 1 rfl) da_nil)) ⟨_, _, ?_, rfl, rfl, rfl⟩ rfl (Nat.le_of_ble_eq_true rfl)) (de_call (df_part_less G) (da_cons (de_n 1 rfl) (da_cons (de_n 6 rfl) da_nil)) ⟨_, _, ?_, rfl, rfl, rfl⟩ rfl (Nat.le_of_ble_eq_true rfl)) (de_call (df_part_less G) (da_cons (de_n 1 rfl) (da_cons (de_n 5 rfl) da_nil)) ⟨_, _, ?_, rfl, rfl, rfl⟩ rfl (Nat.le_of_ble_eq_true rfl)) (de_n 7 rfl)) ?_ ?_)
    · exact ⟨okl, hpl.len.mono⟩
    · exact ⟨hpl.len.mono, ok.b.e.mono⟩
    · exact ⟨hpl.len.mono, ok.b.s.mono⟩
    · rw [List.length_map, List.length_map, List.length_take]
      have : (plainB b).gs = plainG b.gs := rfl
      rw [this] at hlen
      omega
    · refine ⟨rfl, .v (encL g.l), .v (encQ g.s), .v (encQ g.e), .v (.int g.d), ?_⟩
      rw [List.take_succ, hq, List.map_append, List.map_append]
      rfl
  · rintro _ _ ⟨rfl, x, y, z, u, rfl⟩
    rw [List.length_map, List.take_length]
    refine ds_cool 3 rfl ?_
    (refine ds_one ?_; refine ds_ret (de_tup2 (de_n 1 rfl) (de_call (df_set_of G) (da_cons (de_n 3 rfl) da_nil) ⟨_, (endsB b).gs.map encG, ?_, rfl, rfl, rfl⟩ rfl (Nat.le_of_ble_eq_true rfl))) ?_)
    · refine setCond encOk_G _ ?_
      have : (plainB b).gs = plainG b.gs := rfl
      rw [this] at hlen
      rw [List.length_map]
      omega
    · exact ⟨rfl, rfl⟩
theorem df_bar_mirrored (G : Ge K mg) : Df P w K mg base "bar_mirrored" 8 (fun eS t rS tS => ∃ (b : Br) (d : PD) (k m n : Nat), (IsB b d ∧ OkB k m n b ∧ n ≤ 16 ∧ m ≤ 50) ∧ eS = [.v (d)] ∧ rS = .d (encB (mirrB b)) ∧ tS = t) := by
  refine mkD G 35 ["bar", "length", "grooves", "groove"] ["bar"] (by decide +kernel) ⟨rfl, rfl, rfl, by decide +kernel, rfl, by decide +kernel, by decide +kernel⟩ (fun f fd F => F.bindsN fun _ _ _ _ _ _ us hl => match us, hl with | [_], _ => rfl) (fun es t r t' h => by obtain ⟨_, _, _, _, _, _, rfl, _, _⟩ := h; rfl) ?_
  rintro p _ t0 _ t ⟨b, d, k, m, n, hP, rfl, rfl, rfl⟩
  obtain ⟨hi, hb, hn, hm⟩ := hP
  have hlen : (plainG b.gs).length ≤ 2 * n := hb.plain.rows
  refine ds_cons ?_
  refine ds_asg (d := .tuple [encQ b.len, .tuple ((plainG b.gs).map encG)]) (DE.as (de_call (df_plain_bar G) (da_cons (de_n 0 rfl) da_nil) ⟨b, d, k, m, n, ?_, rfl, rfl, rfl⟩ rfl (Nat.le_of_ble_eq_true rfl)) rfl) (dg_tup (dgs_cons (dg_n 1) (dgs_cons (dg_n 2) dgs_nil))) ?_ (by intro env h; cases env; cases h; rfl)
  · exact ⟨hi, hb, hn, hm⟩
  refine ds_one ?_
  refine ds_ret (de_tup2 (de_n 1 rfl) (de_call (df_set_of G) (da_cons (DN.frz (DN.is (dn_lc (own := [("groove", 3)]) (blk0 (by decide +kernel) rfl) (plainG b.gs) encG (fun _ => true) (fun g => encG g.mirr) (di_tup (de_n 2 rfl)) (by omega) ?step) ?eq)) da_nil) ⟨((plainG b.gs).map Gr.mirr).map encG, (mirrB b).gs.map encG, setCond encOk_G _ (by rw [List.length_map]; omega), rfl, rfl, rfl⟩ rfl (Nat.le_of_ble_eq_true rfl))) ⟨rfl, rfl⟩
  case eq => rw [List.filter_eq_self.mpr (fun _ _ => rfl), List.map_map]; rfl
  case step =>
    intro g hg
    refine ⟨_, _, dg_n 3, by simp, rfl, fun _ => ?_⟩
    exact DE.as (de_catT (de_tup1 (de_call (df_line_mirrored G) (da_cons (de_ix (DE.tup (de_n 3 rfl)) de_int rfl) da_nil) ⟨g.l, rfl, rfl, rfl⟩ rfl (Nat.le_of_ble_eq_true rfl))) (de_slT (de_n 3 rfl) (dpt_some de_int) dpt_none) (Nat.le_of_ble_eq_true rfl)) rfl
end
end Sc

/-! E9 -/
set_option Elab.async false
set_option linter.all false
set_option maxRecDepth 100000
namespace Sc
open PySem PySem.Spec PyProof.Rows L2 Evl
theorem atI_zero {α : Type} (x : α) (xs : List α) : atI (x :: xs) 0 = some x := by
  unfold atI ixN
  rw [if_pos (Int.le_refl 0), if_pos (by rw [List.length_cons]; omega)]
  rfl
theorem nb_T (x : Tr) : nb (encT x) = true := by
  cases x with
  | all => exact (by decide +kernel)
  | some as => rw [encT, nb]; exact nbAll_map nb_Q as
theorem sh_T (x : Tr) : SeqAt.shaped (encT x) = true := shp (nb_T x) (by
  cases x with
  | all => exact Nat.zero_le _
  | some as =>
    rw [encT, PyData.depth]
    have := depthAll_map (fun q => Nat.le_of_eq (dp_Q q)) as
    omega)
theorem eqv_T0 (x : Tr) : PyData.eqv (encT x) (.tuple []) = decide (x = .some []) := by
  cases x with
  | all => rw [decide_eq_false (fun z => nomatch z)]; rfl
  | some as =>
    cases as with
    | nil => rfl
    | cons a as => rw [decide_eq_false (fun z => by cases z)]; rfl
def tailD (g : Gr) : PD := .tuple [encQ g.s, encQ g.e, .int g.d]
theorem eqv_tail (g r : Gr) : PyData.eqv (tailD g) (tailD r) = decide ((g.s, g.e, g.d) = (r.s, r.e, r.d)) :=
  eqv_dec (enc := fun x : Rat × Rat × Int => PyData.tuple [encQ x.1, encQ x.2.1, .int x.2.2]) (fun a b h => by
    obtain ⟨a1, a2, a3⟩ := a
    obtain ⟨b1, b2, b3⟩ := b
    simp only [PyData.tuple.injEq, List.cons.injEq, PyData.int.injEq, and_true] at h
    rw [encQ_inj h.1, encQ_inj h.2.1, h.2.2]) (fun _ => rfl) (g.s, g.e, g.d) (r.s, r.e, r.d)
/-- which of the rows ys give a turn -/
def turnsY (r : Gr) (near far ys : List Gr) : List Rat :=
  ((ys.filter fun g => !g.l.isRing && Ln.same g.l r.l && decide ((g.s, g.e, g.d) = (r.s, r.e, r.d))).map fun g => r.l.turnTo g.l).filter fun a => decide (turnedG a near = far)
theorem turnsY_app (r : Gr) (near far ys zs : List Gr) : turnsY r near far (ys ++ zs) = turnsY r near far ys ++ turnsY r near far zs := by
  unfold turnsY
  rw [List.filter_append, List.map_append, List.filter_append]
theorem turnsY_one (r : Gr) (near far : List Gr) (g : Gr) : turnsY r near far [g] =
    if (!g.l.isRing && Ln.same g.l r.l && decide ((g.s, g.e, g.d) = (r.s, r.e, r.d))) = true then (if turnedG (r.l.turnTo g.l) near = far then [r.l.turnTo g.l] else []) else [] := by
  unfold turnsY
  by_cases h : (!g.l.isRing && Ln.same g.l r.l && decide ((g.s, g.e, g.d) = (r.s, r.e, r.d))) = true
  · have e : ([g].filter fun g => !g.l.isRing && Ln.same g.l r.l && decide ((g.s, g.e, g.d) = (r.s, r.e, r.d))) = [g] := by
      rw [List.filter_eq_self]
      intro x hx
      rw [List.mem_singleton.mp hx]
      exact h
    rw [if_pos h, e, List.map_cons, List.map_nil]
    by_cases h2 : turnedG (r.l.turnTo g.l) near = far
    · rw [if_pos h2, List.filter_eq_self]
      intro x hx
      rw [List.mem_singleton.mp hx]
      exact decide_eq_true h2
    · rw [if_neg h2, List.filter_eq_nil_iff]
      intro x hx
      rw [List.mem_singleton.mp hx, decide_eq_true_eq]
      exact h2
  · have e : ([g].filter fun g => !g.l.isRing && Ln.same g.l r.l && decide ((g.s, g.e, g.d) = (r.s, r.e, r.d))) = [] := by
      rw [List.filter_eq_nil_iff]
      intro x hx
      rw [List.mem_singleton.mp hx]
      exact h
    rw [if_neg h, e]
    rfl
theorem turnsY_len (r : Gr) (near far ys : List Gr) : (turnsY r near far ys).length ≤ ys.length := by
  unfold turnsY
  refine Nat.le_trans (List.length_filter_le _ _) ?_
  rw [List.length_map]
  exact List.length_filter_le _ _
theorem turnTo_bd {n f : Ln} (hr : n.isRing = false) (hn : BdL 400 n) (hf : BdL 400 f) : Bd 810 (n.turnTo f) := by
  have hfl : Bd 400 f.last := by
    cases f with
    | ring q => exact hf
    | flute q => exact hf
    | lead l p => exact hf.2.2
  cases n with
  | ring q => cases hr
  | flute q => exact ((hfl.sub (show Bd 400 q from hn)).frac).mono
  | lead l q => exact ((((hfl.sub hn.2.2).div hn.1 hn.2.1).neg).frac).mono
theorem bdl_up {k : Nat} {l : Ln} (h : BdL k l) (hk : k ≤ 400) : BdL 400 l := by
  revert h
  cases l with
  | ring q => exact fun h => Bd.mono h
  | flute q => exact fun h => Bd.mono h
  | lead l p => exact fun h => ⟨h.1, h.2.1, h.2.2.mono⟩
theorem turnsB_of {b o : Br} (h : b.len = o.len) (h2 : (plainG b.gs).length = (plainG o.gs).length) : turnsB b o = match rounds (plainG b.gs) with
  | [] => if plainG b.gs = plainG o.gs then .all else .some []
  | r :: _ => .some (setQ (turnsOf r (plainG b.gs) (plainG o.gs))) := by
  unfold turnsB
  rw [if_neg (fun z => z.elim (fun y => y h) (fun y => y h2))]
  all_goals rfl
section
variable {P : Program} {w : World} {K : PySem.W.Frag} {mg : Str → Option Value} {base : Heap}
theorem df_turns_between (G : Ge K mg) : Df P w K mg base "turns_between" 8 (fun eS t rS tS => ∃ (b o : Br) (d e : PD) (k m n k' m' n' : Nat), ((IsB b d ∧ OkB k m n b ∧ n ≤ 16 ∧ m ≤ 50 ∧ k ≤ 400) ∧ (IsB o e ∧ OkB k' m' n' o ∧ n' ≤ 16 ∧ m' ≤ 50 ∧ k' ≤ 400)) ∧ eS = [.v (d), .v (e)] ∧ rS = .d (encT (turnsB b o)) ∧ tS = t) := by
  refine mkD G 33 ["bar", "other", "near", "far", "groove", "rounds", "line", "found", "angle"] ["bar", "other"] (by decide +kernel) ⟨rfl, rfl, rfl, by decide +kernel, rfl, by decide +kernel, by decide +kernel⟩ (fun f fd F => F.bindsN fun _ _ _ _ _ _ us hl => match us, hl with | [_, _], _ => rfl) (fun es t r t' h => by obtain ⟨_, _, _, _, _, _, _, _, _, _, _, rfl, _, _⟩ := h; rfl) ?_
  rintro p _ t0 _ t ⟨b, o, d, e, k, m, n, k', m', n', hP, rfl, rfl, rfl⟩
  obtain ⟨⟨hi, hb, hn, hm, hk⟩, hi', hb', hn', hm', hk'⟩ := hP
  have hpl := hb.plain
  have hpl' := hb'.plain
  refine ds_cons ?_
  refine ds_par 2 3 (DE.dv (de_call (df_plain_bar G) (da_cons (de_n 0 rfl) da_nil) ⟨b, d, k, m, n, ?_, rfl, rfl, rfl⟩ rfl (Nat.le_of_ble_eq_true rfl))) (DE.dv (de_call (df_plain_bar G) (da_cons (de_n 1 rfl) da_nil) ⟨o, e, k', m', n', ?_, rfl, rfl, rfl⟩ rfl (Nat.le_of_ble_eq_true rfl))) ?_ (by intro env h; cases env; cases h; rfl)
  · exact ⟨hi, hb, hn, hm⟩
  · exact ⟨hi', hb', hn', hm'⟩
  refine ds_cons ?_
  refine ds_if (c := !decide (b.len = o.len) || !decide (((plainG b.gs).length : Int) = ((plainG o.gs).length : Int))) (dw_pt (dw_or (DT.is (dt_cmp (dc_ne (DE.rd (de_ix (DE.tup (de_n 2 rfl)) de_int rfl)) (DE.rd (de_ix (DE.tup (de_n 3 rfl)) de_int rfl)) rfl rfl)) (by rw [eqv_dec (fun _ _ => encQ_inj) nb_Q]; rfl)) (fun _ => dw_or1 (DT.is (dt_cmp (dc_ne (DE.rd (de_len (l := false) (ds := (plainG b.gs).map encG) (DE.tup (de_ix (DE.tup (de_n 2 rfl)) de_int rfl)) rfl (G.f _ (by decide)))) (DE.rd (de_len (l := false) (ds := (plainG o.gs).map encG) (DE.tup (de_ix (DE.tup (de_n 3 rfl)) de_int rfl)) rfl (G.f _ (by decide)))) rfl rfl)) (by rw [eqv_int, List.length_map, List.length_map]))))) (fun h => ?_) fun h => ?_
  · have h : b.len ≠ o.len ∨ (plainG b.gs).length ≠ (plainG o.gs).length := by
      simp only [Bool.or_eq_true, Bool.not_eq_true', decide_eq_false_iff_not] at h
      rcases h with h | h
      · exact .inl h
      · exact .inr fun z => h (by rw [z])
    (refine ds_one ?_; refine ds_ret (de_tup0 ) ?_)
    refine ⟨?_, rfl⟩
    unfold turnsB
    rw [if_pos h]
    rfl
  have h : b.len = o.len ∧ (plainG b.gs).length = (plainG o.gs).length := by
    simp only [Bool.or_eq_false_iff, Bool.not_eq_false', decide_eq_true_eq] at h
    exact ⟨h.1, by omega⟩
  rw [turnsB_of h.1 h.2]
  refine ds_nil ?_
  refine ds_cons ?_
  have hr1 : (plainG b.gs).length ≤ 2 * n := hpl.rows
  have hr2 : (plainG o.gs).length ≤ 2 * n' := hpl'.rows
  refine ds_setLc 5 (own := [("groove", 4)]) (blk0 (by decide +kernel) rfl) (plainG b.gs) encG (fun g => !g.l.isRing) encG (di_tup (ds := (plainG b.gs).map encG) (de_ix (DE.tup (de_n 2 rfl)) de_int rfl)) (by omega) ?step ?nx (by decide +kernel)
  case step =>
    intro g hg
    exact ⟨_, _, dg_n 4, by simp, dt_nring (de_ix (DE.tup (de_n 4 rfl)) de_int rfl), fun _ => (de_n 4 rfl)⟩
  case nx =>
  have hrd : (plainG b.gs).filter (fun g => !g.l.isRing) = rounds (plainG b.gs) := rfl
  rw [hrd]
  have hro : ∀ r ∈ rounds (plainG b.gs), r.l.isRing = false ∧ OkG k m r := fun r hr => by
    obtain ⟨h1, h2⟩ := List.mem_filter.mp hr
    exact ⟨by simpa using h2, hpl.g r h1⟩
  cases hrs : rounds (plainG b.gs) with
  | nil =>
    refine ds_cons ?_
    refine ds_ifT (DT.is (dt_cmp (dc_eq (DE.rd (de_len (DO.seq (do_n 5 rfl)) rfl (G.f _ (by decide)))) (DE.rd de_int) rfl rfl)) rfl) rfl ?_
    refine ds_one ?_
    have hcmp : ∀ x y : Br, PyData.eqv (encB x) (encB y) = decide (x = y) := eqv_dec (fun _ _ => encB_inj) nb_B
    by_cases hq : plainG b.gs = plainG o.gs
    · refine ds_ret (de_if (c := true) (DT.is (dt_cmp (dc_eq (DE.rd (de_n 2 rfl)) (DE.rd (de_n 3 rfl)) (shB _) (shB _))) (by rw [hcmp]; exact decide_eq_true (by rw [plainB, plainB, h.1, hq]))) (fun _ => de_str) (fun h => (by cases h))) ⟨?_, rfl⟩
      show _ = encT (if plainG b.gs = plainG o.gs then Tr.all else Tr.some [])
      rw [if_pos hq]
      rfl
    · refine ds_ret (de_if (c := false) (DT.is (dt_cmp (dc_eq (DE.rd (de_n 2 rfl)) (DE.rd (de_n 3 rfl)) (shB _) (shB _))) (by rw [hcmp]; exact decide_eq_false (fun z => hq (congrArg Br.gs z)))) (fun h => (by cases h)) (fun _ => de_tup0)) ⟨?_, rfl⟩
      show _ = encT (if plainG b.gs = plainG o.gs then Tr.all else Tr.some [])
      rw [if_neg hq]
      rfl
  | cons r rs =>
    obtain ⟨hrr, hrok⟩ := hro r (by rw [hrs]; exact List.mem_cons_self)
    have hrl := bdl_up hrok.b.l hk
    refine ds_cons ?_
    refine ds_ifF (DT.is (c' := false) (dt_cmp (dc_eq (DE.rd (de_len (DO.seq (do_n 5 rfl)) rfl (G.f _ (by decide)))) (DE.rd de_int) rfl rfl)) (by rw [eqv_int]; exact decide_eq_false (by rw [List.length_map, List.length_cons]; omega))) rfl ?_
    refine ds_nil ?_
    have hr0 : atI ((r :: rs).map encG) 0 = some (encG r) := atI_zero _ _
    refine ds_cons ?_
    refine ds_par 6 7 (DE.dv (de_ix (DE.tup (de_ix (DO.seq (do_n 5 rfl)) de_int hr0)) de_int rfl)) (DN.dv dn_lst0) ?_ (by intro env h; cases env; cases h; rfl)
    refine ds_cons ?_
    refine ds_for (fun i Γ t' => t' = t ∧ ∃ x y : En, Γ = [.v d, .v e, .v (encB (plainB b)), .v (encB (plainB o)), x, .own ((r :: rs).map encG), .v (encL r.l), .own ((turnsY r (plainG b.gs) (plainG o.gs) ((plainG o.gs).take i)).map encQ), y])
      (di_tup (ds := (plainG o.gs).map encG) (de_ix (DE.tup (de_n 3 rfl)) de_int rfl)) ⟨rfl, _, _, rfl⟩ ?_ ?_
    · rintro i d' _ _ hd ⟨rfl, x, y, rfl⟩
      rw [List.getElem?_map] at hd
      cases hq : (plainG o.gs)[i]? with
      | none => rw [hq] at hd; cases hd
      | some g =>
      rw [hq] at hd
      have hd : encG g = d' := Option.some.inj hd
      subst hd
      have hi2 : i < (plainG o.gs).length := (List.getElem?_eq_some_iff.mp hq).1
      have okg := hpl'.g g (List.mem_of_getElem? hq)
      have hgl := bdl_up okg.b.l hk'
      have htk : (plainG o.gs).take (i + 1) = (plainG o.gs).take i ++ [g] := by rw [List.take_succ, hq]; rfl
      have hyl := turnsY_len r (plainG b.gs) (plainG o.gs) ((plainG o.gs).take i)
      rw [List.length_take] at hyl
      refine ⟨_, _, dg_n 4, ?_⟩
      rw [htk, turnsY_app, turnsY_one]
      refine ds_one ?_
      refine ds_if (c := !g.l.isRing && (Ln.same g.l r.l && decide ((g.s, g.e, g.d) = (r.s, r.e, r.d)))) (dw_pt (dw_and (dt_nring (de_ix (DE.tup (de_n 4 rfl)) de_int rfl)) (fun _ => dw_and (DT.is (dt_cmp (dc_eq (DE.rd (de_call (df_sort_of G) (da_cons (de_ix (DE.tup (de_n 4 rfl)) de_int rfl) da_nil) ⟨_, rfl, rfl, rfl⟩ rfl (Nat.le_of_ble_eq_true rfl))) (DE.rd (de_call (df_sort_of G) (da_cons (de_n 6 rfl) da_nil) ⟨_, rfl, rfl, rfl⟩ rfl (Nat.le_of_ble_eq_true rfl))) (sh_So _) (sh_So _))) (eqv_So _ _)) (fun _ => dw_and1 (DT.is (dt_cmp (dc_eq (DE.rd (DE.as (d' := tailD g) (de_slT (de_n 4 rfl) (dpt_some de_int) dpt_none) rfl)) (DE.rd (DE.as (d' := tailD r) (de_slT (de_ix (DO.seq (do_n 5 rfl)) de_int hr0) (dpt_some de_int) dpt_none) rfl)) rfl rfl)) (eqv_tail g r)))))) (fun h2 => ?_) fun h2 => ?_
      · rw [← Bool.and_assoc] at h2
        rw [if_pos h2]
        (refine ds_cons ?_; refine ds_set 8 (de_call (df_turn_to G) (da_cons (de_n 6 rfl) (da_cons (de_ix (DE.tup (de_n 4 rfl)) de_int rfl) da_nil)) ⟨r.l, g.l, ?_, rfl, rfl, rfl⟩ rfl (Nat.le_of_ble_eq_true rfl)) ?_)
        · exact ⟨hrr, hrl, hgl⟩
        have htb := turnTo_bd hrr hrl hgl
        refine ds_one ?_
        refine ds_if (c := decide (turnedG (r.l.turnTo g.l) (plainG b.gs) = plainG o.gs)) (DT.is (dt_cmp (dc_eq (DE.rd (de_call (df_turned_bar G) (da_cons (de_n 2 rfl) (da_cons (de_n 8 rfl) da_nil)) ⟨plainB b, r.l.turnTo g.l, ?_, rfl, rfl, rfl⟩ rfl (Nat.le_of_ble_eq_true rfl))) (DE.rd (de_n 3 rfl)) (shB _) (shB _))) ?_) (fun h3 => ?_) fun h3 => ?_
        · exact ⟨fun g hg => bdl_up (hpl.g g hg).b.l hk, by show (plainG b.gs).length < 64; omega, htb⟩
        · rw [eqv_dec (fun _ _ => encB_inj) nb_B]
          refine decide_eq_decide.mpr ⟨fun z => congrArg Br.gs z, fun z => ?_⟩
          show Br.mk b.len _ = Br.mk o.len _
          rw [h.1]
          exact congrArg (Br.mk o.len) z
        · have h3 := of_decide_eq_true h3
          rw [if_pos h3]
          (refine ds_one ?_; refine ds_app 7 rfl (de_n 8 rfl) (by rw [List.length_map]; omega) ?_)
          refine ⟨rfl, .v (encG g), .v (encQ (r.l.turnTo g.l)), ?_⟩
          rw [List.map_append]
          rfl
        · have h3 := of_decide_eq_false h3
          rw [if_neg h3]
          refine ds_nil ⟨rfl, .v (encG g), .v (encQ (r.l.turnTo g.l)), ?_⟩
          rw [List.append_nil]
          rfl
      · rw [← Bool.and_assoc] at h2
        rw [if_neg (by rw [h2]; decide)]
        refine ds_nil ⟨rfl, .v (encG g), y, ?_⟩
        rw [List.append_nil]
        rfl
    · rintro _ _ ⟨rfl, x, y, rfl⟩
      rw [List.length_map, List.take_length]
      refine ds_cool 7 rfl ?_
      (refine ds_one ?_; refine ds_ret (de_call (df_set_of G) (da_cons (de_n 7 rfl) da_nil) ⟨_, (setQ (turnsOf r (plainG b.gs) (plainG o.gs))).map encQ, ?_, rfl, rfl, rfl⟩ rfl (Nat.le_of_ble_eq_true rfl)) ?_)
      · refine setCond encOk_Q _ ?_
        have := turnsY_len r (plainG b.gs) (plainG o.gs) (plainG o.gs)
        omega
      · exact ⟨rfl, rfl⟩
end
end Sc

/-! E10 -/
set_option Elab.async false
set_option linter.all false
set_option maxRecDepth 100000
namespace Sc
open PySem PySem.Spec PyProof.Rows L2 Evl
theorem OkG.ended {k m : Nat} {g : Gr} {far : Rat} (h : OkG k m g) (hf : Bd 5 far) : OkG (2 * k + 19) (m + 6) (g.ended far) := by
  obtain ⟨⟨hl, hs, he⟩, hd, hw⟩ := h
  refine ⟨⟨?_, (hf.sub he).mono, (hf.sub hs).mono⟩, hd, ?_⟩
  · show BdL (2 * k + 19) (g.l.ended far)
    revert hl
    cases g.l with
    | ring q => exact fun h => (hf.sub (show Bd k q from h)).mono
    | flute q => exact fun h => ((show Bd k q from h).neg.frac).mono
    | lead l p => exact fun h => ⟨h.1, h.2.1, ((hf.sub h.2.2).rnd h.1 h.2.1).mono⟩
  · cases g with
    | mk l s e d =>
      cases l with
      | ring q =>
        obtain ⟨h1, h2⟩ := (show s = q ∧ e = q from hw)
        show far - e = far - q ∧ far - s = far - q
        rw [h1, h2]
        exact ⟨rfl, rfl⟩
      | flute q =>
        have h : s < e := hw
        show far - e < far - s
        grind
      | lead l q =>
        have h : s < e := hw
        show far - e < far - s
        grind
theorem OkG.mirr {k m : Nat} {g : Gr} (h : OkG k m g) : OkG k m g.mirr := by
  obtain ⟨⟨hl, hs, he⟩, hd, hw⟩ := h
  refine ⟨⟨?_, hs, he⟩, hd, ?_⟩
  · show BdL k g.l.mirr
    revert hl
    cases g.l with
    | ring q => exact fun h => h
    | flute q => exact fun h => (show Bd k q from h).neg.frac
    | lead l p => exact fun h => ⟨h.1.neg, fun z => h.2.1 (by have : l ≠ 0 := h.2.1; grind), h.2.2⟩
  · cases g with
    | mk l s e d => cases l <;> exact hw
theorem OkG.mono {k m k' m' : Nat} {g : Gr} (h : OkG k m g) (hk : k ≤ k') (hm : m ≤ m') : OkG k' m' g := by
  obtain ⟨⟨hl, hs, he⟩, hd, hw⟩ := h
  refine ⟨⟨?_, hs.mono, he.mono⟩, hd, hw⟩
  revert hl
  cases g.l with
  | ring q => exact fun h => (show Bd k q from h).mono
  | flute q => exact fun h => (show Bd k q from h).mono
  | lead l p => exact fun h => ⟨h.1, h.2.1, h.2.2.mono⟩
theorem OkB.mono {k m n k' m' n' : Nat} {b : Br} (h : OkB k m n b) (hk : k ≤ k') (hm : m ≤ m') (hn : n ≤ n') : OkB k' m' n' b := ⟨h.len, Nat.le_trans h.rows hn, fun g hg => (h.g g hg).mono hk hm⟩
theorem OkB.ends {k m n : Nat} {b : Br} (h : OkB k m n b) : OkB (2 * k + 19) (m + 6) (2 * n) (endsB b) := by
  refine ⟨h.len, ?_, fun g hg => ?_⟩
  · have h1 := h.plain.rows
    have h2 : (endsB b).gs.length ≤ ((plainG b.gs).map (Gr.ended b.len)).length := setS_len _
    rw [List.length_map] at h2
    exact Nat.le_trans h2 h1
  · obtain ⟨x, hx, rfl⟩ := List.mem_map.mp (mem_setS.mp hg)
    exact (h.plain.g x hx).ended h.len
theorem OkB.mirr {k m n : Nat} {b : Br} (h : OkB k m n b) : OkB k m (2 * n) (mirrB b) := by
  refine ⟨h.len, ?_, fun g hg => ?_⟩
  · have h1 := h.plain.rows
    have h2 : (mirrB b).gs.length ≤ ((plainG b.gs).map Gr.mirr).length := setS_len _
    rw [List.length_map] at h2
    exact Nat.le_trans h2 h1
  · obtain ⟨x, hx, rfl⟩ := List.mem_map.mp (mem_setS.mp hg)
    exact (h.plain.g x hx).mirr
theorem neT (x : Tr) : (!PyData.eqv (encT x) (.tuple [])) = decide (x ≠ .some []) := by
  rw [eqv_T0, decide_not]
section
variable {P : Program} {w : World} {K : PySem.W.Frag} {mg : Str → Option Value} {base : Heap}
theorem df_alike_bars (G : Ge K mg) : Df P w K mg base "alike_bars" 9 (fun eS t rS tS => ∃ (b o : Br) (d e : PD) (k m n k' m' n' : Nat), ((IsB b d ∧ OkB k m n b ∧ n ≤ 8 ∧ m ≤ 44 ∧ k ≤ 190) ∧ (IsB o e ∧ OkB k' m' n' o ∧ n' ≤ 16 ∧ m' ≤ 50 ∧ k' ≤ 400)) ∧ eS = [.v (d), .v (e)] ∧ rS = .d (.bool (alikeB b o)) ∧ tS = t) := by
  refine mkD G 36 ["bar", "other"] ["bar", "other"] (by decide +kernel) ⟨rfl, rfl, rfl, by decide +kernel, rfl, by decide +kernel, by decide +kernel⟩ (fun f fd F => F.bindsN fun _ _ _ _ _ _ us hl => match us, hl with | [_, _], _ => rfl) (fun es t r t' h => by obtain ⟨_, _, _, _, _, _, _, _, _, _, _, rfl, _, _⟩ := h; rfl) ?_
  rintro p _ t0 _ t ⟨b, o, d, e, k, m, n, k', m', n', hP, rfl, rfl, rfl⟩
  obtain ⟨⟨hi, hb, hn, hm, hk⟩, ho⟩ := hP
  have he := hb.ends
  refine ds_one ?_
  refine ds_ret (de_or (de_cmp (dc_ne (DE.rd (de_call (df_turns_between G) (da_cons (de_n 0 rfl) (da_cons (de_n 1 rfl) da_nil)) ⟨b, o, d, e, k, m, n, k', m', n', ?_, rfl, rfl, rfl⟩ rfl (Nat.le_of_ble_eq_true rfl))) (DE.rd de_tup0) (sh_T _) rfl)) (fun _ => rfl) (fun _ => de_one (de_cmp (dc_ne (DE.rd (de_call (df_turns_between G) (da_cons (de_call (df_ends_exchanged G) (da_cons (de_n 0 rfl) da_nil) ⟨b, d, k, m, n, ?_, rfl, rfl, rfl⟩ rfl (Nat.le_of_ble_eq_true rfl)) (da_cons (de_n 1 rfl) da_nil)) ⟨endsB b, o, encB (endsB b), e, 2 * k + 19, m + 6, 2 * n, k', m', n', ?_, rfl, rfl, rfl⟩ rfl (Nat.le_of_ble_eq_true rfl))) (DE.rd de_tup0) (sh_T _) rfl)))) ?_
  · exact ⟨⟨hi, hb, by omega, by omega, by omega⟩, ho⟩
  · exact ⟨hi, hb, by omega, by omega, by omega⟩
  · exact ⟨⟨isB_self (by have := he.rows; omega), he, by omega, by omega, by omega⟩, ho⟩
  · exact ⟨by rw [neT, neT]; rfl, rfl⟩
theorem df_is_handed (G : Ge K mg) : Df P w K mg base "is_handed" 10 (fun eS t rS tS => ∃ (b : Br) (d : PD) (k m n : Nat), (IsB b d ∧ OkB k m n b ∧ n ≤ 8 ∧ m ≤ 44 ∧ k ≤ 190) ∧ eS = [.v (d)] ∧ rS = .d (.bool (!alikeB b (mirrB b))) ∧ tS = t) := by
  refine mkD G 37 ["bar"] ["bar"] (by decide +kernel) ⟨rfl, rfl, rfl, by decide +kernel, rfl, by decide +kernel, by decide +kernel⟩ (fun f fd F => F.bindsN fun _ _ _ _ _ _ us hl => match us, hl with | [_], _ => rfl) (fun es t r t' h => by obtain ⟨_, _, _, _, _, _, rfl, _, _⟩ := h; rfl) ?_
  rintro p _ t0 _ t ⟨b, d, k, m, n, hP, rfl, rfl, rfl⟩
  obtain ⟨hi, hb, hn, hm, hk⟩ := hP
  have he := hb.mirr
  refine ds_one ?_
  refine ds_ret (de_not (de_call (df_alike_bars G) (da_cons (de_n 0 rfl) (da_cons (de_call (df_bar_mirrored G) (da_cons (de_n 0 rfl) da_nil) ⟨b, d, k, m, n, ?_, rfl, rfl, rfl⟩ rfl (Nat.le_of_ble_eq_true rfl)) da_nil)) ⟨b, mirrB b, d, encB (mirrB b), k, m, n, k, m, 2 * n, ?_, rfl, rfl, rfl⟩ rfl (Nat.le_of_ble_eq_true rfl))) ?_
  · exact ⟨hi, hb, by omega, by omega⟩
  · exact ⟨⟨hi, hb, hn, hm, hk⟩, isB_self (by have := he.rows; omega), he, by omega, by omega, by omega⟩
  · exact ⟨rfl, rfl⟩
end
end Sc

/-! E11 -/
set_option Elab.async false
set_option linter.all false
set_option maxRecDepth 100000
namespace Sc
open PySem PySem.Spec PyProof.Rows L2 Evl
section
variable {S : Sta} {p : Bool} {a : Expr} {Γ : List En} {t t1 : Tn} {ds : List PD} {pos : Pos} {op : BoolOp}
theorem dn_one (h : DN S p a Γ t ds t1) : DN S p (.BoolOp op [a] pos) Γ t ds t1 := fun X hX => let ⟨_, h1, h2⟩ := h X hX; ⟨_, pe_one h1, h2⟩
end
def cellsF (v : Int) (i : Nat) : List Int → Int
  | [] => v
  | c :: cs => cellsF (v + c * ((i : Int) + 2)) (i + 1) cs
def cellsV : List Int → Int
  | [] => 0
  | x :: xs => cellsF x 0 (xs.take 62)
def boxA (v : Int) : Int := (v.natAbs : Int) * (if decide ((v.natAbs : Int) ≥ 10 ^ (18 : Int).toNat) = true then 1 else 0)
def boxB (v : Int) : Int := v % 2305843009213693951 + 39373 * 0 + 9359
def takeT (t : Tn) (b : Int) : Tn := if 0 < t.1 then (t.1 / b, t.2.1, t.2.2) else (t.1, t.2.1, t.2.2 + 1)
def onceV (t : Tn) : Int := ((t.2.1 + 48271 * (t.2.2 + 1)) * (39373 + (t.2.2 + 1))) % 2147483647
def twiceV (t : Tn) : Int := ((onceV t + (t.2.2 + 1) + t.2.1 / 1000003) * (onceV t % 40009 + 7)) % 2147483629
def takeV (t : Tn) (b : Int) : Int := if 0 < t.1 then t.1 % b else ((twiceV t * 48271 + onceV t) % 2147483587 / 64) % b
theorem takeV_rng {t : Tn} {b : Int} (hb : 0 < b) : 0 ≤ takeV t b ∧ takeV t b < b := by
  unfold takeV
  split
  · exact ⟨Int.emod_nonneg _ (by omega), Int.emod_lt_of_pos _ hb⟩
  · exact ⟨Int.emod_nonneg _ (by omega), Int.emod_lt_of_pos _ hb⟩
/-- the drawing list after at most n numbers of its own -/
def Tk (n : Nat) (t : Tn) : Prop := 0 ≤ t.2.2 ∧ t.2.2 ≤ (n : Int)
theorem Tk.take {n : Nat} {t : Tn} {b : Int} (h : Tk n t) : Tk (n + 1) (takeT t b) := by
  unfold takeT
  obtain ⟨h1, h2⟩ := h
  split
  · exact ⟨h1, by show t.2.2 ≤ _; omega⟩
  · exact ⟨by show 0 ≤ t.2.2 + 1; omega, by show t.2.2 + 1 ≤ _; omega⟩
theorem Tk.mono {n m : Nat} {t : Tn} (h : Tk n t) (hm : n ≤ m) : Tk m t := ⟨h.1, by have := h.2; omega⟩
section
variable {P : Program} {w : World} {K : PySem.W.Frag} {mg : Str → Option Value} {base : Heap}
theorem df__law_box (G : Ge K mg) : Df P w K mg base "_law_box" 1 (fun eS t rS tS => ∃ (v : Int), eS = [.v (.list [.int v]), .v (.int 0)] ∧ rS = .l ([.int (boxA v), .int (boxB v), .int 0]) ∧ tS = t) := by
  refine mkD G 39 ["_law_script", "_law_k", "_law_cell_so"] ["_law_script", "_law_k"] (by decide +kernel) ⟨rfl, rfl, rfl, by decide +kernel, rfl, by decide +kernel, by decide +kernel⟩ (fun f fd F => F.bindsN fun _ _ _ _ _ _ us hl => match us, hl with | [_, _], _ => rfl) (fun es t r t' h => by obtain ⟨_, rfl, _, _⟩ := h; rfl) ?_
  rintro p _ t0 _ t ⟨v, rfl, rfl, rfl⟩
  refine ds_cons ?_
  refine ds_set 2 (d := .int v) (de_if (c := true) (DT.is (dt_cmp (dc_lt (de_n 1 rfl) (de_len (l := true) (ds := [.int v]) (DE.lst (de_n 0 rfl)) rfl (G.f _ (by decide))))) rfl) (fun _ => de_ix (DE.lst (de_n 0 rfl)) (de_n 1 rfl) rfl) (fun h => (by cases h))) ?_
  refine ds_one ?_
  refine ds_retN (dn_lst3 (de_mulS (de_abs (de_n 2 rfl) rfl (G.f _ (by decide))) (de_intB (de_cmp (dc_ge (de_abs (de_n 2 rfl) rfl (G.f _ (by decide))) (de_pow de_int de_int ?pw))) rfl (G.f _ (by decide))) ?ml) (de_add (de_add (de_mod (de_intI (de_n 2 rfl) rfl (G.f _ (by decide))) de_int (by decide)) (de_mulS de_int (de_n 1 rfl) ?m2)) de_int) de_int) ⟨rfl, rfl⟩
  case pw => exact ⟨by decide, by decide, by decide⟩
  case ml => right; split <;> decide
  case m2 => right; decide
theorem df__law_take (G : Ge K mg) : Df P w K mg base "_law_take" 1 (fun eS t rS tS => ∃ (n : Nat) (b : Int), (Tk n t ∧ n < 1000000 ∧ 0 < b ∧ b < 1000000) ∧ eS = [.tin, .v (.int b)] ∧ rS = .d (.int (takeV t b)) ∧ tS = takeT t b) := by
  refine mkD G 40 ["_law_tin", "_law_below_so", "_law_drawn", "_law_once_so", "_law_wide_so", "_law_twice_so"] ["_law_tin", "_law_below_so"] (by decide +kernel) ⟨rfl, rfl, rfl, by decide +kernel, rfl, by decide +kernel, by decide +kernel⟩ (fun f fd F => F.bindsN fun _ _ _ _ _ _ us hl => match us, hl with | [_, _], _ => rfl) (fun es t r t' h => by obtain ⟨_, _, _, rfl, _, _⟩ := h; rfl) ?_
  rintro p _ t _ _ ⟨n, b, hP, rfl, rfl, rfl⟩
  obtain ⟨⟨hk1, hk2⟩, hn, hb, hb2⟩ := hP
  refine ds_cons ?_
  refine ds_if (dt_cmp (dc_gt (de_tin 0 0 (by decide) rfl) de_int)) (fun h => ?_) fun h => ?_
  · have h : 0 < t.1 := of_decide_eq_true h
    refine ds_cons ?_
    refine ds_set 2 (de_mod (de_intI (de_tin 0 0 (by decide) rfl) rfl (G.f _ (by decide))) (de_n 1 rfl) hb) ?_
    refine ds_cons ?_
    refine ds_tin 0 0 (by decide) rfl (de_divW (de_tin 0 0 (by decide) rfl) (de_n 1 rfl) ?_) ?_
    · exact wide_div (b := 20) hb (by omega) (by decide) (by decide)
    (refine ds_one ?_; refine ds_ret (de_n 2 rfl) ?_)
    unfold takeV takeT
    rw [if_pos h, if_pos h]
    exact ⟨rfl, rfl⟩
  · have h : ¬ 0 < t.1 := of_decide_eq_false h
    refine ds_nil ?_
    refine ds_cons ?_
    refine ds_tin 0 2 (by decide) rfl (de_add (de_tin 0 2 (by decide) rfl) de_int) ?_
    have e2 : tget (tput t (tget t 2 + 1) 2) 2 = t.2.2 + 1 := rfl
    refine ds_cons ?_
    refine ds_set 3 (d := .int (onceV t)) (de_mod (de_intI (de_mulS (de_add (de_tin 0 1 (by decide) rfl) (de_mulS de_int (de_tin 0 2 (by decide) rfl) ?_)) (de_add de_int (de_tin 0 2 (by decide) rfl)) ?_) rfl (G.f _ (by decide))) de_int (by decide)) ?_
    · left; decide
    · right
      show -(2 ^ 64) < 39373 + (t.2.2 + 1) ∧ 39373 + (t.2.2 + 1) < 2 ^ 64
      omega
    have o1 : 0 ≤ onceV t ∧ onceV t < 2147483647 := ⟨Int.emod_nonneg _ (by decide), Int.emod_lt_of_pos _ (by decide)⟩
    refine ds_cons ?_
    refine ds_set 4 (d := .int (onceV t % 40009 + 7)) (de_add (de_mod (de_intI (de_n 3 rfl) rfl (G.f _ (by decide))) de_int ?_) de_int) ?_
    · decide
    have o2 : 0 ≤ onceV t % 40009 ∧ onceV t % 40009 < 40009 := ⟨Int.emod_nonneg _ (by decide), Int.emod_lt_of_pos _ (by decide)⟩
    refine ds_cons ?_
    refine ds_set 5 (d := .int (twiceV t)) (de_mod (de_intI (de_mulS (de_add (de_add (de_n 3 rfl) (de_tin 0 2 (by decide) rfl)) (de_divW (de_tin 0 1 (by decide) rfl) de_int ?_)) (de_n 4 rfl) ?_) rfl (G.f _ (by decide))) de_int (by decide)) ?_
    · exact wide_div (b := 20) (by decide) (by decide) (by decide) (by decide)
    · right
      omega
    have o3 : 0 ≤ twiceV t ∧ twiceV t < 2147483629 := ⟨Int.emod_nonneg _ (by decide), Int.emod_lt_of_pos _ (by decide)⟩
    refine ds_one ?_
    refine ds_ret (de_mod (de_intI (de_divW (de_mod (de_intI (de_add (de_mulS (de_n 5 rfl) de_int ?_) (de_n 3 rfl)) rfl (G.f _ (by decide))) de_int ?_) de_int ?_) rfl (G.f _ (by decide))) (de_n 1 rfl) hb) ?_
    · right; decide
    · decide
    · exact wide_div (b := 20) (by decide) (by decide) (by decide) (by decide)
    unfold takeV takeT
    rw [if_neg h, if_neg h]
    exact ⟨rfl, rfl⟩
end
end Sc

/-! E12 -/
set_option Elab.async false
set_option linter.all false
set_option maxRecDepth 100000
namespace Sc
open PySem PySem.Spec PyProof.Rows L2 Evl
/-- what the law compares: ints, texts, truth values, lists and tuples, no deeper than n -/
def sk : Nat → PyData → Bool
  | _, .int _ => true
  | _, .str x => PyData.strOk x
  | _, .bool _ => true
  | n + 1, .list xs => decide (xs.length < 1000) && xs.all (sk n)
  | n + 1, .tuple xs => decide (xs.length < 1000) && xs.all (sk n)
  | _, _ => false
theorem enum_get {ds : List PD} {i : Nat} {d : PD} (h : (enumD ds)[i]? = some d) : ∃ x, ds[i]? = some x ∧ d = .tuple [.int (i : Int), x] := by
  unfold enumD at h
  rw [List.getElem?_mapIdx] at h
  cases hx : ds[i]? with
  | none => rw [hx] at h; cases h
  | some x =>
    rw [hx] at h
    exact ⟨x, rfl, (Option.some.inj h).symm⟩
theorem zipD_self : ∀ xs : List PD, zipD xs xs = xs.map fun x => .tuple [x, x]
  | [] => rfl
  | x :: xs => by
    have := zipD_self xs
    unfold zipD at this ⊢
    rw [List.zipWith_cons_cons, this]
    rfl
section
variable {P : Program} {w : World} {K : PySem.W.Frag} {mg : Str → Option Value} {base : Heap}
theorem df__law_cells (G : Ge K mg) : Df P w K mg base "_law_cells" 1 (fun eS t rS tS => ∃ (ns : List Int), eS = [.v (.list (ns.map PyData.int)), .v (.int 1)] ∧ rS = .l ([.int (cellsV ns)]) ∧ tS = t) := by
  refine mkD G 41 ["_law_script", "_law_most_so", "_law_cells_so", "_law_k", "_law_cell_so", "_law_at_so"] ["_law_script", "_law_most_so"] (by decide +kernel) ⟨rfl, rfl, rfl, by decide +kernel, rfl, by decide +kernel, by decide +kernel⟩ (fun f fd F => F.bindsN fun _ _ _ _ _ _ us hl => match us, hl with | [_, _], _ => rfl) (fun es t r t' h => by obtain ⟨_, rfl, _, _⟩ := h; rfl) ?_
  rintro p _ t0 _ t ⟨ns, rfl, rfl, rfl⟩
  have h0 : ∃ x xs, (if cutD (ns.map PyData.int) none (some 1) = [] then [PyData.int 0] else cutD (ns.map PyData.int) none (some 1)) = [PyData.int x] ∧ cutD (ns.map PyData.int) (some 1) (some 63) = xs.map PyData.int ∧ cellsF x 0 xs = cellsV ns ∧ xs.length ≤ 62 := by
    cases ns with
    | nil => exact ⟨0, [], rfl, rfl, rfl, by decide⟩
    | cons x xs =>
      have e1 : cutD ((x :: xs).map PyData.int) none (some 1) = [.int x] := by
        rw [show (some (1 : Int)) = some ((1 : Nat) : Int) from rfl, cutD_to]
        rfl
      have e2 : cutD ((x :: xs).map PyData.int) (some 1) (some 63) = (xs.take 62).map PyData.int := by
        rw [cutD_map]
        congr 1
        unfold cutD
        have a1 : HT.sIx (x :: xs).length 0 (some 1) = 1 := by
          unfold HT.sIx
          simp
        have a2 : HT.sIx (x :: xs).length (x :: xs).length (some 63) = min 63 (xs.length + 1) := by
          unfold HT.sIx
          simp
        rw [a1, a2, List.drop_one, List.tail_cons]
        by_cases hl : 62 ≤ xs.length
        · rw [Nat.min_eq_left (by omega)]
        · rw [Nat.min_eq_right (by omega), Nat.add_sub_cancel, List.take_length, List.take_of_length_le (by omega)]
      rw [e1, e2]
      exact ⟨x, xs.take 62, rfl, rfl, rfl, by rw [List.length_take]; omega⟩
  obtain ⟨x, xs, h1, h2, h3, h4⟩ := h0
  refine ds_cons ?_
  refine ds_setN 2 (DN.is (dn_or (dn_list (DO.seq (DN.own (dn_slL (DE.lst (de_n 0 rfl)) dpt_none (dpt_some (de_n 1 rfl))))) rfl (G.f _ (by decide))) (fun _ => rfl) (fun _ => dn_one (dn_lst1 de_int))) h1) ?_
  refine ds_cons ?_
  refine ds_for (fun i Γ t' => t' = t ∧ ∃ (v : Int) (a b c : En), Γ = [.v (.list (ns.map PyData.int)), .v (.int 1), .own [.int v], a, b, c] ∧ cellsF v i (xs.drop i) = cellsV ns)
    (di_enum (ds := xs.map PyData.int) (DE.as (DN.frz (dn_slL (DE.lst (de_n 0 rfl)) (dpt_some (de_n 1 rfl)) (dpt_some de_int))) (by rw [h2])) rfl (G.f _ (by decide))) ⟨rfl, x, _, _, _, rfl, h3⟩ ?_ ?_
  · rintro i d _ _ hd ⟨rfl, v, a, b, c, rfl, hv⟩
    obtain ⟨y, hy, rfl⟩ := enum_get hd
    rw [List.getElem?_map] at hy
    cases hq : xs[i]? with
    | none => rw [hq] at hy; cases hy
    | some u =>
    rw [hq] at hy
    have hy : PyData.int u = y := Option.some.inj hy
    subst hy
    obtain ⟨hi, hu⟩ := List.getElem?_eq_some_iff.mp hq
    refine ⟨_, _, dg_tup (dgs_cons (dg_n 3) (dgs_cons (dg_n 4) dgs_nil)), ?_⟩
    refine ds_cons ?_
    refine ds_set 5 (d := .int 0) (DE.as (de_mod (de_intI (de_n 3 rfl) rfl (G.f _ (by decide))) (de_n 1 rfl) (by decide)) (by rw [Int.emod_one])) ?_
    refine ds_one ?_
    refine ds_put 2 (k := 0) (j := 0) rfl (de_add (de_ix (DO.seq (do_n 2 rfl)) (de_n 5 rfl) rfl) (de_mulS (de_n 4 rfl) (de_add (de_n 3 rfl) de_int) ?_)) (de_n 5 rfl) rfl ?_
    · right
      show -(2 ^ 64) < (i : Int) + 2 ∧ (i : Int) + 2 < 2 ^ 64
      omega
    · refine ⟨rfl, v + u * ((i : Int) + 2), _, _, _, rfl, ?_⟩
      rw [← hv, List.drop_eq_getElem_cons hi, hu]
      rfl
  · rintro _ _ ⟨rfl, v, a, b, c, rfl, hv⟩
    refine ds_one ?_
    refine ds_retO 2 rfl ⟨?_, rfl⟩
    have el : (enumD (xs.map PyData.int)).length = xs.length := by unfold enumD; rw [List.length_mapIdx, List.length_map]
    rw [el, List.drop_length] at hv
    rw [← hv]
    rfl
theorem df__law_of (G : Ge K mg) : Df P w K mg base "_law_of" 2 (fun eS t rS tS => ∃ (n : Nat) (ds : List PD) (d : PD), (Tk n t ∧ n < 1000000 ∧ ds.length < 1000 ∧ ds[(takeV t ds.length).toNat]? = some d ∧ 0 < ds.length) ∧ eS = [.tin, .v (.list ds)] ∧ rS = .d (d) ∧ tS = takeT t ds.length) := by
  refine mkD G 42 ["_law_tin", "_law_goods_so"] ["_law_tin", "_law_goods_so"] (by decide +kernel) ⟨rfl, rfl, rfl, by decide +kernel, rfl, by decide +kernel, by decide +kernel⟩ (fun f fd F => F.bindsN fun _ _ _ _ _ _ us hl => match us, hl with | [_, _], _ => rfl) (fun es t r t' h => by obtain ⟨_, _, _, _, rfl, _, _⟩ := h; rfl) ?_
  rintro p _ t _ _ ⟨n, ds, d, hP, rfl, rfl, rfl⟩
  obtain ⟨h1, h2, h3, h4, h5⟩ := hP
  have hr := takeV_rng (t := t) (b := (ds.length : Int)) (by omega)
  refine ds_one ?_
  refine ds_ret (de_ix (i := takeV t ds.length) (DE.lst (de_n 1 rfl)) (de_call (df__law_take G) (da_tin 0 rfl (da_cons (de_len (DE.lst (de_n 1 rfl)) rfl (G.f _ (by decide))) da_nil)) ⟨n, ds.length, ?_, rfl, rfl, rfl⟩ rfl (Nat.le_of_ble_eq_true rfl)) ?_) ⟨rfl, rfl⟩
  · exact ⟨h1, h2, by omega, by omega⟩
  · have e : takeV t ds.length = ((takeV t ds.length).toNat : Int) := by omega
    rw [e]
    exact atI_nat h4
abbrev arLists (n : Nat) : Ar := fun es t r t' => ∃ d : PD, tk n d = true ∧ es = [.v d] ∧ r = .d (listD d) ∧ t' = t
theorem df__law_lists (G : Ge K mg) : ∀ n : Nat, Df P w K mg base "_law_lists" (n + 1) (arLists n) := by
  intro n
  induction n with
  | zero =>
    refine mkD G 43 ["_law_matter", "_law_bit"] ["_law_matter"] (by decide +kernel) ⟨rfl, rfl, rfl, by decide +kernel, rfl, by decide +kernel, by decide +kernel⟩ (fun f fd F => F.bindsN fun _ _ _ _ _ _ us hl => match us, hl with | [_], _ => rfl) (fun es t r t' h => by obtain ⟨_, _, rfl, _, _⟩ := h; rfl) ?_
    rintro p _ t0 _ t ⟨d, hd, rfl, rfl, rfl⟩
    have hr : listD d = d := by cases d <;> simp [tk] at hd <;> rfl
    rw [hr]
    refine ds_one ?_
    cases d <;> simp [tk] at hd
    · refine ds_ret (de_if (dt_v (de_isi2 (de_n 0 rfl) ⟨rfl, G.f _ (by decide), rfl, by decide, by decide⟩ ⟨rfl, G.f _ (by decide), rfl, by decide, by decide⟩ rfl rfl rfl rfl rfl (G.f _ (by decide)))) (fun h => (by cases h)) fun _ => (de_n 0 rfl)) ⟨rfl, rfl⟩
    · refine ds_ret (de_if (dt_v (de_isi2 (de_n 0 rfl) ⟨rfl, G.f _ (by decide), rfl, by decide, by decide⟩ ⟨rfl, G.f _ (by decide), rfl, by decide, by decide⟩ rfl rfl rfl rfl rfl (G.f _ (by decide)))) (fun h => (by cases h)) fun _ => (de_n 0 rfl)) ⟨rfl, rfl⟩
  | succ n ih =>
    refine mkD G 43 ["_law_matter", "_law_bit"] ["_law_matter"] (by decide +kernel) ⟨rfl, rfl, rfl, by decide +kernel, rfl, by decide +kernel, by decide +kernel⟩ (fun f fd F => F.bindsN fun _ _ _ _ _ _ us hl => match us, hl with | [_], _ => rfl) (fun es t r t' h => by obtain ⟨_, _, rfl, _, _⟩ := h; rfl) ?_
    rintro p _ t0 _ t ⟨d, hd, rfl, rfl, rfl⟩
    refine ds_one ?_
    cases d with
    | int _ => refine ds_ret (de_if (dt_v (de_isi2 (de_n 0 rfl) ⟨rfl, G.f _ (by decide), rfl, by decide, by decide⟩ ⟨rfl, G.f _ (by decide), rfl, by decide, by decide⟩ rfl rfl rfl rfl rfl (G.f _ (by decide)))) (fun h => (by cases h)) fun _ => (de_n 0 rfl)) ⟨rfl, rfl⟩
    | str _ => refine ds_ret (de_if (dt_v (de_isi2 (de_n 0 rfl) ⟨rfl, G.f _ (by decide), rfl, by decide, by decide⟩ ⟨rfl, G.f _ (by decide), rfl, by decide, by decide⟩ rfl rfl rfl rfl rfl (G.f _ (by decide)))) (fun h => (by cases h)) fun _ => (de_n 0 rfl)) ⟨rfl, rfl⟩
    | none => simp [tk] at hd
    | bool _ => simp [tk] at hd
    | dict _ => simp [tk] at hd
    | list xs =>
      rw [tk, Bool.and_eq_true, decide_eq_true_eq, List.all_eq_true] at hd
      refine ds_ret (de_if (dt_v (de_isi2 (de_n 0 rfl) ⟨rfl, G.f _ (by decide), rfl, by decide, by decide⟩ ⟨rfl, G.f _ (by decide), rfl, by decide, by decide⟩ rfl rfl rfl rfl rfl (G.f _ (by decide)))) (fun _ => DN.frz (dn_lc (own := [("_law_bit", 1)]) (blk0 (by decide +kernel) rfl) xs id (fun _ => true) listD (di_list (DE.as (de_n 0 rfl) (by rw [List.map_id]))) (by omega) ?step)) fun h => (by cases h)) ?post
      case step =>
        intro x hx
        refine ⟨_, _, dg_n 1, by simp, rfl, fun _ => ?_⟩
        exact de_call ih (da_cons (de_n 1 rfl) da_nil) ⟨_, hd.2 x hx, rfl, rfl, rfl⟩ rfl (Nat.le_refl _)
      case post => exact ⟨by rw [List.filter_eq_self.mpr (fun _ _ => rfl), listD, listDs_map], rfl⟩
    | tuple xs =>
      rw [tk, Bool.and_eq_true, decide_eq_true_eq, List.all_eq_true] at hd
      refine ds_ret (de_if (dt_v (de_isi2 (de_n 0 rfl) ⟨rfl, G.f _ (by decide), rfl, by decide, by decide⟩ ⟨rfl, G.f _ (by decide), rfl, by decide, by decide⟩ rfl rfl rfl rfl rfl (G.f _ (by decide)))) (fun _ => DN.frz (dn_lc (own := [("_law_bit", 1)]) (blk0 (by decide +kernel) rfl) xs id (fun _ => true) listD (di_tup (DE.as (de_n 0 rfl) (by rw [List.map_id]))) (by omega) ?step)) fun h => (by cases h)) ?post
      case step =>
        intro x hx
        refine ⟨_, _, dg_n 1, by simp, rfl, fun _ => ?_⟩
        exact de_call ih (da_cons (de_n 1 rfl) da_nil) ⟨_, hd.2 x hx, rfl, rfl, rfl⟩ rfl (Nat.le_refl _)
      case post => exact ⟨by rw [List.filter_eq_self.mpr (fun _ _ => rfl), listD, listDs_map], rfl⟩
abbrev arSame (n : Nat) : Ar := fun es t r t' => ∃ d : PD, sk n d = true ∧ es = [.v d, .v d] ∧ r = .d (.bool true) ∧ t' = t
theorem isi1L {S : Sta} {p : Bool} {e : Expr} {Γ : List En} {t t1 : Tn} {d : PD} {pos q p1 : Pos} {x : Str} {T k : String} {b : Bool} (h : DE S p e Γ t d t1) (hT : TyN S x T) (hk : kindD d = some k) (hb : kitB k T = some b) (hg : glb S "isinstance") (hm : S.mg "isinstance" = none) (ns : Ns e := by intro _ _; rfl) :
    DE S p (.Call (.Name "isinstance" q) [e, .Name x p1] [] pos) Γ t (.bool b) t1 := de_isi1 h hT hk hb hg hm ns
theorem eqv_bb (b : Bool) : PyData.eqv (.bool b) (.bool b) = true := by simp [PyData.eqv]
theorem notNon {d : PD} (hd : d ≠ .none) : ∀ (K : PySem.W.Frag) (F : Hp) v, Dp K F v d → decide (v = V.non) = false := fun K F v h => by
  refine decide_eq_false fun e => ?_
  subst e
  cases h
  exact hd rfl
end
end Sc

/-! E13 -/
set_option Elab.async false
set_option linter.all false
set_option maxRecDepth 100000
namespace Sc
open PySem PySem.Spec PyProof.Rows L2 Evl
theorem DI.is {S : Sta} {p : Bool} {tg e : Expr} {Γ : List En} {t t1 : Tn} {ys zs : List PD} (h : DI S p tg e Γ t ys t1) (q : ys = zs) : DI S p tg e Γ t zs t1 := q ▸ h
theorem sk_lay : ∀ (n : Nat) (d : PyData), sk n d = true → d.canLay0 = true ∧ d.depth ≤ n := by
  have key : ∀ (xs : List PyData) (n : Nat), (∀ x ∈ xs, x.canLay0 = true ∧ x.depth ≤ n) → PyData.canLayAll0 xs = true ∧ PyData.depthAll xs ≤ n := by
    intro xs n
    induction xs with
    | nil => intro _; exact ⟨rfl, Nat.zero_le _⟩
    | cons x xs ih =>
      intro h
      obtain ⟨a1, a2⟩ := h x List.mem_cons_self
      obtain ⟨b1, b2⟩ := ih fun y hy => h y (List.mem_cons_of_mem _ hy)
      rw [PyData.canLayAll0, a1, b1, PyData.depthAll]
      exact ⟨rfl, by omega⟩
  intro n
  induction n with
  | zero =>
    intro d h
    cases d with
    | int _ => exact ⟨rfl, Nat.le_refl _⟩
    | bool _ => exact ⟨rfl, Nat.le_refl _⟩
    | str x => exact ⟨h, Nat.le_refl _⟩
    | none => cases h
    | list _ => cases h
    | tuple _ => cases h
    | dict _ => cases h
  | succ n ih =>
    intro d h
    cases d with
    | int _ => exact ⟨rfl, Nat.zero_le _⟩
    | bool _ => exact ⟨rfl, Nat.zero_le _⟩
    | str x => exact ⟨h, Nat.zero_le _⟩
    | none => cases h
    | dict _ => cases h
    | list xs =>
      rw [sk, Bool.and_eq_true, List.all_eq_true] at h
      obtain ⟨a, b⟩ := key xs n fun x hx => ih x (h.2 x hx)
      exact ⟨a, by rw [PyData.depth]; omega⟩
    | tuple xs =>
      rw [sk, Bool.and_eq_true, List.all_eq_true] at h
      obtain ⟨a, b⟩ := key xs n fun x hx => ih x (h.2 x hx)
      exact ⟨a, by rw [PyData.depth]; omega⟩
section
variable {P : Program} {w : World} {K : PySem.W.Frag} {mg : Str → Option Value} {base : Heap}
theorem same_int (G : Ge K mg) {k : Nat} {p : Bool} {t : Tn} (i : Int) : DSs (St0 P w K mg base ["_law_got", "_law_due", "_law_mine", "_law_its"] 44 k) p (defBody (topS 44)) [.v (.int i), .v (.int i), .no, .no] t (BodyPost (.d (.bool true)) t) := by
  (refine ds_cons ?_; refine ds_ifF (c := false) (dt_v (de_isi2 (de_n 1 rfl) ⟨rfl, G.f _ (by decide), rfl, by decide, by decide⟩ ⟨rfl, G.f _ (by decide), rfl, by decide, by decide⟩ rfl rfl rfl rfl rfl (G.f _ (by decide)))) rfl ?_)
  refine ds_nil ?_
  refine ds_cons ?_
  refine ds_ifF (c := false) (DT.is (dw_pt (dw_or (dt_cmp (dc_isN (de_n 1 rfl) (notNon (fun z => nomatch z)))) (fun _ => dw_or1 (dt_v (de_isi2 (de_n 1 rfl) ⟨rfl, G.f _ (by decide), rfl, by decide, by decide⟩ ⟨rfl, G.f _ (by decide), rfl, by decide, by decide⟩ rfl rfl rfl rfl rfl (G.f _ (by decide))))))) rfl) rfl ?_
  refine ds_nil ?_
  refine ds_one ?_
  refine ds_ret (de_and (de_isi1 (de_n 0 rfl) ⟨rfl, G.f _ (by decide), rfl, by decide, by decide⟩ rfl rfl rfl (G.f _ (by decide))) (fun _ => rfl) (fun _ => de_and (de_not (de_isi1 (de_n 0 rfl) ⟨rfl, G.f _ (by decide), rfl, by decide, by decide⟩ rfl rfl rfl (G.f _ (by decide)))) (fun _ => rfl) (fun _ => de_one (de_cmp (dc_eq (DE.rd (de_n 0 rfl)) (DE.rd (de_n 1 rfl)) rfl rfl))))) ⟨?_, rfl⟩
  rw [eqv_int, decide_eq_true rfl]
  rfl
theorem same_bool (G : Ge K mg) {k : Nat} {p : Bool} {t : Tn} (i : Bool) : DSs (St0 P w K mg base ["_law_got", "_law_due", "_law_mine", "_law_its"] 44 k) p (defBody (topS 44)) [.v (.bool i), .v (.bool i), .no, .no] t (BodyPost (.d (.bool true)) t) := by
  (refine ds_cons ?_; refine ds_ifF (c := false) (dt_v (de_isi2 (de_n 1 rfl) ⟨rfl, G.f _ (by decide), rfl, by decide, by decide⟩ ⟨rfl, G.f _ (by decide), rfl, by decide, by decide⟩ rfl rfl rfl rfl rfl (G.f _ (by decide)))) rfl ?_)
  refine ds_nil ?_
  refine ds_cons ?_
  refine ds_ifT (c := true) (DT.is (dw_pt (dw_or (dt_cmp (dc_isN (de_n 1 rfl) (notNon (fun z => nomatch z)))) (fun _ => dw_or1 (dt_v (de_isi2 (de_n 1 rfl) ⟨rfl, G.f _ (by decide), rfl, by decide, by decide⟩ ⟨rfl, G.f _ (by decide), rfl, by decide, by decide⟩ rfl rfl rfl rfl rfl (G.f _ (by decide))))))) rfl) rfl ?_
  refine ds_one ?_
  refine ds_ret (de_and (de_cmp (dc_eq (DE.rd (de_n 0 rfl)) (DE.rd (de_n 1 rfl)) rfl rfl)) (fun _ => rfl) (fun _ => de_and (de_cmp (dc_eq (DE.rd (de_isi1 (de_n 0 rfl) ⟨rfl, G.f _ (by decide), rfl, by decide, by decide⟩ rfl rfl rfl (G.f _ (by decide)))) (DE.rd (de_isi1 (de_n 1 rfl) ⟨rfl, G.f _ (by decide), rfl, by decide, by decide⟩ rfl rfl rfl (G.f _ (by decide)))) rfl rfl)) (fun _ => rfl) (fun _ => de_one (de_cmp (dc_eq (DE.rd (de_cmp (dc_isN (de_n 0 rfl) (notNon (fun z => nomatch z))))) (DE.rd (de_cmp (dc_isN (de_n 1 rfl) (notNon (fun z => nomatch z))))) rfl rfl))))) ⟨?_, rfl⟩
  rw [eqv_bb]
  rfl
theorem same_str (G : Ge K mg) {k : Nat} {p : Bool} {t : Tn} (x : Str) (hx : PyData.strOk x = true) : DSs (St0 P w K mg base ["_law_got", "_law_due", "_law_mine", "_law_its"] 44 k) p (defBody (topS 44)) [.v (.str x), .v (.str x), .no, .no] t (BodyPost (.d (.bool true)) t) := by
  have hs : SeqAt.shaped (.str x) = true := shp hx (Nat.zero_le _)
  (refine ds_cons ?_; refine ds_ifF (c := false) (dt_v (de_isi2 (de_n 1 rfl) ⟨rfl, G.f _ (by decide), rfl, by decide, by decide⟩ ⟨rfl, G.f _ (by decide), rfl, by decide, by decide⟩ rfl rfl rfl rfl rfl (G.f _ (by decide)))) rfl ?_)
  refine ds_nil ?_
  refine ds_cons ?_
  refine ds_ifT (c := true) (DT.is (dw_pt (dw_or (dt_cmp (dc_isN (de_n 1 rfl) (notNon (fun z => nomatch z)))) (fun _ => dw_or1 (dt_v (de_isi2 (de_n 1 rfl) ⟨rfl, G.f _ (by decide), rfl, by decide, by decide⟩ ⟨rfl, G.f _ (by decide), rfl, by decide, by decide⟩ rfl rfl rfl rfl rfl (G.f _ (by decide))))))) rfl) rfl ?_
  refine ds_one ?_
  refine ds_ret (de_and (de_cmp (dc_eq (DE.rd (de_n 0 rfl)) (DE.rd (de_n 1 rfl)) hs hs)) (fun _ => rfl) (fun _ => de_and (de_cmp (dc_eq (DE.rd (de_isi1 (de_n 0 rfl) ⟨rfl, G.f _ (by decide), rfl, by decide, by decide⟩ rfl rfl rfl (G.f _ (by decide)))) (DE.rd (de_isi1 (de_n 1 rfl) ⟨rfl, G.f _ (by decide), rfl, by decide, by decide⟩ rfl rfl rfl (G.f _ (by decide)))) rfl rfl)) (fun _ => rfl) (fun _ => de_one (de_cmp (dc_eq (DE.rd (de_cmp (dc_isN (de_n 0 rfl) (notNon (fun z => nomatch z))))) (DE.rd (de_cmp (dc_isN (de_n 1 rfl) (notNon (fun z => nomatch z))))) rfl rfl))))) ⟨?_, rfl⟩
  rw [eqv_self (.str x) hx]
  rfl
theorem df__law_same (G : Ge K mg) : ∀ n : Nat, Df P w K mg base "_law_same" (n + 1) (arSame n) := by
  intro n
  induction n with
  | zero =>
    refine mkD G 44 ["_law_got", "_law_due", "_law_mine", "_law_its"] ["_law_got", "_law_due"] (by decide +kernel) ⟨rfl, rfl, rfl, by decide +kernel, rfl, by decide +kernel, by decide +kernel⟩ (fun f fd F => F.bindsN fun _ _ _ _ _ _ us hl => match us, hl with | [_, _], _ => rfl) (fun es t r t' h => by obtain ⟨_, _, rfl, _, _⟩ := h; rfl) ?_
    rintro p _ t0 _ t ⟨d, hd, rfl, rfl, rfl⟩
    cases d with
    | int i => exact same_int G i
    | bool i => exact same_bool G i
    | str x => exact same_str G x hd
    | none => cases hd
    | list _ => cases hd
    | tuple _ => cases hd
    | dict _ => cases hd
  | succ n ih =>
    refine mkD G 44 ["_law_got", "_law_due", "_law_mine", "_law_its"] ["_law_got", "_law_due"] (by decide +kernel) ⟨rfl, rfl, rfl, by decide +kernel, rfl, by decide +kernel, by decide +kernel⟩ (fun f fd F => F.bindsN fun _ _ _ _ _ _ us hl => match us, hl with | [_, _], _ => rfl) (fun es t r t' h => by obtain ⟨_, _, rfl, _, _⟩ := h; rfl) ?_
    rintro p _ t0 _ t ⟨d, hd, rfl, rfl, rfl⟩
    cases d with
    | int i => exact same_int G i
    | bool i => exact same_bool G i
    | str x => exact same_str G x hd
    | none => cases hd
    | dict _ => cases hd
    | list xs =>
      rw [sk, Bool.and_eq_true, decide_eq_true_eq, List.all_eq_true] at hd
      (refine ds_cons ?_; refine ds_ifT (c := true) (dt_v (de_isi2 (de_n 1 rfl) ⟨rfl, G.f _ (by decide), rfl, by decide, by decide⟩ ⟨rfl, G.f _ (by decide), rfl, by decide, by decide⟩ rfl rfl rfl rfl rfl (G.f _ (by decide)))) rfl ?_)
      refine ds_cons ?_
      refine ds_ifF (c := false) (DT.is (dw_pt (dw_or (dt_cmp (dc_ne (DE.rd (de_isi1 (de_n 0 rfl) ⟨rfl, G.f _ (by decide), rfl, by decide, by decide⟩ rfl rfl rfl (G.f _ (by decide)))) (DE.rd (de_isi1 (de_n 1 rfl) ⟨rfl, G.f _ (by decide), rfl, by decide, by decide⟩ rfl rfl rfl (G.f _ (by decide)))) rfl rfl)) (fun _ => dw_or1 (dt_cmp (dc_ne (DE.rd (de_isi1 (de_n 0 rfl) ⟨rfl, G.f _ (by decide), rfl, by decide, by decide⟩ rfl rfl rfl (G.f _ (by decide)))) (DE.rd (de_isi1 (de_n 1 rfl) ⟨rfl, G.f _ (by decide), rfl, by decide, by decide⟩ rfl rfl rfl (G.f _ (by decide)))) rfl rfl))))) rfl) rfl ?_
      refine ds_nil ?_
      refine ds_one ?_
      refine ds_ret (de_and (de_cmp (dc_eq (DE.rd (de_len (DE.lst (de_n 0 rfl)) rfl (G.f _ (by decide)))) (DE.rd (de_len (DE.lst (de_n 1 rfl)) rfl (G.f _ (by decide)))) rfl rfl)) (fun _ => rfl) (fun _ => de_one (de_all (bs := xs.map fun _ => true) (DO.seq (DN.own (DN.is (dn_lc (own := [("_law_mine", 2), ("_law_its", 3)]) (blk0 (by decide +kernel) rfl) xs (fun x => .tuple [x, x]) (fun _ => true) (fun _ => .bool true) (DI.is (di_zipL (de_n 0 rfl) (de_n 1 rfl) rfl (G.f _ (by decide))) (zipD_self xs)) (by omega) ?step) ?eq))) rfl (G.f _ (by decide))))) ⟨?fin, rfl⟩
      case step =>
        intro x hx
        refine ⟨_, _, dg_tup (dgs_cons (dg_n 2) (dgs_cons (dg_n 3) dgs_nil)), by simp, rfl, fun _ => ?_⟩
        exact de_call ih (da_cons (de_n 2 rfl) (da_cons (de_n 3 rfl) da_nil)) ⟨x, hd.2 x hx, rfl, rfl, rfl⟩ rfl (Nat.le_refl _)
      case eq => rw [List.filter_eq_self.mpr (fun _ _ => rfl), List.map_map]; rfl
      case fin => rw [eqv_int, decide_eq_true rfl]; simp
    | tuple xs =>
      rw [sk, Bool.and_eq_true, decide_eq_true_eq, List.all_eq_true] at hd
      (refine ds_cons ?_; refine ds_ifT (c := true) (dt_v (de_isi2 (de_n 1 rfl) ⟨rfl, G.f _ (by decide), rfl, by decide, by decide⟩ ⟨rfl, G.f _ (by decide), rfl, by decide, by decide⟩ rfl rfl rfl rfl rfl (G.f _ (by decide)))) rfl ?_)
      refine ds_cons ?_
      refine ds_ifF (c := false) (DT.is (dw_pt (dw_or (dt_cmp (dc_ne (DE.rd (de_isi1 (de_n 0 rfl) ⟨rfl, G.f _ (by decide), rfl, by decide, by decide⟩ rfl rfl rfl (G.f _ (by decide)))) (DE.rd (de_isi1 (de_n 1 rfl) ⟨rfl, G.f _ (by decide), rfl, by decide, by decide⟩ rfl rfl rfl (G.f _ (by decide)))) rfl rfl)) (fun _ => dw_or1 (dt_cmp (dc_ne (DE.rd (de_isi1 (de_n 0 rfl) ⟨rfl, G.f _ (by decide), rfl, by decide, by decide⟩ rfl rfl rfl (G.f _ (by decide)))) (DE.rd (de_isi1 (de_n 1 rfl) ⟨rfl, G.f _ (by decide), rfl, by decide, by decide⟩ rfl rfl rfl (G.f _ (by decide)))) rfl rfl))))) rfl) rfl ?_
      refine ds_nil ?_
      refine ds_one ?_
      refine ds_ret (de_and (de_cmp (dc_eq (DE.rd (de_len (DE.tup (de_n 0 rfl)) rfl (G.f _ (by decide)))) (DE.rd (de_len (DE.tup (de_n 1 rfl)) rfl (G.f _ (by decide)))) rfl rfl)) (fun _ => rfl) (fun _ => de_one (de_all (bs := xs.map fun _ => true) (DO.seq (DN.own (DN.is (dn_lc (own := [("_law_mine", 2), ("_law_its", 3)]) (blk0 (by decide +kernel) rfl) xs (fun x => .tuple [x, x]) (fun _ => true) (fun _ => .bool true) (DI.is (di_zipT (de_n 0 rfl) (de_n 1 rfl) rfl (G.f _ (by decide))) (zipD_self xs)) (by omega) ?step) ?eq))) rfl (G.f _ (by decide))))) ⟨?fin, rfl⟩
      case step =>
        intro x hx
        refine ⟨_, _, dg_tup (dgs_cons (dg_n 2) (dgs_cons (dg_n 3) dgs_nil)), by simp, rfl, fun _ => ?_⟩
        exact de_call ih (da_cons (de_n 2 rfl) (da_cons (de_n 3 rfl) da_nil)) ⟨x, hd.2 x hx, rfl, rfl, rfl⟩ rfl (Nat.le_refl _)
      case eq => rw [List.filter_eq_self.mpr (fun _ _ => rfl), List.map_map]; rfl
      case fin => rw [eqv_int, decide_eq_true rfl]; simp
end
end Sc

/-! E14 -/
set_option Elab.async false
set_option linter.all false
set_option maxRecDepth 100000
namespace Sc
open PySem PySem.Spec PyProof.Rows L2 Evl
theorem any_mem (fs : List Rat) (q : Rat) : ((fs.map encQ).any fun z => PyData.eqv z (encQ q)) = decide (q ∈ fs) := by
  induction fs with
  | nil => rw [decide_eq_false (by simp)]; rfl
  | cons f fs ih =>
    rw [List.map_cons, List.any_cons, ih, eqv_dec (fun _ _ => encQ_inj) nb_Q]
    by_cases h : f = q
    · subst h
      simp
    · have h' : ¬ q = f := fun z => h z.symm
      simp [h, h']
theorem rng_get {lo : Int} {n i : Nat} {d : PD} (h : (rngD lo n)[i]? = some d) : i < n ∧ d = .int (lo + (i : Int)) := by
  unfold rngD at h
  rw [List.getElem?_map] at h
  by_cases hi : i < n
  · rw [List.getElem?_range hi] at h
    exact ⟨hi, (Option.some.inj h).symm⟩
  · rw [List.getElem?_eq_none (by rw [List.length_range]; omega)] at h
    cases h
def forBody : Stmt → List Stmt
  | .For _ _ b _ _ => b
  | _ => []
theorem sh_qs (qs : List Rat) : SeqAt.shaped (.list (qs.map encQ)) = true := shp (by rw [nb]; exact nbAll_map nb_Q qs) (by
  rw [PyData.depth]
  have := depthAll_map (fun q => Nat.le_of_eq (dp_Q q)) qs
  omega)
theorem set_mid {α : Type} (A : List α) (y z : α) (B : List α) : (A ++ y :: B).set A.length z = A ++ z :: B := by
  rw [List.set_append_right _ _ (Nat.le_refl _), Nat.sub_self]
  rfl
theorem at_mid {α : Type} (A : List α) (y : α) (B : List α) : atI (A ++ y :: B) (A.length : Int) = some y := by
  apply atI_nat
  simp
theorem ixN_nat {n k : Nat} (h : k < n) : ixN n (k : Int) = some k := by
  unfold ixN
  rw [if_pos (by omega), if_pos (by omega)]
  simp
theorem asc_ins {A B : List Rat} {x : Rat} (h : Asc leQ (A ++ B)) (hB : ∀ b ∈ B, x < b) (hx : x ∉ A) (hA : ∀ A' a, A = A' ++ [a] → a ≤ x) : Asc leQ (A ++ x :: B) := by
  have lt_of : ∀ a b : Rat, (leQ a b = true ∧ a ≠ b) ↔ a < b := fun a b => by
    unfold leQ
    rw [decide_eq_true_eq]
    constructor
    · rintro ⟨h1, h2⟩
      grind
    · intro h
      exact ⟨by grind, by grind⟩
  obtain ⟨h1, h2, h3⟩ := List.pairwise_append.mp h
  have hAx : ∀ a ∈ A, a < x := by
    intro a ha
    rcases List.eq_nil_or_concat A with e | ⟨A', c, e⟩
    · subst e; cases ha
    · subst e
      rw [List.concat_eq_append] at h1 ha hx hA
      have hc := hA A' c rfl
      have hcx : c ≠ x := fun z => hx (by rw [← z]; simp)
      rcases List.mem_append.mp ha with z | z
      · have := (lt_of a c).mp ((List.pairwise_append.mp h1).2.2 a z c (by simp))
        grind
      · have := List.mem_singleton.mp z
        subst this
        grind
  refine List.pairwise_append.mpr ⟨h1, List.pairwise_cons.mpr ⟨fun b hb => (lt_of x b).mpr (hB b hb), h2⟩, fun a ha b hb => ?_⟩
  rcases List.mem_cons.mp hb with z | z
  · subst z
    exact (lt_of a b).mpr (hAx a ha)
  · exact h3 a ha b z
section
variable {P : Program} {w : World} {K : PySem.W.Frag} {mg : Str → Option Value} {base : Heap}
theorem df__law_by_value (G : Ge K mg) : Df P w K mg base "_law_by_value" 2 (fun eS t rS tS => ∃ (qs : List Rat), ((∀ q ∈ qs, Bd 100 q) ∧ qs.length < 64) ∧ eS = [.v (.list (qs.map encQ))] ∧ rS = .l ((ascQ qs).map encQ) ∧ tS = t) := by
  refine mkD G 58 ["_law_parts_so", "_law_found", "_law_own", "_law_k", "_law_place_so"] ["_law_parts_so"] (by decide +kernel) ⟨rfl, rfl, rfl, by decide +kernel, rfl, by decide +kernel, by decide +kernel⟩ (fun f fd F => F.bindsN fun _ _ _ _ _ _ us hl => match us, hl with | [_], _ => rfl) (fun es t r t' h => by obtain ⟨_, _, rfl, _, _⟩ := h; rfl) ?_
  rintro p _ t0 _ t ⟨qs, hP, rfl, rfl, rfl⟩
  obtain ⟨hb, hz⟩ := hP
  (refine ds_cons ?_; refine ds_setN 1 (dn_lst0 ) ?_)
  refine ds_cons ?_
  refine ds_for (fun i Γ t' => t' = t ∧ ∃ (fs : List Rat) (x : En), Γ = [.v (.list (qs.map encQ)), .own (fs.map encQ), x, .no, .no] ∧ fs.Nodup ∧ (∀ q, q ∈ fs ↔ q ∈ qs.take i) ∧ fs.length ≤ i) (di_list (de_n 0 rfl)) ⟨rfl, [], _, rfl, List.nodup_nil, by simp, Nat.le_refl _⟩ ?_ ?_
  · rintro i d _ _ hd ⟨rfl, fs, x, rfl, hn, hm, hl⟩
    rw [List.getElem?_map] at hd
    cases hq : qs[i]? with
    | none => rw [hq] at hd; cases hd
    | some q =>
    rw [hq] at hd
    have hd : encQ q = d := Option.some.inj hd
    subst hd
    have hi : i < qs.length := (List.getElem?_eq_some_iff.mp hq).1
    have htk : qs.take (i + 1) = qs.take i ++ [q] := by rw [List.take_succ, hq]; rfl
    refine ⟨_, _, dg_n 2, ?_⟩
    refine ds_one ?_
    refine ds_if (c := !decide (q ∈ fs)) (DT.is (dt_cmp (dc_nin (DE.rd (de_n 2 rfl)) (DO.rd (do_n 1 rfl)) rfl (sh_qs fs) rfl)) (by rw [any_mem])) (fun h => ?_) fun h => ?_
    · have h : q ∉ fs := by simpa using h
      (refine ds_one ?_; refine ds_app 1 rfl (de_n 2 rfl) (by rw [List.length_map]; omega) ?_)
      refine ⟨rfl, fs ++ [q], .v (encQ q), by rw [List.map_append]; rfl, ?_, fun r => ?_, by rw [List.length_append, List.length_singleton]; omega⟩
      · rw [List.nodup_append]
        refine ⟨hn, by simp, fun a ha b hb' z => h ?_⟩
        rw [← List.mem_singleton.mp hb', ← z]
        exact ha
      · rw [htk, List.mem_append, List.mem_append, hm r]
    · have h : q ∈ fs := by simpa using h
      refine ds_nil ⟨rfl, fs, .v (encQ q), rfl, hn, fun r => ?_, by omega⟩
      rw [htk, List.mem_append, hm r, List.mem_singleton]
      constructor
      · exact .inl
      · rintro (z | z)
        · exact z
        · rw [z]
          exact (hm q).mp h
  · rintro _ t ⟨rfl, fs, x, rfl, hn, hm, hl⟩
    rw [List.length_map, List.take_length] at hm
    rw [List.length_map] at hl
    refine ds_cons ?_
    refine ds_for (fun i Γ t' => t' = t ∧ ∃ (gs : List Rat) (x y z : En), Γ = [.v (.list (qs.map encQ)), .own (gs.map encQ), x, y, z] ∧ gs.Perm fs ∧ Asc leQ (gs.take (i + 1))) (di_rng2 de_int (de_len (DO.seq (do_n 1 rfl)) rfl (G.f _ (by decide))) ?rb rfl (G.f _ (by decide))) ⟨rfl, fs, _, _, _, rfl, .refl _, ?z0⟩ ?_ ?_
    case rb =>
      rw [List.length_map]
      omega
    case z0 =>
      cases fs with
      | nil => exact List.Pairwise.nil
      | cons f fs =>
        rw [List.take_succ_cons, List.take_zero]
        exact List.pairwise_singleton _ _
    · rintro i d _ t hd ⟨rfl, gs, x, y, z, rfl, hp, ha⟩
      have hgl : gs.length = fs.length := hp.length_eq
      obtain ⟨hi, rfl⟩ := rng_get hd
      rw [List.length_map] at hi
      have hk : i + 1 < gs.length := by omega
      obtain ⟨pre, x0, post, hgs, hpl⟩ : ∃ pre x0 post, gs = pre ++ x0 :: post ∧ pre.length = i + 1 := ⟨gs.take (i + 1), gs[i + 1], gs.drop (i + 2), by rw [← List.drop_eq_getElem_cons hk, List.take_append_drop], by rw [List.length_take]; omega⟩
      subst hgs
      have hnd : (pre ++ x0 :: post).Nodup := hp.nodup_iff.mpr hn
      have hbs : ∀ q ∈ pre ++ x0 :: post, Bd 100 q := fun q hq => hb q ((hm q).mp (hp.mem_iff.mp hq))
      rw [← hpl, List.take_left' rfl] at ha
      have hx0 : x0 ∉ pre := fun h => (List.nodup_append.mp hnd).2.2 x0 h x0 List.mem_cons_self rfl
      have hbx : Sm x0 := (hbs x0 (by simp)).mono
      have hk1 : (1 : Int) + (i : Int) = ((pre.length : Nat) : Int) := by omega
      refine ⟨_, _, dg_n 3, ?_⟩
      refine ds_cons ?_
      have em : ∀ A B : List Rat, ∀ u : Rat, (A ++ u :: B).map encQ = A.map encQ ++ encQ u :: B.map encQ := fun A B u => by rw [List.map_append]; rfl
      refine ds_par 4 2 (en := .v (.int (pre.length : Int))) (em := .v (encQ x0)) (DE.dv (DE.as (de_n 3 rfl) (by rw [hk1]))) (DE.dv (de_ix (DO.seq (do_n 1 rfl)) (de_n 3 rfl) (by rw [hk1, em, ← List.length_map (f := encQ)]; exact at_mid _ _ _))) ?_ (by intro env h; cases env; cases h; rfl)
      refine ds_cons ?_
      refine ds_while (fun m Γ t' => t' = t ∧ ∃ (A B : List Rat) (u : Rat), Γ = [.v (.list (qs.map encQ)), .own ((A ++ u :: (B ++ post)).map encQ), .v (encQ x0), .v (.int (1 + (i : Int))), .v (.int (A.length : Int))] ∧ A ++ B = pre ∧ (∀ b ∈ B, x0 < b) ∧ m = A.length) pre.length ⟨rfl, pre, [], x0, rfl, List.append_nil _, (fun _ h => (by cases h)), rfl⟩ ?_
      rintro m _ t ⟨rfl, A, B, u, rfl, hAB, hB, rfl⟩
      subst hAB
      have hlAB : A.length + B.length = i + 1 := by rw [← List.length_append]; exact hpl
      have res : (∀ A' a, A = A' ++ [a] → a ≤ x0) → (A ++ x0 :: (B ++ post)).Perm fs ∧ Asc leQ ((A ++ x0 :: (B ++ post)).take (i + 1 + 1)) := fun hA => by
        refine ⟨?_, ?_⟩
        · refine List.Perm.trans ?_ hp
          have e1 : A ++ x0 :: (B ++ post) = A ++ (x0 :: B) ++ post := by simp
          have e2 : A ++ B ++ x0 :: post = A ++ (B ++ [x0]) ++ post := by simp
          rw [e1, e2]
          exact ((List.perm_append_singleton x0 B).symm.append_left A).append_right post
        · have e1 : A ++ x0 :: (B ++ post) = (A ++ x0 :: B) ++ post := by simp
          rw [e1, List.take_left' (by rw [List.length_append, List.length_cons]; omega)]
          exact asc_ins ha hB (fun h => hx0 (List.mem_append_left _ h)) hA
      have hset : ∀ v : Rat, ((A ++ u :: (B ++ post)).map encQ).set A.length (encQ v) = (A ++ v :: (B ++ post)).map encQ := fun v => by
        rw [em, em]
        conv => lhs; rw [← List.length_map (f := encQ) (as := A)]
        exact set_mid _ _ _ _
      have hix : ixN ((A ++ u :: (B ++ post)).map encQ).length (A.length : Int) = some A.length := ixN_nat (by rw [List.length_map, List.length_append, List.length_cons]; omega)
      rcases List.eq_nil_or_concat A with e | ⟨A', a, e⟩
      · subst e
        refine ⟨false, DT.is (dw_pt (dw_and (c := false) (c' := false) (DT.is (dt_cmp (dc_gt (de_n 4 rfl) de_int)) rfl) (fun h => (by cases h)))) rfl, fun h => (by cases h), fun _ => ?_⟩
        obtain ⟨r1, r2⟩ := res fun A' a z => (by simp at z)
        refine ds_one ?_
        refine ds_put 1 (j := ([] : List Rat).length) rfl (de_n 2 rfl) (de_n 4 rfl) hix ?_
        refine ⟨rfl, [] ++ x0 :: (B ++ post), .v (encQ x0), .v (.int (1 + (i : Int))), .v (.int (([] : List Rat).length : Int)), ?_, r1, r2⟩
        rw [← hset x0]
        rfl
      · rw [List.concat_eq_append] at e
        have hal : A.length = A'.length + 1 := by rw [e, List.length_append, List.length_singleton]
        have haS : Sm a := (hbs a (by rw [e]; simp)).mono
        have hat : atI ((A ++ u :: (B ++ post)).map encQ) ((A.length : Int) - 1) = some (encQ a) := by
          have e1 : (A.length : Int) - 1 = ((A'.map encQ).length : Int) := by rw [List.length_map]; omega
          rw [e1, e, List.append_assoc, List.singleton_append, em]
          exact at_mid _ _ _
        refine ⟨true && decide (x0 < a), dw_pt (dw_and (DT.is (dt_cmp (dc_gt (de_n 4 rfl) de_int)) (decide_eq_true (by omega))) (fun _ => dw_and1 (dt_v (de_call (df__law_under G) (da_cons (de_n 2 rfl) (da_cons (de_ix (DO.seq (do_n 1 rfl)) (de_sub (de_n 4 rfl) de_int) hat) da_nil)) ⟨x0, a, ⟨hbx, haS⟩, rfl, rfl, rfl⟩ rfl (Nat.le_of_ble_eq_true rfl))))), fun h => ?_, fun h => ?_⟩
        · have h : x0 < a := by simpa using h
          refine ds_cons ?_
          refine ds_put 1 (j := A.length) rfl (de_ix (DO.seq (do_n 1 rfl)) (de_sub (de_n 4 rfl) de_int) hat) (de_n 4 rfl) hix ?_
          (refine ds_one ?_; refine ds_set 4 (de_sub (de_n 4 rfl) de_int) ?_)
          refine ⟨A'.length, by omega, rfl, A', a :: B, a, ?_, ?_, ?_, rfl⟩
          · rw [hset a]
            have e1 : (A.length : Int) - 1 = (A'.length : Int) := by omega
            have e2 : A ++ a :: (B ++ post) = A' ++ a :: (a :: B ++ post) := by rw [e]; simp
            rw [e1, e2]
            rfl
          · rw [e]
            simp
          · intro b hb
            rcases List.mem_cons.mp hb with z | z
            · rw [z]
              exact h
            · exact hB b z
        · have h : ¬ x0 < a := by simpa using h
          obtain ⟨r1, r2⟩ := res fun A2 a2 z => by
            rw [e] at z
            have := (List.append_inj' z rfl).2
            have : a = a2 := by simpa using this
            rw [← this]
            grind
          refine ds_one ?_
          refine ds_put 1 (j := A.length) rfl (de_n 2 rfl) (de_n 4 rfl) hix ?_
          refine ⟨rfl, A ++ x0 :: (B ++ post), .v (encQ x0), .v (.int (1 + (i : Int))), .v (.int (A.length : Int)), ?_, r1, r2⟩
          rw [hset x0]
          rfl
    · rintro _ _ ⟨rfl, gs, x, y, z, rfl, hp, ha⟩
      refine ds_one ?_
      refine ds_retO 1 rfl ⟨?_, rfl⟩
      have hgl : gs.length = fs.length := hp.length_eq
      have e : gs.take ((rngD 1 (((fs.map encQ).length : Int) - 1).toNat).length + 1) = gs := by
        unfold rngD
        rw [List.length_map, List.length_range, List.length_map]
        exact List.take_of_length_le (by omega)
      rw [e] at ha
      have : ascQ qs = gs := setS_uniq lo_Q ha fun q => by rw [hp.mem_iff, hm q]
      rw [this]
end
end Sc

/-! E15 -/
set_option Elab.async false
set_option linter.all false
set_option maxRecDepth 100000
namespace Sc
open PySem PySem.Spec PyProof.Rows L2 Evl
/-! ### what is drawn -/
def ofV {α : Type} (t : Tn) (xs : List α) (d : α) : α := xs.getD (takeV t xs.length).toNat d
theorem ofV_mem {α : Type} {t : Tn} {xs : List α} {d : α} (h : 0 < xs.length) : xs[(takeV t xs.length).toNat]? = some (ofV t xs d) ∧ ofV t xs d ∈ xs := by
  have hr := takeV_rng (t := t) (b := (xs.length : Int)) (by omega)
  have hi : (takeV t xs.length).toNat < xs.length := by omega
  have e : ofV t xs d = xs[(takeV t xs.length).toNat] := by
    unfold ofV
    rw [List.getD_eq_getElem?_getD, List.getElem?_eq_getElem hi]
    rfl
  rw [e]
  exact ⟨List.getElem?_eq_getElem hi, List.getElem_mem hi⟩
def ofT {α : Type} (t : Tn) (xs : List α) : Tn := takeT t xs.length
def fracT (t : Tn) (bs : List Int) : Tn := takeT (ofT t bs) (4 * ofV t bs 1 + 1)
def fracV (t : Tn) (bs : List Int) : Rat := Rat.divInt (takeV (ofT t bs) (4 * ofV t bs 1 + 1)) (ofV t bs 1)
def angBs : List Int := [1, 2, 4, 3, 2, 4, 6, 8, 12]
def angT (t : Tn) : Tn := takeT (ofT t angBs) (ofV t angBs 1)
def angV (t : Tn) : Rat := Rat.divInt (takeV (ofT t angBs) (ofV t angBs 1)) (ofV t angBs 1)
def leads : List Rat := [⟨1, 1, by decide, by decide⟩, ⟨2, 1, by decide, by decide⟩, ⟨1, 2, by decide, by decide⟩, ⟨3, 2, by decide, by decide⟩, ⟨3, 1, by decide, by decide⟩, ⟨1, 1, by decide, by decide⟩, ⟨2, 1, by decide, by decide⟩, ⟨4, 3, by decide, by decide⟩, ⟨2, 3, by decide, by decide⟩]
def leadT (t : Tn) : Tn := takeT (ofT t leads) 3
def leadV (t : Tn) : Rat := if 0 < takeV (ofT t leads) 3 then ofV t leads 1 else -ofV t leads 1
def lineT (t : Tn) : Tn := if takeV t 6 = 0 then fracT (takeT t 6) [1, 2, 1, 3] else if takeV t 6 = 1 then angT (takeT t 6) else angT (leadT (takeT t 6))
def mkLead (l pl a : Rat) : Ln := .lead l (rnd (pl - l * a) l)
def lineV (t : Tn) : Ln := if takeV t 6 = 0 then .ring (fracV (takeT t 6) [1, 2, 1, 3]) else if takeV t 6 = 1 then .flute (angV (takeT t 6)) else mkLead (leadV (takeT t 6)) 0 (angV (leadT (takeT t 6)))
theorem Tk.of {α : Type} {n : Nat} {t : Tn} {xs : List α} (h : Tk n t) : Tk (n + 1) (ofT t xs) := h.take
theorem Tk.frac {n : Nat} {t : Tn} {bs : List Int} (h : Tk n t) : Tk (n + 2) (fracT t bs) := h.of.take
theorem Tk.ang {n : Nat} {t : Tn} (h : Tk n t) : Tk (n + 2) (angT t) := h.of.take
theorem Tk.lead {n : Nat} {t : Tn} (h : Tk n t) : Tk (n + 2) (leadT t) := h.of.take
theorem Tk.line {n : Nat} {t : Tn} (h : Tk n t) : Tk (n + 5) (lineT t) := by
  unfold lineT
  split
  · exact h.take.frac.mono (by omega)
  · split
    · exact h.take.ang.mono (by omega)
    · exact h.take.lead.ang.mono (by omega)
theorem angB_ok {t : Tn} : 1 ≤ ofV t angBs 1 ∧ ofV t angBs 1 ≤ 12 := by
  have := (ofV_mem (t := t) (xs := angBs) (d := 1) (by decide)).2
  revert this
  generalize ofV t angBs 1 = b
  intro h
  simp only [angBs, List.mem_cons, List.not_mem_nil, or_false] at h
  omega
theorem angV_bd (t : Tn) : Bd 4 (angV t) := by
  obtain ⟨h1, h2⟩ := angB_ok (t := t)
  have hr := takeV_rng (t := ofT t angBs) (b := ofV t angBs 1) (by omega)
  exact .divInt (by omega) (by omega) (by omega)
theorem divInt_rng {a b : Int} (hb : 0 < b) : (0 ≤ a → 0 ≤ Rat.divInt a b) ∧ (a < b → Rat.divInt a b < 1) := by
  have hb' : (0 : Rat) < (b : Rat) := by
    rw [show (0 : Rat) = ((0 : Int) : Rat) from rfl]
    exact Rat.intCast_lt_intCast.mpr hb
  have e : Rat.divInt a b * (b : Rat) = (a : Rat) := by rw [Rat.divInt_eq_div, Rat.div_mul_cancel (by grind)]
  refine ⟨fun h => ?_, fun h => ?_⟩
  · have ha : (0 : Rat) ≤ (a : Rat) := by
      rw [show (0 : Rat) = ((0 : Int) : Rat) from rfl]
      exact Rat.intCast_le_intCast.mpr h
    by_cases z : 0 ≤ Rat.divInt a b
    · exact z
    · have z : Rat.divInt a b < 0 := by grind
      have := Rat.mul_lt_mul_of_pos_right z hb'
      rw [e, Rat.zero_mul] at this
      grind
  · have ha : (a : Rat) < (b : Rat) := Rat.intCast_lt_intCast.mpr h
    by_cases z : Rat.divInt a b < 1
    · exact z
    · have z : 1 ≤ Rat.divInt a b := by grind
      have := Rat.mul_le_mul_of_nonneg_right z (show (0 : Rat) ≤ (b : Rat) by grind)
      rw [e, Rat.one_mul] at this
      grind
theorem angV_rng (t : Tn) : 0 ≤ angV t ∧ angV t < 1 := by
  obtain ⟨h1, h2⟩ := angB_ok (t := t)
  have hr := takeV_rng (t := ofT t angBs) (b := ofV t angBs 1) (by omega)
  exact ⟨(divInt_rng (by omega)).1 hr.1, (divInt_rng (by omega)).2 hr.2⟩
theorem leads_ok : ∀ q ∈ leads, Bd 3 q ∧ q ≠ 0 := by
  intro q hq
  simp only [leads, List.mem_cons, List.not_mem_nil, or_false] at hq
  rcases hq with h | h | h | h | h | h | h | h | h <;> subst h <;> exact ⟨⟨by decide, by decide⟩, fun z => absurd (congrArg Rat.num z) (by decide)⟩
theorem leadV_ok (t : Tn) : Bd 3 (leadV t) ∧ leadV t ≠ 0 := by
  obtain ⟨h1, h2⟩ := leads_ok _ (ofV_mem (t := t) (xs := leads) (d := 1) (by decide)).2
  unfold leadV
  split
  · exact ⟨h1, h2⟩
  · exact ⟨h1.neg, by grind⟩
theorem fracV_ok {t : Tn} {bs : List Int} (h0 : 0 < bs.length) (hb : ∀ b ∈ bs, 1 ≤ b ∧ b ≤ 4) : Bd 6 (fracV t bs) ∧ 0 ≤ fracV t bs := by
  obtain ⟨h1, h2⟩ := hb _ (ofV_mem (t := t) (xs := bs) (d := 1) h0).2
  have hr := takeV_rng (t := ofT t bs) (b := 4 * ofV t bs 1 + 1) (by omega)
  exact ⟨.divInt (by omega) (by omega) (by omega), (divInt_rng (by omega)).1 hr.1⟩
theorem bd0 : Bd 1 0 := ⟨by decide, by decide⟩
section
variable {P : Program} {w : World} {K : PySem.W.Frag} {mg : Str → Option Value} {base : Heap}
theorem df__law_fraction (G : Ge K mg) : Df P w K mg base "_law_fraction" 3 (fun eS t rS tS => ∃ (n : Nat) (bs : List Int), (Tk n t ∧ n < 900000 ∧ 0 < bs.length ∧ bs.length < 100 ∧ ∀ b ∈ bs, 1 ≤ b ∧ b ≤ 4) ∧ eS = [.tin, .v (.int 4), .v (.list (bs.map PyData.int))] ∧ rS = .d (encQ (fracV t bs)) ∧ tS = fracT t bs) := by
  refine mkD G 59 ["_law_tin", "_law_most_so", "_law_bottoms_so", "_law_bottom_so"] ["_law_tin", "_law_most_so", "_law_bottoms_so"] (by decide +kernel) ⟨rfl, rfl, rfl, by decide +kernel, rfl, by decide +kernel, by decide +kernel⟩ (fun f fd F => F.bindsN fun _ _ _ _ _ _ us hl => match us, hl with | [_, _, _], _ => rfl) (fun es t r t' h => by obtain ⟨_, _, _, rfl, _, _⟩ := h; rfl) ?_
  rintro p _ t _ _ ⟨n, bs, hP, rfl, rfl, rfl⟩
  obtain ⟨h1, h2, h3, h4, h5⟩ := hP
  have hm := ofV_mem (t := t) (xs := bs) (d := 1) h3
  obtain ⟨b1, b2⟩ := h5 _ hm.2
  refine ds_cons ?_
  refine ds_set 3 (de_call (df__law_of G) (da_tin 0 rfl (da_cons (de_n 2 rfl) da_nil)) ⟨n, bs.map PyData.int, .int (ofV t bs 1), ?_, rfl, rfl, rfl⟩ rfl (Nat.le_of_ble_eq_true rfl)) ?_
  · rw [List.length_map, List.getElem?_map, hm.1]
    exact ⟨h1, by omega, by omega, rfl, h3⟩
  rw [List.length_map]
  refine ds_one ?_
  refine ds_ret (de_call (df__law_part G) (da_cons (de_call (df__law_take G) (da_tin 0 rfl (da_cons (de_add (de_mulS (de_n 1 rfl) (de_n 3 rfl) ?_) de_int) da_nil)) ⟨n + 1, _, ?_, rfl, rfl, rfl⟩ rfl (Nat.le_of_ble_eq_true rfl)) (da_cons (de_n 3 rfl) da_nil)) ⟨_, _, ?_, rfl, rfl, rfl⟩ rfl (Nat.le_of_ble_eq_true rfl)) ⟨rfl, rfl⟩
  · left; decide
  · exact ⟨h1.take, by omega, by omega, by omega⟩
  · exact ⟨by omega, Nat.lt_of_lt_of_le (show (ofV t bs 1).natAbs < 2 ^ 4 by omega) (Nat.pow_le_pow_right (by decide) (by decide))⟩
theorem df__law_drawn_angle (G : Ge K mg) : Df P w K mg base "_law_drawn_angle" 3 (fun eS t rS tS => ∃ (n : Nat), (Tk n t ∧ n < 900000) ∧ eS = [.tin] ∧ rS = .d (encQ (angV t)) ∧ tS = angT t) := by
  refine mkD G 60 ["_law_tin", "_law_bottom_so"] ["_law_tin"] (by decide +kernel) ⟨rfl, rfl, rfl, by decide +kernel, rfl, by decide +kernel, by decide +kernel⟩ (fun f fd F => F.bindsN fun _ _ _ _ _ _ us hl => match us, hl with | [_], _ => rfl) (fun es t r t' h => by obtain ⟨_, _, rfl, _, _⟩ := h; rfl) ?_
  rintro p _ t _ _ ⟨n, hP, rfl, rfl, rfl⟩
  obtain ⟨h1, h2⟩ := hP
  obtain ⟨b1, b2⟩ := angB_ok (t := t)
  have hm := ofV_mem (t := t) (xs := angBs) (d := 1) (by decide)
  refine ds_cons ?_
  refine ds_set 1 (de_call (df__law_of G) (da_tin 0 rfl (da_cons (DN.frz (dn_lst (ds := angBs.map PyData.int) (da_cons de_int (da_cons de_int (da_cons de_int (da_cons de_int (da_cons de_int (da_cons de_int (da_cons de_int (da_cons de_int (da_cons de_int da_nil))))))))) (Nat.le_of_ble_eq_true rfl))) da_nil)) ⟨n, angBs.map PyData.int, .int (ofV t angBs 1), ?_, rfl, rfl, rfl⟩ rfl (Nat.le_of_ble_eq_true rfl)) ?_
  · refine ⟨h1, by omega, by decide, ?_, by decide⟩
    rw [List.length_map, List.getElem?_map, hm.1]
    rfl
  refine ds_one ?_
  refine ds_ret (de_call (df__law_part G) (da_cons (de_call (df__law_take G) (da_tin 0 rfl (da_cons (de_n 1 rfl) da_nil)) ⟨n + 1, _, ?_, rfl, rfl, rfl⟩ rfl (Nat.le_of_ble_eq_true rfl)) (da_cons (de_n 1 rfl) da_nil)) ⟨_, _, ?_, rfl, rfl, rfl⟩ rfl (Nat.le_of_ble_eq_true rfl)) ⟨rfl, rfl⟩
  · exact ⟨h1.take, by omega, by omega, by omega⟩
  · exact ⟨by omega, Nat.lt_of_lt_of_le (show (ofV t angBs 1).natAbs < 2 ^ 4 by omega) (Nat.pow_le_pow_right (by decide) (by decide))⟩
theorem df__law_drawn_lead (G : Ge K mg) : Df P w K mg base "_law_drawn_lead" 3 (fun eS t rS tS => ∃ (n : Nat), (Tk n t ∧ n < 900000) ∧ eS = [.tin] ∧ rS = .d (encQ (leadV t)) ∧ tS = leadT t) := by
  refine mkD G 61 ["_law_tin", "_law_own"] ["_law_tin"] (by decide +kernel) ⟨rfl, rfl, rfl, by decide +kernel, rfl, by decide +kernel, by decide +kernel⟩ (fun f fd F => F.bindsN fun _ _ _ _ _ _ us hl => match us, hl with | [_], _ => rfl) (fun es t r t' h => by obtain ⟨_, _, rfl, _, _⟩ := h; rfl) ?_
  rintro p _ t _ _ ⟨n, hP, rfl, rfl, rfl⟩
  obtain ⟨h1, h2⟩ := hP
  have hm := ofV_mem (t := t) (xs := leads) (d := 1) (by decide)
  refine ds_cons ?_
  refine ds_set 1 (de_call (df__law_of G) (da_tin 0 rfl (da_cons (DN.frz (dn_lst (ds := leads.map encQ) (da_cons (de_tup2 de_int de_int) (da_cons (de_tup2 de_int de_int) (da_cons (de_tup2 de_int de_int) (da_cons (de_tup2 de_int de_int) (da_cons (de_tup2 de_int de_int) (da_cons (de_tup2 de_int de_int) (da_cons (de_tup2 de_int de_int) (da_cons (de_tup2 de_int de_int) (da_cons (de_tup2 de_int de_int) da_nil))))))))) (Nat.le_of_ble_eq_true rfl))) da_nil)) ⟨n, leads.map encQ, encQ (ofV t leads 1), ?_, rfl, rfl, rfl⟩ rfl (Nat.le_of_ble_eq_true rfl)) ?_
  · refine ⟨h1, by omega, by decide, ?_, by decide⟩
    rw [List.length_map, List.getElem?_map, hm.1]
    rfl
  refine ds_one ?_
  have hif : encQ (leadV t) = if 0 < takeV (ofT t leads) 3 then encQ (ofV t leads 1) else encQ (-ofV t leads 1) := by
    unfold leadV
    split <;> rfl
  refine ds_ret (de_if (d := encQ (leadV t)) (dt_cmp (dc_gt (de_call (df__law_take G) (da_tin 0 rfl (da_cons de_int da_nil)) ⟨n + 1, _, ?_, rfl, rfl, rfl⟩ rfl (Nat.le_of_ble_eq_true rfl)) de_int)) (fun h => DE.as (de_n 1 rfl) ?_) (fun h => DE.as (de_call (df__law_minus G) (da_cons (de_n 1 rfl) da_nil) ⟨_, rfl, rfl, rfl⟩ rfl (Nat.le_of_ble_eq_true rfl)) ?_)) ⟨rfl, rfl⟩
  · exact ⟨h1.take, by omega, by decide, by decide⟩
  · have h : 0 < takeV (ofT t leads) 3 := of_decide_eq_true h
    rw [hif, if_pos h]
  · have h : ¬ 0 < takeV (ofT t leads) 3 := of_decide_eq_false h
    rw [hif, if_neg h]
theorem df__law_lead_line (G : Ge K mg) : Df P w K mg base "_law_lead_line" 6 (fun eS t rS tS => ∃ (l pl a : Rat), (Bd 3 l ∧ l ≠ 0 ∧ Bd 10 pl ∧ Bd 10 a) ∧ eS = [.v (encQ l), .v (encQ pl), .v (encQ a)] ∧ rS = .d (encL (mkLead l pl a)) ∧ tS = t) := by
  refine mkD G 62 ["_law_lead_so", "_law_place_so", "_law_angle_so"] ["_law_lead_so", "_law_place_so", "_law_angle_so"] (by decide +kernel) ⟨rfl, rfl, rfl, by decide +kernel, rfl, by decide +kernel, by decide +kernel⟩ (fun f fd F => F.bindsN fun _ _ _ _ _ _ us hl => match us, hl with | [_, _, _], _ => rfl) (fun es t r t' h => by obtain ⟨_, _, _, _, rfl, _, _⟩ := h; rfl) ?_
  rintro p _ t0 _ t ⟨l, pl, a, hP, rfl, rfl, rfl⟩
  obtain ⟨h1, h2, h3, h4⟩ := hP
  (refine ds_one ?_; refine ds_ret (de_tup3 de_str (de_n 0 rfl) (de_call (df__law_round G) (da_cons (de_call (df__law_less G) (da_cons (de_n 1 rfl) (da_cons (de_call (df__law_prod G) (da_cons (de_n 0 rfl) (da_cons (de_n 2 rfl) da_nil)) ⟨_, _, ?_, rfl, rfl, rfl⟩ rfl (Nat.le_of_ble_eq_true rfl)) da_nil)) ⟨_, _, ?_, rfl, rfl, rfl⟩ rfl (Nat.le_of_ble_eq_true rfl)) (da_cons (de_n 0 rfl) da_nil)) ⟨_, _, ?_, rfl, rfl, rfl⟩ rfl (Nat.le_of_ble_eq_true rfl))) ?_)
  · exact ⟨h1.mono, h4.mono⟩
  · exact ⟨h3.mono, (h1.mul h4).mono⟩
  · exact ⟨(h3.sub (h1.mul h4)).mono, h1.mono, h2⟩
  · exact ⟨rfl, rfl⟩
theorem df__law_line (G : Ge K mg) : Df P w K mg base "_law_line" 7 (fun eS t rS tS => ∃ (n : Nat), (Tk n t ∧ n < 800000) ∧ eS = [.tin] ∧ rS = .d (encL (lineV t)) ∧ tS = lineT t) := by
  refine mkD G 63 ["_law_tin", "_law_kind_so", "_law_lead_so"] ["_law_tin"] (by decide +kernel) ⟨rfl, rfl, rfl, by decide +kernel, rfl, by decide +kernel, by decide +kernel⟩ (fun f fd F => F.bindsN fun _ _ _ _ _ _ us hl => match us, hl with | [_], _ => rfl) (fun es t r t' h => by obtain ⟨_, _, rfl, _, _⟩ := h; rfl) ?_
  rintro p _ t _ _ ⟨n, hP, rfl, rfl, rfl⟩
  obtain ⟨h1, h2⟩ := hP
  refine ds_cons ?_
  refine ds_set 1 (de_call (df__law_take G) (da_tin 0 rfl (da_cons de_int da_nil)) ⟨n, _, ⟨h1, by omega, by decide, by decide⟩, rfl, rfl, rfl⟩ rfl (Nat.le_of_ble_eq_true rfl)) ?_
  refine ds_cons ?_
  refine ds_if (DT.is (dt_cmp (dc_eq (DE.rd (de_n 1 rfl)) (DE.rd de_int) rfl rfl)) (eqv_int _ _)) (fun h => ?_) fun h => ?_
  · have h : takeV t 6 = 0 := of_decide_eq_true h
    refine ds_one ?_
    refine ds_ret (de_tup2 de_str (de_call (df__law_fraction G) (da_tin 0 rfl (da_cons de_int (da_cons (DN.frz (dn_lst (ds := ([1, 2, 1, 3] : List Int).map PyData.int) (da_cons de_int (da_cons de_int (da_cons de_int (da_cons de_int da_nil)))) (Nat.le_of_ble_eq_true rfl))) da_nil))) ⟨n + 1, [1, 2, 1, 3], ?_, rfl, rfl, rfl⟩ rfl (Nat.le_of_ble_eq_true rfl))) ?_
    · exact ⟨h1.take, by omega, by decide, by decide, by decide⟩
    · unfold lineV lineT
      rw [if_pos h, if_pos h]
      exact ⟨rfl, rfl⟩
  have h : ¬ takeV t 6 = 0 := of_decide_eq_false h
  refine ds_nil ?_
  refine ds_cons ?_
  refine ds_if (DT.is (dt_cmp (dc_eq (DE.rd (de_n 1 rfl)) (DE.rd de_int) rfl rfl)) (eqv_int _ _)) (fun h3 => ?_) fun h3 => ?_
  · have h3 : takeV t 6 = 1 := of_decide_eq_true h3
    refine ds_one ?_
    refine ds_ret (de_tup2 de_str (de_call (df__law_drawn_angle G) (da_tin 0 rfl da_nil) ⟨n + 1, ?_, rfl, rfl, rfl⟩ rfl (Nat.le_of_ble_eq_true rfl))) ?_
    · exact ⟨h1.take, by omega⟩
    · unfold lineV lineT
      rw [if_neg h, if_neg h, if_pos h3, if_pos h3]
      exact ⟨rfl, rfl⟩
  have h3 : ¬ takeV t 6 = 1 := of_decide_eq_false h3
  refine ds_nil ?_
  refine ds_cons ?_
  refine ds_set 2 (de_call (df__law_drawn_lead G) (da_tin 0 rfl da_nil) ⟨n + 1, ⟨h1.take, by omega⟩, rfl, rfl, rfl⟩ rfl (Nat.le_of_ble_eq_true rfl)) ?_
  refine ds_one ?_
  obtain ⟨l1, l2⟩ := leadV_ok (takeT t 6)
  refine ds_ret (de_call (df__law_lead_line G) (da_cons (de_n 2 rfl) (da_cons (DE.as (d' := encQ 0) (de_tup2 de_int de_int) rfl) (da_cons (de_call (df__law_drawn_angle G) (da_tin 0 rfl da_nil) ⟨n + 3, ?_, rfl, rfl, rfl⟩ rfl (Nat.le_of_ble_eq_true rfl)) da_nil))) ⟨_, _, _, ?_, rfl, rfl, rfl⟩ rfl (Nat.le_of_ble_eq_true rfl)) ?_
  · exact ⟨h1.take.lead, by omega⟩
  · exact ⟨l1, l2, bd0.mono, (angV_bd _).mono⟩
  · unfold lineV lineT
    rw [if_neg h, if_neg h, if_neg h3, if_neg h3]
    exact ⟨rfl, rfl⟩
end
end Sc

/-! E16 -/
set_option Elab.async false
set_option linter.all false
set_option maxRecDepth 100000
namespace Sc
open PySem PySem.Spec PyProof.Rows L2 Evl
def onL (x a : Rat) : Ln → Bool
  | .ring q => decide (x = q)
  | .flute q => decide (a = q)
  | .lead l p => decide ((((x - l * a - p) / l).den : Int) = 1)
def encO : Option Gr → PD
  | none => .none
  | some g => encG g
def grooveE (len : Rat) (l : Ln) (d : Int) (es : List Rat) : Gr := match es with
  | [a, b] => if len < b then ⟨l, 0, len, d⟩ else ⟨l, a, b, d⟩
  | _ => ⟨l, 0, len, d⟩
def nearV (t : Tn) : Rat := fracV t [1, 2, 4]
def farV (t : Tn) : Rat := fracV (fracT t [1, 2, 4]) [1, 2, 3]
def nfT (t : Tn) : Tn := fracT (fracT t [1, 2, 4]) [1, 2, 3]
def grooveV (t : Tn) (len : Rat) (l : Ln) : Option Gr := match l with
  | .ring q => if len < q then none else some ⟨l, q, q, 1 + takeV t 4⟩
  | _ => if takeV (takeT t 4) 3 = 0 then some (grooveE len l (1 + takeV t 4) (ascQ [nearV (takeT (takeT t 4) 3), farV (takeT (takeT t 4) 3)])) else some ⟨l, 0, len, 1 + takeV t 4⟩
def grooveT (t : Tn) (l : Ln) : Tn := match l with
  | .ring _ => takeT t 4
  | _ => if takeV (takeT t 4) 3 = 0 then nfT (takeT (takeT t 4) 3) else takeT (takeT t 4) 3
theorem grooveE2 (len : Rat) (l : Ln) (d : Int) (a b : Rat) : grooveE len l d [a, b] = if len < b then ⟨l, 0, len, d⟩ else ⟨l, a, b, d⟩ := rfl
theorem Tk.groove {n : Nat} {t : Tn} {l : Ln} (h : Tk n t) : Tk (n + 6) (grooveT t l) := by
  cases l with
  | ring q => exact h.take.mono (by omega)
  | flute q =>
    unfold grooveT
    dsimp only
    split
    · exact h.take.take.frac.frac
    · exact h.take.take.mono (by omega)
  | lead l q =>
    unfold grooveT
    dsimp only
    split
    · exact h.take.take.frac.frac
    · exact h.take.take.mono (by omega)
section
variable {P : Program} {w : World} {K : PySem.W.Frag} {mg : Str → Option Value} {base : Heap}
theorem df__law_on (G : Ge K mg) : Df P w K mg base "_law_on" 5 (fun eS t rS tS => ∃ (l : Ln) (x a : Rat), (BdL 400 l ∧ Bd 50 x ∧ Bd 50 a) ∧ eS = [.v (encL l), .v (.tuple [encQ x, encQ a])] ∧ rS = .d (.bool (onL x a l)) ∧ tS = t) := by
  refine mkD G 64 ["_law_line_so", "_law_point_so", "_law_own"] ["_law_line_so", "_law_point_so"] (by decide +kernel) ⟨rfl, rfl, rfl, by decide +kernel, rfl, by decide +kernel, by decide +kernel⟩ (fun f fd F => F.bindsN fun _ _ _ _ _ _ us hl => match us, hl with | [_, _], _ => rfl) (fun es t r t' h => by obtain ⟨_, _, _, _, rfl, _, _⟩ := h; rfl) ?_
  rintro p _ t0 _ t ⟨l, x, a, hP, rfl, rfl, rfl⟩
  obtain ⟨hl, hx, ha⟩ := hP
  cases l with
  | ring q =>
    (refine ds_cons ?_; refine ds_ifT (dt_cmp (dc_eq (DE.rd (de_ix (DE.tup (de_n 0 rfl)) de_int rfl)) (DE.rd de_str) (by decide +kernel) (by decide +kernel))) (by decide +kernel) ?_)
    refine ds_one ?_
    exact ds_ret (de_cmp (dc_eq (DE.rd (de_ix (DE.tup (de_n 1 rfl)) de_int rfl)) (DE.rd (de_ix (DE.tup (de_n 0 rfl)) de_int rfl)) rfl rfl)) ⟨by rw [eqv_dec (fun _ _ => encQ_inj) nb_Q]; rfl, rfl⟩
  | flute q =>
    (refine ds_cons ?_; refine ds_ifF (dt_cmp (dc_eq (DE.rd (de_ix (DE.tup (de_n 0 rfl)) de_int rfl)) (DE.rd de_str) (by decide +kernel) (by decide +kernel))) (by decide +kernel) ?_)
    refine ds_nil ?_
    (refine ds_cons ?_; refine ds_ifT (dt_cmp (dc_eq (DE.rd (de_ix (DE.tup (de_n 0 rfl)) de_int rfl)) (DE.rd de_str) (by decide +kernel) (by decide +kernel))) (by decide +kernel) ?_)
    refine ds_one ?_
    exact ds_ret (de_cmp (dc_eq (DE.rd (de_ix (DE.tup (de_n 1 rfl)) de_int rfl)) (DE.rd (de_ix (DE.tup (de_n 0 rfl)) de_int rfl)) rfl rfl)) ⟨by rw [eqv_dec (fun _ _ => encQ_inj) nb_Q]; rfl, rfl⟩
  | lead l q =>
    obtain ⟨h1, h2, h3⟩ := hl
    (refine ds_cons ?_; refine ds_ifF (dt_cmp (dc_eq (DE.rd (de_ix (DE.tup (de_n 0 rfl)) de_int rfl)) (DE.rd de_str) (by decide +kernel) (by decide +kernel))) (by decide +kernel) ?_)
    refine ds_nil ?_
    (refine ds_cons ?_; refine ds_ifF (dt_cmp (dc_eq (DE.rd (de_ix (DE.tup (de_n 0 rfl)) de_int rfl)) (DE.rd de_str) (by decide +kernel) (by decide +kernel))) (by decide +kernel) ?_)
    refine ds_nil ?_
    (refine ds_cons ?_; refine ds_set 2 (de_call (df__law_less G) (da_cons (de_call (df__law_less G) (da_cons (de_ix (DE.tup (de_n 1 rfl)) de_int rfl) (da_cons (de_call (df__law_prod G) (da_cons (de_ix (DE.tup (de_n 0 rfl)) de_int rfl) (da_cons (de_ix (DE.tup (de_n 1 rfl)) de_int rfl) da_nil)) ⟨_, _, ?_, rfl, rfl, rfl⟩ rfl (Nat.le_of_ble_eq_true rfl)) da_nil)) ⟨_, _, ?_, rfl, rfl, rfl⟩ rfl (Nat.le_of_ble_eq_true rfl)) (da_cons (de_ix (DE.tup (de_n 0 rfl)) de_int rfl) da_nil)) ⟨_, _, ?_, rfl, rfl, rfl⟩ rfl (Nat.le_of_ble_eq_true rfl)) ?_)
    · exact ⟨h1.mono, ha.mono⟩
    · exact ⟨hx.mono, (h1.mul ha).mono⟩
    · exact ⟨(hx.sub (h1.mul ha)).mono, h3.mono⟩
    refine ds_one ?_
    refine ds_ret (de_cmp (dc_eq (DE.rd (de_ix (DE.tup (de_call (df__law_quot G) (da_cons (de_n 2 rfl) (da_cons (de_ix (DE.tup (de_n 0 rfl)) de_int rfl) da_nil)) ⟨_, _, ?_, rfl, rfl, rfl⟩ rfl (Nat.le_of_ble_eq_true rfl))) de_int rfl)) (DE.rd de_int) rfl rfl)) ⟨by rw [eqv_int]; rfl, rfl⟩
    exact ⟨((hx.sub (h1.mul ha)).sub h3).mono, h1.mono, h2⟩
theorem df__law_moved_line (G : Ge K mg) : Df P w K mg base "_law_moved_line" 6 (fun eS t rS tS => ∃ (l : Ln) (sh tn : Rat), (BdL 400 l ∧ Bd 10 sh ∧ Bd 810 tn) ∧ eS = [.v (encL l), .v (.tuple [encQ sh, encQ tn])] ∧ rS = .d (encL (l.moved sh tn)) ∧ tS = t) := by
  refine mkD G 65 ["_law_line_so", "_law_motion_so", "_law_own"] ["_law_line_so", "_law_motion_so"] (by decide +kernel) ⟨rfl, rfl, rfl, by decide +kernel, rfl, by decide +kernel, by decide +kernel⟩ (fun f fd F => F.bindsN fun _ _ _ _ _ _ us hl => match us, hl with | [_, _], _ => rfl) (fun es t r t' h => by obtain ⟨_, _, _, _, rfl, _, _⟩ := h; rfl) ?_
  rintro p _ t0 _ t ⟨l, sh, tn, hP, rfl, rfl, rfl⟩
  obtain ⟨hl, hs, ht⟩ := hP
  cases l with
  | ring q =>
    (refine ds_cons ?_; refine ds_ifT (dt_cmp (dc_eq (DE.rd (de_ix (DE.tup (de_n 0 rfl)) de_int rfl)) (DE.rd de_str) (by decide +kernel) (by decide +kernel))) (by decide +kernel) ?_)
    (refine ds_one ?_; refine ds_ret (de_tup2 de_str (de_call (df__law_sum G) (da_cons (de_ix (DE.tup (de_n 0 rfl)) de_int rfl) (da_cons (de_ix (DE.tup (de_n 1 rfl)) de_int rfl) da_nil)) ⟨_, _, ?_, rfl, rfl, rfl⟩ rfl (Nat.le_of_ble_eq_true rfl))) ?_)
    · exact ⟨Bd.mono hl, hs.mono⟩
    · exact ⟨rfl, rfl⟩
  | flute q =>
    (refine ds_cons ?_; refine ds_ifF (dt_cmp (dc_eq (DE.rd (de_ix (DE.tup (de_n 0 rfl)) de_int rfl)) (DE.rd de_str) (by decide +kernel) (by decide +kernel))) (by decide +kernel) ?_)
    refine ds_nil ?_
    (refine ds_cons ?_; refine ds_ifT (dt_cmp (dc_eq (DE.rd (de_ix (DE.tup (de_n 0 rfl)) de_int rfl)) (DE.rd de_str) (by decide +kernel) (by decide +kernel))) (by decide +kernel) ?_)
    (refine ds_one ?_; refine ds_ret (de_tup2 de_str (de_call (df__law_angle G) (da_cons (de_call (df__law_sum G) (da_cons (de_ix (DE.tup (de_n 0 rfl)) de_int rfl) (da_cons (de_ix (DE.tup (de_n 1 rfl)) de_int rfl) da_nil)) ⟨_, _, ?_, rfl, rfl, rfl⟩ rfl (Nat.le_of_ble_eq_true rfl)) da_nil) ⟨_, rfl, rfl, rfl⟩ rfl (Nat.le_of_ble_eq_true rfl))) ?_)
    · exact ⟨Bd.mono hl, ht.mono⟩
    · exact ⟨rfl, rfl⟩
  | lead l q =>
    obtain ⟨h1, h2, h3⟩ := hl
    (refine ds_cons ?_; refine ds_ifF (dt_cmp (dc_eq (DE.rd (de_ix (DE.tup (de_n 0 rfl)) de_int rfl)) (DE.rd de_str) (by decide +kernel) (by decide +kernel))) (by decide +kernel) ?_)
    refine ds_nil ?_
    (refine ds_cons ?_; refine ds_ifF (dt_cmp (dc_eq (DE.rd (de_ix (DE.tup (de_n 0 rfl)) de_int rfl)) (DE.rd de_str) (by decide +kernel) (by decide +kernel))) (by decide +kernel) ?_)
    refine ds_nil ?_
    (refine ds_cons ?_; refine ds_set 2 (de_call (df__law_less G) (da_cons (de_call (df__law_sum G) (da_cons (de_ix (DE.tup (de_n 0 rfl)) de_int rfl) (da_cons (de_ix (DE.tup (de_n 1 rfl)) de_int rfl) da_nil)) ⟨_, _, ?_, rfl, rfl, rfl⟩ rfl (Nat.le_of_ble_eq_true rfl)) (da_cons (de_call (df__law_prod G) (da_cons (de_ix (DE.tup (de_n 0 rfl)) de_int rfl) (da_cons (de_ix (DE.tup (de_n 1 rfl)) de_int rfl) da_nil)) ⟨_, _, ?_, rfl, rfl, rfl⟩ rfl (Nat.le_of_ble_eq_true rfl)) da_nil)) ⟨_, _, ?_, rfl, rfl, rfl⟩ rfl (Nat.le_of_ble_eq_true rfl)) ?_)
    · exact ⟨h3.mono, hs.mono⟩
    · exact ⟨h1.mono, ht.mono⟩
    · exact ⟨(h3.add hs).mono, (h1.mul ht).mono⟩
    (refine ds_one ?_; refine ds_ret (de_tup3 de_str (de_ix (DE.tup (de_n 0 rfl)) de_int rfl) (de_call (df__law_round G) (da_cons (de_n 2 rfl) (da_cons (de_ix (DE.tup (de_n 0 rfl)) de_int rfl) da_nil)) ⟨_, _, ?_, rfl, rfl, rfl⟩ rfl (Nat.le_of_ble_eq_true rfl))) ?_)
    · exact ⟨((h3.add hs).sub (h1.mul ht)).mono, h1.mono, h2⟩
    · exact ⟨rfl, rfl⟩
theorem df__law_mirrored_line (G : Ge K mg) : Df P w K mg base "_law_mirrored_line" 2 (fun eS t rS tS => ∃ (l : Ln), eS = [.v (encL l)] ∧ rS = .d (encL l.mirr) ∧ tS = t) := by
  refine mkD G 66 ["_law_line_so"] ["_law_line_so"] (by decide +kernel) ⟨rfl, rfl, rfl, by decide +kernel, rfl, by decide +kernel, by decide +kernel⟩ (fun f fd F => F.bindsN fun _ _ _ _ _ _ us hl => match us, hl with | [_], _ => rfl) (fun es t r t' h => by obtain ⟨_, rfl, _, _⟩ := h; rfl) ?_
  rintro p _ t0 _ t ⟨l, rfl, rfl, rfl⟩
  cases l with
  | ring q =>
    (refine ds_cons ?_; refine ds_ifT (dt_cmp (dc_eq (DE.rd (de_ix (DE.tup (de_n 0 rfl)) de_int rfl)) (DE.rd de_str) (by decide +kernel) (by decide +kernel))) (by decide +kernel) ?_)
    (refine ds_one ?_; refine ds_ret (de_n 0 rfl) ?_)
    exact ⟨rfl, rfl⟩
  | flute q =>
    (refine ds_cons ?_; refine ds_ifF (dt_cmp (dc_eq (DE.rd (de_ix (DE.tup (de_n 0 rfl)) de_int rfl)) (DE.rd de_str) (by decide +kernel) (by decide +kernel))) (by decide +kernel) ?_)
    refine ds_nil ?_
    (refine ds_cons ?_; refine ds_ifT (dt_cmp (dc_eq (DE.rd (de_ix (DE.tup (de_n 0 rfl)) de_int rfl)) (DE.rd de_str) (by decide +kernel) (by decide +kernel))) (by decide +kernel) ?_)
    (refine ds_one ?_; refine ds_ret (de_tup2 de_str (de_call (df__law_angle G) (da_cons (de_call (df__law_minus G) (da_cons (de_ix (DE.tup (de_n 0 rfl)) de_int rfl) da_nil) ⟨_, rfl, rfl, rfl⟩ rfl (Nat.le_of_ble_eq_true rfl)) da_nil) ⟨_, rfl, rfl, rfl⟩ rfl (Nat.le_of_ble_eq_true rfl))) ?_)
    exact ⟨rfl, rfl⟩
  | lead l q =>
    (refine ds_cons ?_; refine ds_ifF (dt_cmp (dc_eq (DE.rd (de_ix (DE.tup (de_n 0 rfl)) de_int rfl)) (DE.rd de_str) (by decide +kernel) (by decide +kernel))) (by decide +kernel) ?_)
    refine ds_nil ?_
    (refine ds_cons ?_; refine ds_ifF (dt_cmp (dc_eq (DE.rd (de_ix (DE.tup (de_n 0 rfl)) de_int rfl)) (DE.rd de_str) (by decide +kernel) (by decide +kernel))) (by decide +kernel) ?_)
    refine ds_nil ?_
    (refine ds_one ?_; refine ds_ret (de_tup3 de_str (de_call (df__law_minus G) (da_cons (de_ix (DE.tup (de_n 0 rfl)) de_int rfl) da_nil) ⟨_, rfl, rfl, rfl⟩ rfl (Nat.le_of_ble_eq_true rfl)) (de_ix (DE.tup (de_n 0 rfl)) de_int rfl)) ?_)
    exact ⟨rfl, rfl⟩
theorem df__law_sort (G : Ge K mg) : Df P w K mg base "_law_sort" 1 (fun eS t rS tS => ∃ (l : Ln), eS = [.v (encL l)] ∧ rS = .d (encSo l) ∧ tS = t) := by
  refine mkD G 71 ["_law_line_so"] ["_law_line_so"] (by decide +kernel) ⟨rfl, rfl, rfl, by decide +kernel, rfl, by decide +kernel, by decide +kernel⟩ (fun f fd F => F.bindsN fun _ _ _ _ _ _ us hl => match us, hl with | [_], _ => rfl) (fun es t r t' h => by obtain ⟨_, rfl, _, _⟩ := h; rfl) ?_
  rintro p _ t0 _ t ⟨l, rfl, rfl, rfl⟩
  refine ds_one ?_
  cases l with
  | ring q => exact ds_ret (de_if (c := false) (DT.is (dt_cmp (dc_eq (DE.rd (de_ix (DE.tup (de_n 0 rfl)) de_int rfl)) (DE.rd de_str) (by decide +kernel) (by decide +kernel))) (by decide +kernel)) (fun h => (by cases h)) fun _ => (de_slT (de_n 0 rfl) dpt_none (dpt_some de_int))) ⟨rfl, rfl⟩
  | flute q => exact ds_ret (de_if (c := false) (DT.is (dt_cmp (dc_eq (DE.rd (de_ix (DE.tup (de_n 0 rfl)) de_int rfl)) (DE.rd de_str) (by decide +kernel) (by decide +kernel))) (by decide +kernel)) (fun h => (by cases h)) fun _ => (de_slT (de_n 0 rfl) dpt_none (dpt_some de_int))) ⟨rfl, rfl⟩
  | lead l q => exact ds_ret (de_if (c := true) (DT.is (dt_cmp (dc_eq (DE.rd (de_ix (DE.tup (de_n 0 rfl)) de_int rfl)) (DE.rd de_str) (by decide +kernel) (by decide +kernel))) (by decide +kernel)) (fun _ => (de_slT (de_n 0 rfl) dpt_none (dpt_some de_int))) (fun h => (by cases h))) ⟨rfl, rfl⟩
theorem df__law_ended_line (G : Ge K mg) : Df P w K mg base "_law_ended_line" 6 (fun eS t rS tS => ∃ (l : Ln) (far : Rat), (BdL 400 l ∧ Bd 50 far) ∧ eS = [.v (encL l), .v (encQ far)] ∧ rS = .d (encL (l.ended far)) ∧ tS = t) := by
  refine mkD G 73 ["_law_line_so", "_law_length_so", "_law_own"] ["_law_line_so", "_law_length_so"] (by decide +kernel) ⟨rfl, rfl, rfl, by decide +kernel, rfl, by decide +kernel, by decide +kernel⟩ (fun f fd F => F.bindsN fun _ _ _ _ _ _ us hl => match us, hl with | [_, _], _ => rfl) (fun es t r t' h => by obtain ⟨_, _, _, rfl, _, _⟩ := h; rfl) ?_
  rintro p _ t0 _ t ⟨l, far, hP, rfl, rfl, rfl⟩
  obtain ⟨hl, hf⟩ := hP
  cases l with
  | flute q =>
    (refine ds_cons ?_; refine ds_ifT (dt_cmp (dc_eq (DE.rd (de_ix (DE.tup (de_n 0 rfl)) de_int rfl)) (DE.rd de_str) (by decide +kernel) (by decide +kernel))) (by decide +kernel) ?_)
    (refine ds_one ?_; refine ds_ret (de_tup2 de_str (de_call (df__law_angle G) (da_cons (de_call (df__law_minus G) (da_cons (de_ix (DE.tup (de_n 0 rfl)) de_int rfl) da_nil) ⟨_, rfl, rfl, rfl⟩ rfl (Nat.le_of_ble_eq_true rfl)) da_nil) ⟨_, rfl, rfl, rfl⟩ rfl (Nat.le_of_ble_eq_true rfl))) ?_)
    exact ⟨rfl, rfl⟩
  | ring q =>
    (refine ds_cons ?_; refine ds_ifF (dt_cmp (dc_eq (DE.rd (de_ix (DE.tup (de_n 0 rfl)) de_int rfl)) (DE.rd de_str) (by decide +kernel) (by decide +kernel))) (by decide +kernel) ?_)
    refine ds_nil ?_
    (refine ds_cons ?_; refine ds_set 2 (de_call (df__law_less G) (da_cons (de_n 1 rfl) (da_cons (de_ix (DE.tup (de_n 0 rfl)) (de_neg de_int) rfl) da_nil)) ⟨_, _, ?_, rfl, rfl, rfl⟩ rfl (Nat.le_of_ble_eq_true rfl)) ?_)
    · exact ⟨hf.mono, Bd.mono hl⟩
    refine ds_one ?_
    exact ds_ret (de_if (c := true) (DT.is (dt_cmp (dc_eq (DE.rd (de_ix (DE.tup (de_n 0 rfl)) de_int rfl)) (DE.rd de_str) (by decide +kernel) (by decide +kernel))) (by decide +kernel)) (fun _ => (de_tup2 de_str (de_n 2 rfl))) (fun h => (by cases h))) ⟨rfl, rfl⟩
  | lead l q =>
    obtain ⟨h1, h2, h3⟩ := hl
    (refine ds_cons ?_; refine ds_ifF (dt_cmp (dc_eq (DE.rd (de_ix (DE.tup (de_n 0 rfl)) de_int rfl)) (DE.rd de_str) (by decide +kernel) (by decide +kernel))) (by decide +kernel) ?_)
    refine ds_nil ?_
    (refine ds_cons ?_; refine ds_set 2 (de_call (df__law_less G) (da_cons (de_n 1 rfl) (da_cons (de_ix (DE.tup (de_n 0 rfl)) (de_neg de_int) rfl) da_nil)) ⟨_, _, ?_, rfl, rfl, rfl⟩ rfl (Nat.le_of_ble_eq_true rfl)) ?_)
    · exact ⟨hf.mono, h3.mono⟩
    refine ds_one ?_
    refine ds_ret (de_if (c := false) (DT.is (dt_cmp (dc_eq (DE.rd (de_ix (DE.tup (de_n 0 rfl)) de_int rfl)) (DE.rd de_str) (by decide +kernel) (by decide +kernel))) (by decide +kernel)) (fun h => (by cases h)) (fun _ => (de_catT (de_slT (de_n 0 rfl) dpt_none (dpt_some de_int)) (de_tup1 (de_call (df__law_round G) (da_cons (de_n 2 rfl) (da_cons (de_ix (DE.tup (de_n 0 rfl)) de_int rfl) da_nil)) ⟨_, _, ?_, rfl, rfl, rfl⟩ rfl (Nat.le_of_ble_eq_true rfl))) (Nat.le_of_ble_eq_true rfl)))) ⟨rfl, rfl⟩
    exact ⟨(hf.sub h3).mono, h1.mono, h2⟩
theorem df__law_groove (G : Ge K mg) : Df P w K mg base "_law_groove" 4 (fun eS t rS tS => ∃ (n : Nat) (len : Rat) (l : Ln), (Tk n t ∧ n < 800000 ∧ Bd 3 len ∧ BdL 400 l) ∧ eS = [.tin, .v (encQ len), .v (encL l)] ∧ rS = .d (encO (grooveV t len l)) ∧ tS = grooveT t l) := by
  refine mkD G 67 ["_law_tin", "_law_length_so", "_law_line_so", "_law_depth_so", "_law_near_so", "_law_far_so", "_law_ends_so"] ["_law_tin", "_law_length_so", "_law_line_so"] (by decide +kernel) ⟨rfl, rfl, rfl, by decide +kernel, rfl, by decide +kernel, by decide +kernel⟩ (fun f fd F => F.bindsN fun _ _ _ _ _ _ us hl => match us, hl with | [_, _, _], _ => rfl) (fun es t r t' h => by obtain ⟨_, _, _, _, rfl, _, _⟩ := h; rfl) ?_
  rintro p _ t _ _ ⟨n, len, l, hP, rfl, rfl, rfl⟩
  obtain ⟨h1, h2, hle, hl⟩ := hP
  refine ds_cons ?_
  refine ds_set 3 (de_add de_int (de_call (df__law_take G) (da_tin 0 rfl (da_cons de_int da_nil)) ⟨n, _, ⟨h1, by omega, by decide, by decide⟩, rfl, rfl, rfl⟩ rfl (Nat.le_of_ble_eq_true rfl))) ?_
  by_cases hr : l.isRing = true
  · cases l with
    | flute q => cases hr
    | lead l q => cases hr
    | ring q =>
      refine ds_cons ?_
      refine ds_ifT (dt_ring (l := .ring q) (de_n 2 rfl)) rfl ?_
      refine ds_one ?_
      refine ds_ret (de_if (d := encO (grooveV t len (.ring q))) (dt_v (de_call (df__law_under G) (da_cons (de_n 1 rfl) (da_cons (de_ix (DE.tup (de_n 2 rfl)) de_int rfl) da_nil)) ⟨_, _, ?_, rfl, rfl, rfl⟩ rfl (Nat.le_of_ble_eq_true rfl))) (fun h => DE.as de_non ?_) (fun h => DE.as (de_tup4 (de_n 2 rfl) (de_ix (DE.tup (de_n 2 rfl)) de_int rfl) (de_ix (DE.tup (de_n 2 rfl)) de_int rfl) (de_n 3 rfl)) ?_)) ⟨rfl, rfl⟩
      · exact ⟨hle.mono, Bd.mono hl⟩
      · have h : len < q := of_decide_eq_true h
        unfold grooveV
        dsimp only
        rw [if_pos h]
        rfl
      · have h : ¬ len < q := of_decide_eq_false h
        unfold grooveV
        dsimp only
        rw [if_neg h]
        rfl
  · have hr : l.isRing = false := by simpa using hr
    have hv : grooveV t len l = if takeV (takeT t 4) 3 = 0 then some (grooveE len l (1 + takeV t 4) (ascQ [nearV (takeT (takeT t 4) 3), farV (takeT (takeT t 4) 3)])) else some ⟨l, 0, len, 1 + takeV t 4⟩ := by
      cases l with
      | ring q => cases hr
      | flute q => rfl
      | lead l q => rfl
    have hT : grooveT t l = if takeV (takeT t 4) 3 = 0 then nfT (takeT (takeT t 4) 3) else takeT (takeT t 4) 3 := by
      cases l with
      | ring q => cases hr
      | flute q => rfl
      | lead l q => rfl
    rw [hv, hT]
    refine ds_cons ?_
    refine ds_ifF (dt_ring (l := l) (de_n 2 rfl)) hr ?_
    refine ds_nil ?_
    refine ds_cons ?_
    refine ds_if (DT.is (dt_cmp (dc_eq (DE.rd (de_call (df__law_take G) (da_tin 0 rfl (da_cons de_int da_nil)) ⟨n + 1, _, ⟨h1.take, by omega, by decide, by decide⟩, rfl, rfl, rfl⟩ rfl (Nat.le_of_ble_eq_true rfl))) (DE.rd de_int) rfl rfl)) (eqv_int _ _)) (fun h => ?_) fun h => ?_
    · have h : takeV (takeT t 4) 3 = 0 := of_decide_eq_true h
      rw [if_pos h, if_pos h]
      have ht2 : Tk (n + 2) (takeT (takeT t 4) 3) := h1.take.take
      generalize takeT (takeT t 4) 3 = t2 at ht2
      obtain ⟨n1, n2⟩ := fracV_ok (t := t2) (bs := [1, 2, 4]) (by decide) (by decide)
      obtain ⟨f1, f2⟩ := fracV_ok (t := fracT t2 [1, 2, 4]) (bs := [1, 2, 3]) (by decide) (by decide)
      refine ds_cons ?_
      refine ds_par 4 5 (en := .v (encQ (nearV t2))) (em := .v (encQ (farV t2))) (DE.dv (de_call (df__law_fraction G) (da_tin 0 rfl (da_cons de_int (da_cons (DN.frz (dn_lst (ds := ([1, 2, 4] : List Int).map PyData.int) (da_cons de_int (da_cons de_int (da_cons de_int da_nil))) (Nat.le_of_ble_eq_true rfl))) da_nil))) ⟨n + 2, [1, 2, 4], ?p1, rfl, rfl, rfl⟩ rfl (Nat.le_of_ble_eq_true rfl))) (DE.dv (de_call (df__law_fraction G) (da_tin 0 rfl (da_cons de_int (da_cons (DN.frz (dn_lst (ds := ([1, 2, 3] : List Int).map PyData.int) (da_cons de_int (da_cons de_int (da_cons de_int da_nil))) (Nat.le_of_ble_eq_true rfl))) da_nil))) ⟨n + 4, [1, 2, 3], ?p2, rfl, rfl, rfl⟩ rfl (Nat.le_of_ble_eq_true rfl))) ?_ (by intro env h; cases env; cases h; rfl)
      case p1 => exact ⟨ht2, by omega, by decide, by decide, by decide⟩
      case p2 => exact ⟨ht2.frac, by omega, by decide, by decide, by decide⟩
      refine ds_cons ?_
      refine ds_setN 6 (dn_call (df__law_by_value G) (da_cons (DN.frz (dn_lst2 (de_n 4 rfl) (de_n 5 rfl))) da_nil) ⟨[nearV t2, farV t2], ⟨?_, (by show 2 < 64; decide)⟩, rfl, rfl, rfl⟩ rfl (Nat.le_of_ble_eq_true rfl)) ?_
      · intro q hq
        rcases List.mem_cons.mp hq with z | z
        · rw [z]; exact n1.mono
        · rw [List.mem_singleton.mp z]; exact f1.mono
      have hes : ∀ q ∈ ascQ [nearV t2, farV t2], Bd 6 q := fun q hq => by
        rcases List.mem_cons.mp (mem_setS.mp hq) with z | z
        · rw [z]; exact n1
        · rw [List.mem_singleton.mp z]; exact f1
      have hnf : fracT (fracT t2 [1, 2, 4]) [1, 2, 3] = nfT t2 := rfl
      rw [hnf]
      generalize nfT t2 = t3
      generalize ascQ [nearV t2, farV t2] = es at hes ⊢
      have last : ∀ Γ' : List En, Γ'[2]? = some (.v (encL l)) → Γ'[1]? = some (.v (encQ len)) → Γ'[3]? = some (.v (.int (1 + takeV t 4))) → DS (St0 P w K mg base ["_law_tin", "_law_length_so", "_law_line_so", "_law_depth_so", "_law_near_so", "_law_far_so", "_law_ends_so"] 67 3) p ((defBody (topS 67)).getD 3 (.Pass ⟨0, 0, 0, 0⟩)) Γ' t3 (BodyPost (.d (encG ⟨l, 0, len, 1 + takeV t 4⟩)) t3) := fun Γ' e1 e2 e3 =>
        ds_ret (de_tup4 (de_n 2 e1) (DE.as (d' := encQ 0) (de_tup2 de_int de_int) rfl) (de_n 1 e2) (de_n 3 e3)) ⟨rfl, rfl⟩
      by_cases hl2 : es.length = 2
      · obtain ⟨a, b, rfl⟩ : ∃ a b, es = [a, b] := by
          match es, hl2 with
          | [a, b], _ => exact ⟨a, b, rfl⟩
        refine ds_one ?_
        refine ds_if (c := true && !decide (len < b)) (dw_pt (dw_and (DT.is (dt_cmp (dc_eq (DE.rd (de_len (DO.seq (do_n 6 rfl)) rfl (G.f _ (by decide)))) (DE.rd de_int) rfl rfl)) rfl) (fun _ => dw_and1 (dt_not (dt_v (de_call (df__law_under G) (da_cons (de_n 1 rfl) (da_cons (de_ix (d := encQ b) (DO.seq (do_n 6 rfl)) de_int rfl) da_nil)) ⟨len, b, ?_, rfl, rfl, rfl⟩ rfl (Nat.le_of_ble_eq_true rfl))))))) (fun h => ?_) fun h => ?_
        · exact ⟨hle.mono, (hes b (by simp)).mono⟩
        · have h : ¬ len < b := by simpa using h
          refine ds_one ?_
          refine ds_ret (de_tup4 (de_n 2 rfl) (de_ix (d := encQ a) (DO.seq (do_n 6 rfl)) de_int rfl) (de_ix (d := encQ b) (DO.seq (do_n 6 rfl)) de_int rfl) (de_n 3 rfl)) ⟨?_, rfl⟩
          rw [grooveE2, if_neg h]
          rfl
        · have h : len < b := by simpa using h
          refine ds_nil ?_
          have e : encO (some (grooveE len l (1 + takeV t 4) [a, b])) = encG ⟨l, 0, len, 1 + takeV t 4⟩ := by
            rw [grooveE2, if_pos h]
            rfl
          rw [e]
          exact ds_one (last _ rfl rfl rfl)
      · have e : encO (some (grooveE len l (1 + takeV t 4) es)) = encG ⟨l, 0, len, 1 + takeV t 4⟩ := by
          have : grooveE len l (1 + takeV t 4) es = ⟨l, 0, len, 1 + takeV t 4⟩ := by
            match es, hl2 with
            | [], _ => rfl
            | [_], _ => rfl
            | [_, _], h => exact absurd rfl h
            | _ :: _ :: _ :: _, _ => rfl
          rw [this]
          rfl
        rw [e]
        refine ds_one ?_
        refine ds_ifF (DT.is (c' := false) (dw_pt (dw_and (c := false) (c' := false) (DT.is (dt_cmp (dc_eq (DE.rd (de_len (DO.seq (do_n 6 rfl)) rfl (G.f _ (by decide)))) (DE.rd de_int) rfl rfl)) (by rw [eqv_int, List.length_map]; exact decide_eq_false (by omega))) (fun h => (by cases h)))) rfl) rfl ?_
        refine ds_nil ?_
        exact ds_one (last _ rfl rfl rfl)
    · have h : ¬ takeV (takeT t 4) 3 = 0 := of_decide_eq_false h
      rw [if_neg h, if_neg h]
      refine ds_nil ?_
      refine ds_one ?_
      exact ds_ret (de_tup4 (de_n 2 rfl) (DE.as (d' := encQ 0) (de_tup2 de_int de_int) rfl) (de_n 1 rfl) (de_n 3 rfl)) ⟨rfl, rfl⟩
end
end Sc

/-! E17 -/
set_option Elab.async false
set_option linter.all false
set_option maxRecDepth 100000
namespace Sc
open PySem PySem.Spec PyProof.Rows L2 Evl
def lens : List Rat := [⟨4, 1, by decide, by decide⟩, ⟨3, 1, by decide, by decide⟩, ⟨2, 1, by decide, by decide⟩, ⟨6, 1, by decide, by decide⟩, ⟨5, 2, by decide, by decide⟩]
theorem lens_ok : ∀ q ∈ lens, Bd 3 q ∧ 0 < q := by
  intro q hq
  simp only [lens, List.mem_cons, List.not_mem_nil, or_false] at hq
  rcases hq with h | h | h | h | h <;> subst h <;> exact ⟨⟨by decide, by decide⟩, by decide +kernel⟩
def lapL (t : Tn) (last : Ln) : Ln := match last with
  | .lead l _ => if takeV t 4 = 0 then lineV (takeT t 4) else if takeV t 4 = 1 then mkLead (-l) 0 (angV (takeT t 4)) else mkLead l 0 (angV (takeT t 4))
  | _ => lineV (takeT t 4)
def lapT (t : Tn) (last : Ln) : Tn := match last with
  | .lead _ _ => if takeV t 4 = 0 then lineT (takeT t 4) else angT (takeT t 4)
  | _ => lineT (takeT t 4)
structure BS where
  t : Tn
  gs : List Gr
  last : Ln
def barStep (len : Rat) (s : BS) : BS := ⟨grooveT (lapT s.t s.last) (lapL s.t s.last), s.gs ++ (grooveV (lapT s.t s.last) len (lapL s.t s.last)).toList, lapL s.t s.last⟩
def barGo (len : Rat) : Nat → BS → BS
  | 0, s => s
  | n + 1, s => barStep len (barGo len n s)
def bar0 (t : Tn) : BS := ⟨lineT (ofT t lens), [], lineV (ofT t lens)⟩
def barS (t : Tn) (many : Nat) : BS := barGo (ofV t lens 1) many (bar0 t)
def barV (t : Tn) (many : Nat) : Br := ⟨ofV t lens 1, setG (barS t many).gs⟩
def barT (t : Tn) (many : Nat) : Tn := (barS t many).t
theorem Tk.lap {n : Nat} {t : Tn} {l : Ln} (h : Tk n t) : Tk (n + 6) (lapT t l) := by
  cases l with
  | ring q => exact h.take.line
  | flute q => exact h.take.line
  | lead l q =>
    unfold lapT
    dsimp only
    split
    · exact h.take.line
    · exact h.take.ang.mono (by omega)
/-- a line of drawn numbers -/
def LnD (l : Ln) : Prop := BdL 25 l ∧ (∀ q, l = .ring q → Bd 6 q) ∧ (∀ q, l = .flute q → 0 ≤ q ∧ q < 1) ∧ ∀ a p, l = .lead a p → ∃ z, p = rnd z a
theorem mkLead_ok {l a : Rat} (hl : Bd 3 l) (h0 : l ≠ 0) (ha : Bd 4 a) : LnD (mkLead l 0 a) := by
  refine ⟨⟨hl, h0, ((bd0.sub (hl.mul ha)).rnd hl h0).mono⟩, fun q z => (by cases z), fun q z => (by cases z), fun b p z => ?_⟩
  cases z
  exact ⟨_, rfl⟩
theorem lineV_ok (t : Tn) : LnD (lineV t) := by
  unfold lineV
  split
  · obtain ⟨h1, h2⟩ := fracV_ok (t := takeT t 6) (bs := [1, 2, 1, 3]) (by decide) (by decide)
    exact ⟨h1.mono, fun q z => (by cases z; exact h1), fun q z => (by cases z), fun b p z => (by cases z)⟩
  · split
    · exact ⟨(angV_bd _).mono, fun q z => (by cases z), fun q z => (by cases z; exact angV_rng _), fun b p z => (by cases z)⟩
    · obtain ⟨h1, h2⟩ := leadV_ok (takeT t 6)
      exact mkLead_ok h1 h2 (angV_bd _)
theorem lapL_ok {t : Tn} {l : Ln} (h : LnD l) : LnD (lapL t l) := by
  cases l with
  | ring q => exact lineV_ok _
  | flute q => exact lineV_ok _
  | lead l p =>
    obtain ⟨h1, h2, _⟩ := h.1
    unfold lapL
    dsimp only
    split
    · exact lineV_ok _
    · split
      · exact mkLead_ok h1.neg (by grind) (angV_bd _)
      · exact mkLead_ok h1 h2 (angV_bd _)
structure BsOk (n c : Nat) (s : BS) : Prop where
  t : Tk n s.t
  c : s.gs.length ≤ c
  l : LnD s.last
  g : ∀ g ∈ s.gs, OkG 25 6 g ∧ LnD g.l
theorem grooveV_ok {t : Tn} {len : Rat} {l : Ln} (hl : LnD l) (hle : Bd 3 len) (h0 : 0 < len) {g : Gr} (h : grooveV t len l = some g) : OkG 25 6 g ∧ LnD g.l := by
  have hd := takeV_rng (t := t) (b := 4) (by decide)
  have whole : ∀ hr : l.isRing = false, OkG 25 6 ⟨l, 0, len, 1 + takeV t 4⟩ ∧ LnD l := fun hr => ⟨⟨⟨hl.1, bd0.mono, hle.mono⟩, by show 0 < 1 + takeV t 4; omega, (WfG.of hr).mpr h0⟩, hl⟩
  have nr : l.isRing = false → (if takeV (takeT t 4) 3 = 0 then some (grooveE len l (1 + takeV t 4) (ascQ [nearV (takeT (takeT t 4) 3), farV (takeT (takeT t 4) 3)])) else some ⟨l, 0, len, 1 + takeV t 4⟩) = some g → OkG 25 6 g ∧ LnD g.l := by
    intro hr h
    split at h
    · have h := Option.some.inj h
      generalize takeT (takeT t 4) 3 = t2 at h
      obtain ⟨n1, n2⟩ := fracV_ok (t := t2) (bs := [1, 2, 4]) (by decide) (by decide)
      obtain ⟨f1, f2⟩ := fracV_ok (t := fracT t2 [1, 2, 4]) (bs := [1, 2, 3]) (by decide) (by decide)
      have hes : ∀ q ∈ ascQ [nearV t2, farV t2], Bd 6 q := fun q hq => by
        rcases List.mem_cons.mp (mem_setS.mp hq) with z | z
        · rw [z]; exact n1
        · rw [List.mem_singleton.mp z]; exact f1
      have hasc : Asc leQ (ascQ [nearV t2, farV t2]) := setS_asc lo_Q [nearV t2, farV t2]
      generalize ascQ [nearV t2, farV t2] = es at hes hasc h
      match es, hes, hasc, h with
      | [], _, _, h => subst h; exact whole hr
      | [_], _, _, h => subst h; exact whole hr
      | _ :: _ :: _ :: _, _, _, h => subst h; exact whole hr
      | [a, b], hes, hasc, h =>
        rw [grooveE2] at h
        split at h
        · subst h
          exact whole hr
        · subst h
          have hab := (List.pairwise_cons.mp hasc).1 b (by simp)
          have h1 : decide (a ≤ b) = true := hab.1
          have h1 := of_decide_eq_true h1
          have h2 := hab.2
          exact ⟨⟨⟨hl.1, hes a (by simp), hes b (by simp)⟩, by show 0 < 1 + takeV t 4; omega, (WfG.of hr).mpr (by grind)⟩, hl⟩
    · have h := Option.some.inj h
      subst h
      exact whole hr
  cases l with
  | ring q =>
    unfold grooveV at h
    dsimp only at h
    split at h
    · cases h
    · have h := Option.some.inj h
      subst h
      have hq := hl.2.1 q rfl
      exact ⟨⟨⟨hl.1, hq, hq⟩, by show 0 < 1 + takeV t 4; omega, ⟨rfl, rfl⟩⟩, hl⟩
  | flute q => exact nr rfl h
  | lead l p => exact nr rfl h
theorem BsOk.step {n c : Nat} {s : BS} {len : Rat} (h : BsOk n c s) (hle : Bd 3 len) (h0 : 0 < len) : BsOk (n + 12) (c + 1) (barStep len s) := by
  have hl := lapL_ok (t := s.t) h.l
  refine ⟨(h.t.lap.groove).mono (by omega), ?_, hl, fun g hg => ?_⟩
  · show (s.gs ++ _).length ≤ _
    rw [List.length_append]
    have := h.c
    cases grooveV (lapT s.t s.last) len (lapL s.t s.last) with
    | none => simp; omega
    | some g => simp; omega
  · rcases List.mem_append.mp hg with z | z
    · exact h.g g z
    · rw [Option.mem_toList] at z
      exact grooveV_ok hl hle h0 z
theorem barGo_ok {n : Nat} {s : BS} {len : Rat} (hle : Bd 3 len) (h0 : 0 < len) (h : BsOk n 0 s) : ∀ m, BsOk (n + 12 * m) m (barGo len m s)
  | 0 => h
  | m + 1 => (barGo_ok hle h0 h m).step hle h0
theorem bar0_ok {n : Nat} {t : Tn} (h : Tk n t) : BsOk (n + 6) 0 (bar0 t) := ⟨h.of.line, Nat.le_refl _, lineV_ok _, fun g hg => (by cases hg)⟩
theorem barS_ok {n : Nat} {t : Tn} (h : Tk n t) (m : Nat) : BsOk (n + 6 + 12 * m) m (barS t m) := by
  obtain ⟨l1, l2⟩ := lens_ok _ (ofV_mem (t := t) (xs := lens) (d := 1) (by decide)).2
  exact barGo_ok l1 l2 (bar0_ok h) m
theorem barV_ok {n : Nat} {t : Tn} (h : Tk n t) (m : Nat) : OkB 25 6 m (barV t m) ∧ (∀ g ∈ (barV t m).gs, LnD g.l) ∧ 0 < (barV t m).len := by
  obtain ⟨l1, l2⟩ := lens_ok _ (ofV_mem (t := t) (xs := lens) (d := 1) (by decide)).2
  have hs := barS_ok h m
  exact ⟨⟨l1.mono, Nat.le_trans (setS_len _) hs.c, fun g hg => (hs.g g (mem_setS.mp hg)).1⟩, fun g hg => (hs.g g (mem_setS.mp hg)).2, l2⟩
theorem lnd_400 {l : Ln} (h : LnD l) : BdL 400 l := bdl_up h.1 (by decide)
theorem notNonG (o : Option Gr) : ∀ (K : PySem.W.Frag) (F : Hp) v, Dp K F v (encO o) → (!decide (v = V.non)) = o.isSome := fun K F v h => by
  cases o with
  | none => cases h; rfl
  | some g =>
    have hn : encG g ≠ .none := fun z => by unfold encG at z; cases z
    rw [notNon (d := encG g) hn K F v h]
    rfl
section
variable {P : Program} {w : World} {K : PySem.W.Frag} {mg : Str → Option Value} {base : Heap}
theorem df__law_bar (G : Ge K mg) : Df P w K mg base "_law_bar" 8 (fun eS t rS tS => ∃ (n m : Nat), (Tk n t ∧ n < 100000 ∧ m ≤ 8) ∧ eS = [.tin, .v (.int (m : Int))] ∧ rS = .d (encB (barV t m)) ∧ tS = barT t m) := by
  refine mkD G 68 ["_law_tin", "_law_many_so", "_law_length_so", "_law_found", "_law_last_so", "_law_lap", "_law_kind_so", "_law_own"] ["_law_tin", "_law_many_so"] (by decide +kernel) ⟨rfl, rfl, rfl, by decide +kernel, rfl, by decide +kernel, by decide +kernel⟩ (fun f fd F => F.bindsN fun _ _ _ _ _ _ us hl => match us, hl with | [_, _], _ => rfl) (fun es t r t' h => by obtain ⟨_, _, _, rfl, _, _⟩ := h; rfl) ?_
  rintro p _ t _ _ ⟨n, m, hP, rfl, rfl, rfl⟩
  obtain ⟨h1, h2, h3⟩ := hP
  have hm := ofV_mem (t := t) (xs := lens) (d := 1) (by decide)
  obtain ⟨l1, l2⟩ := lens_ok _ hm.2
  refine ds_cons ?_
  refine ds_par3 2 3 4 (en := .v (encQ (ofV t lens 1))) (em := .own []) (eo := .v (encL (lineV (ofT t lens)))) (DE.dv (de_call (df__law_of G) (da_tin 0 rfl (da_cons (DN.frz (dn_lst (ds := lens.map encQ) (da_cons (de_tup2 de_int de_int) (da_cons (de_tup2 de_int de_int) (da_cons (de_tup2 de_int de_int) (da_cons (de_tup2 de_int de_int) (da_cons (de_tup2 de_int de_int) da_nil))))) (Nat.le_of_ble_eq_true rfl))) da_nil)) ⟨n, lens.map encQ, encQ (ofV t lens 1), ?p1, rfl, rfl, rfl⟩ rfl (Nat.le_of_ble_eq_true rfl))) (DN.dv dn_lst0) (DE.dv (de_call (df__law_line G) (da_tin 0 rfl da_nil) ⟨n + 1, ?p2, rfl, rfl, rfl⟩ rfl (Nat.le_of_ble_eq_true rfl))) ?_ (by intro env h; cases env; cases h; rfl)
  case p1 =>
    refine ⟨h1, by omega, by decide, ?_, by decide⟩
    rw [List.length_map, List.getElem?_map, hm.1]
    rfl
  case p2 => exact ⟨h1.of, by omega⟩
  refine ds_cons ?_
  refine ds_for (fun i Γ t' => t' = (barGo (ofV t lens 1) i (bar0 t)).t ∧ ∃ x y z : En, Γ = [.tin, .v (.int (m : Int)), .v (encQ (ofV t lens 1)), .own ((barGo (ofV t lens 1) i (bar0 t)).gs.map encG), .v (encL (barGo (ofV t lens 1) i (bar0 t)).last), x, y, z]) (di_rng1 (de_n 1 rfl) (by omega) rfl (G.f _ (by decide))) ⟨rfl, _, _, _, rfl⟩ ?_ ?_
  · rintro i d _ _ hd ⟨rfl, x, y, z, rfl⟩
    obtain ⟨hi, rfl⟩ := rng_get hd
    have hok := barGo_ok l1 l2 (bar0_ok h1) i
    have hgo : barGo (ofV t lens 1) (i + 1) (bar0 t) = barStep (ofV t lens 1) (barGo (ofV t lens 1) i (bar0 t)) := rfl
    rw [hgo]
    generalize barGo (ofV t lens 1) i (bar0 t) = s at hok ⊢
    have hT := hok.t
    have hlL := hok.l
    refine ⟨_, _, dg_n 5, ?_⟩
    refine ds_cons ?_
    refine ds_set 6 (de_call (df__law_take G) (da_tin 0 rfl (da_cons de_int da_nil)) ⟨_, _, ⟨hT, by omega, by decide, by decide⟩, rfl, rfl, rfl⟩ rfl (Nat.le_of_ble_eq_true rfl)) ?_
    have rest : ∀ (t2 : Tn) (l2 : Ln), t2 = lapT s.t s.last → l2 = lapL s.t s.last → DSs (St0 P w K mg base ["_law_tin", "_law_many_so", "_law_length_so", "_law_found", "_law_last_so", "_law_lap", "_law_kind_so", "_law_own"] 68 7) p ((forBody ((defBody (topS 68)).getD 1 (.Pass ⟨0, 0, 0, 0⟩))).drop 2)
        [.tin, .v (.int (m : Int)), .v (encQ (ofV t lens 1)), .own (s.gs.map encG), .v (encL l2), .v (.int (0 + (i : Int))), .v (.int (takeV s.t 4)), z] t2
        (LoopPost (fun Γ t' => t' = (barStep (ofV t lens 1) s).t ∧ ∃ x y z : En, Γ = [.tin, .v (.int (m : Int)), .v (encQ (ofV t lens 1)), .own ((barStep (ofV t lens 1) s).gs.map encG), .v (encL (barStep (ofV t lens 1) s).last), x, y, z]) (Then (St0 P w K mg base ["_law_tin", "_law_many_so", "_law_length_so", "_law_found", "_law_last_so", "_law_lap", "_law_kind_so", "_law_own"] 68 7) p ((defBody (topS 68)).drop 2) (BodyPost (.d (encB (barV t m))) (barT t m)))) := by
      rintro t2 l2 rfl rfl
      refine ds_cons ?_
      refine ds_set 7 (de_call (df__law_groove G) (da_tin 0 rfl (da_cons (de_n 2 rfl) (da_cons (de_n 4 rfl) da_nil))) ⟨_, _, _, ⟨hT.lap, by omega, l1, lnd_400 (lapL_ok hlL)⟩, rfl, rfl, rfl⟩ rfl (Nat.le_of_ble_eq_true rfl)) ?_
      refine ds_one ?_
      have hcn := hok.c
      cases hg : grooveV (lapT s.t s.last) (ofV t lens 1) (lapL s.t s.last) with
      | none =>
        refine ds_ifF (c := false) (dt_cmp (dc_notN (de_n 7 rfl) (notNonG none))) rfl ?_
        refine ds_nil ⟨rfl, .v (.int (0 + (i : Int))), .v (.int (takeV s.t 4)), .v .none, ?_⟩
        show _ = [En.tin, .v (.int (m : Int)), .v (encQ (ofV t lens 1)), .own ((s.gs ++ (grooveV (lapT s.t s.last) (ofV t lens 1) (lapL s.t s.last)).toList).map encG), .v (encL (lapL s.t s.last)), _, _, _]
        rw [hg, Option.toList_none, List.append_nil]
        rfl
      | some g =>
        refine ds_ifT (c := true) (dt_cmp (dc_notN (de_n 7 rfl) (notNonG (some g)))) rfl ?_
        (refine ds_one ?_; refine ds_app 3 rfl (de_n 7 rfl) (by rw [List.length_map]; omega) ?_)
        refine ⟨rfl, .v (.int (0 + (i : Int))), .v (.int (takeV s.t 4)), .v (encG g), ?_⟩
        show _ = [En.tin, .v (.int (m : Int)), .v (encQ (ofV t lens 1)), .own ((s.gs ++ (grooveV (lapT s.t s.last) (ofV t lens 1) (lapL s.t s.last)).toList).map encG), .v (encL (lapL s.t s.last)), _, _, _]
        rw [hg, Option.toList_some, List.map_append]
        rfl
    have line : ∀ (e1 : s.last.kind ≠ "lead" ∨ takeV s.t 4 = 0), lapT s.t s.last = lineT (takeT s.t 4) ∧ lapL s.t s.last = lineV (takeT s.t 4) := by
      intro e1
      cases hl : s.last with
      | ring q => exact ⟨rfl, rfl⟩
      | flute q => exact ⟨rfl, rfl⟩
      | lead a q =>
        rw [hl] at e1
        have e1 := e1.resolve_left fun h => h rfl
        unfold lapT lapL
        dsimp only
        rw [if_pos e1, if_pos e1]
        exact ⟨rfl, rfl⟩
    have kne : PyData.eqv (.str s.last.kind) (.str "lead") = decide (s.last.kind = "lead") := by
      simp only [PyData.eqv]
      by_cases h : s.last.kind = "lead"
      · rw [h, decide_eq_true rfl]
        exact beq_self_eq_true _
      · rw [decide_eq_false h]
        exact beq_false_of_ne h
    refine ds_cons ?_
    refine ds_if (c := decide (takeV s.t 4 = 0) || !decide (s.last.kind = "lead")) (dw_pt (dw_or (DT.is (dt_cmp (dc_eq (DE.rd (de_n 6 rfl)) (DE.rd de_int) rfl rfl)) (eqv_int _ _)) (fun _ => dw_or1 (DT.is (dt_cmp (dc_ne (DE.rd (de_kind (l := s.last) (de_n 4 rfl))) (DE.rd de_str) (shK _) (by decide +kernel))) (by rw [kne]))))) (fun h => ?_) fun h => ?_
    · have h : takeV s.t 4 = 0 ∨ s.last.kind ≠ "lead" := by simpa using h
      obtain ⟨e1, e2⟩ := line h.symm
      refine ds_one ?_
      refine ds_set 4 (de_call (df__law_line G) (da_tin 0 rfl da_nil) ⟨_, ⟨hT.take, by omega⟩, rfl, rfl, rfl⟩ rfl (Nat.le_of_ble_eq_true rfl)) ?_
      exact rest _ _ e1.symm e2.symm
    · have h : ¬ takeV s.t 4 = 0 ∧ s.last.kind = "lead" := by simpa using h
      obtain ⟨a, q, hlast⟩ : ∃ a q, s.last = .lead a q := by
        cases hl : s.last with
        | ring q => rw [hl] at h; exact absurd h.2 (by show ¬ (("ring" : Str) = "lead"); decide)
        | flute q => rw [hl] at h; exact absurd h.2 (by show ¬ (("flute" : Str) = "lead"); decide)
        | lead a q => exact ⟨a, q, rfl⟩
      have hlL2 := hlL
      rw [hlast] at hlL2
      obtain ⟨b1, b2, _⟩ := hlL2.1
      have eT : lapT s.t s.last = angT (takeT s.t 4) := by
        rw [hlast]
        unfold lapT
        dsimp only
        rw [if_neg h.1]
      have eV : lapL s.t s.last = if takeV s.t 4 = 1 then mkLead (-a) 0 (angV (takeT s.t 4)) else mkLead a 0 (angV (takeT s.t 4)) := by
        rw [hlast]
        unfold lapL
        dsimp only
        rw [if_neg h.1]
      refine ds_one ?_
      have hix : ∀ (Γ' : List En), Γ'[4]? = some (.v (encL s.last)) → ∀ (tt : Tn) (x : Str) (p1 p2 p3 : Pos) (j : _), DE (St0 P w K mg base ["_law_tin", "_law_many_so", "_law_length_so", "_law_found", "_law_last_so", "_law_lap", "_law_kind_so", "_law_own"] 68 7) p (.Subscript (.Name "_law_last_so" p1) (.Constant (.int 1) j p2) p3) Γ' tt (encQ a) tt := fun Γ' he tt x p1 p2 p3 j => by
        rw [hlast] at he
        exact de_ix (DE.tup (de_n 4 he)) de_int rfl
      refine ds_if (DT.is (dt_cmp (dc_eq (DE.rd (de_n 6 rfl)) (DE.rd de_int) rfl rfl)) (eqv_int _ _)) (fun h2 => ?_) fun h2 => ?_
      · have h2 : takeV s.t 4 = 1 := of_decide_eq_true h2
        rw [if_pos h2] at eV
        refine ds_one ?_
        refine ds_set 4 (de_call (df__law_lead_line G) (da_cons (de_call (df__law_minus G) (da_cons (hix _ rfl _ "" _ _ _ _) da_nil) ⟨_, rfl, rfl, rfl⟩ rfl (Nat.le_of_ble_eq_true rfl)) (da_cons (DE.as (d' := encQ 0) (de_tup2 de_int de_int) rfl) (da_cons (de_call (df__law_drawn_angle G) (da_tin 0 rfl da_nil) ⟨_, ⟨hT.take, by omega⟩, rfl, rfl, rfl⟩ rfl (Nat.le_of_ble_eq_true rfl)) da_nil))) ⟨-a, 0, angV (takeT s.t 4), ⟨b1.neg, by grind, bd0.mono, (angV_bd _).mono⟩, rfl, rfl, rfl⟩ rfl (Nat.le_of_ble_eq_true rfl)) ?_
        exact rest _ _ eT.symm eV.symm
      · have h2 : ¬ takeV s.t 4 = 1 := of_decide_eq_false h2
        rw [if_neg h2] at eV
        refine ds_one ?_
        refine ds_set 4 (de_call (df__law_lead_line G) (da_cons (hix _ rfl _ "" _ _ _ _) (da_cons (DE.as (d' := encQ 0) (de_tup2 de_int de_int) rfl) (da_cons (de_call (df__law_drawn_angle G) (da_tin 0 rfl da_nil) ⟨_, ⟨hT.take, by omega⟩, rfl, rfl, rfl⟩ rfl (Nat.le_of_ble_eq_true rfl)) da_nil))) ⟨a, 0, angV (takeT s.t 4), ⟨b1, b2, bd0.mono, (angV_bd _).mono⟩, rfl, rfl, rfl⟩ rfl (Nat.le_of_ble_eq_true rfl)) ?_
        exact rest _ _ eT.symm eV.symm
  · rintro _ _ ⟨rfl, x, y, z, rfl⟩
    have hlr : (rngD 0 (m : Int).toNat).length = m := by
      unfold rngD
      rw [List.length_map, List.length_range]
      exact Int.toNat_natCast m
    rw [hlr]
    have hok := barGo_ok l1 l2 (bar0_ok h1) m
    have hcn := hok.c
    refine ds_one ?_
    refine ds_ret (de_tup2 (de_n 2 rfl) (de_tupleL (DO.seq (DN.own (dn_setS encOk_G (barGo (ofV t lens 1) m (bar0 t)).gs (DO.seq (do_n 3 rfl)) (by omega) rfl (G.f _ (by decide)) rfl (G.f _ (by decide))))) rfl (G.f _ (by decide)))) ⟨rfl, rfl⟩
end
end Sc

/-! E18 -/
set_option Elab.async false
set_option linter.all false
set_option maxRecDepth 100000
namespace Sc
open PySem PySem.Spec PyProof.Rows L2 Evl
def dStep (x a : Rat) (f : Int) (g : Gr) : Int := if (decide (g.s ≤ x) && decide (x ≤ g.e) && onL x a g.l) = true then max f g.d else f
def depthV (gs : List Gr) (x a : Rat) : Int := gs.foldl (dStep x a) 0
abbrev encP (x : Rat × Rat) : PD := .tuple [encQ x.1, encQ x.2]
def placeV (len : Rat) (k : Nat) : Rat := len * ((0 + (k : Int) : Int) : Rat) / ((4 : Int) : Rat)
def pointsK (len : Rat) (k : Nat) : List (Rat × Rat) := (List.range 6).map fun j : Nat => (placeV len k, Rat.divInt (0 + (j : Int)) 6)
def pointsV (len : Rat) : List (Rat × Rat) := (List.range 5).flatMap (pointsK len)
theorem not_lt_le (a b : Rat) : (!decide (a < b)) = decide (b ≤ a) := by
  by_cases h : a < b
  · rw [decide_eq_true h, decide_eq_false (by grind)]
    rfl
  · rw [decide_eq_false h, decide_eq_true (by grind)]
    rfl
section
variable {P : Program} {w : World} {K : PySem.W.Frag} {mg : Str → Option Value} {base : Heap}
theorem df__law_depth (G : Ge K mg) : Df P w K mg base "_law_depth" 6 (fun eS t rS tS => ∃ (b : Br) (x a : Rat) (k m : Nat), ((∀ g ∈ b.gs, OkG k m g) ∧ k ≤ 400 ∧ m ≤ 50 ∧ Bd 50 x ∧ Bd 50 a) ∧ eS = [.v (encB b), .v (encP (x, a))] ∧ rS = .d (.int (depthV b.gs x a)) ∧ tS = t) := by
  refine mkD G 69 ["_law_bar_so", "_law_point_so", "_law_found", "_law_line_so", "_law_start_so", "_law_end_so", "_law_depth_so", "_law_within_so"] ["_law_bar_so", "_law_point_so"] (by decide +kernel) ⟨rfl, rfl, rfl, by decide +kernel, rfl, by decide +kernel, by decide +kernel⟩ (fun f fd F => F.bindsN fun _ _ _ _ _ _ us hl => match us, hl with | [_, _], _ => rfl) (fun es t r t' h => by obtain ⟨_, _, _, _, _, _, rfl, _, _⟩ := h; rfl) ?_
  rintro p _ t0 _ t ⟨b, x, a, k, m, hP, rfl, rfl, rfl⟩
  obtain ⟨hg, hk, hm, hx, ha⟩ := hP
  (refine ds_cons ?_; refine ds_set 2 de_int ?_)
  refine ds_cons ?_
  refine ds_for (fun i Γ t' => t' = t ∧ ∃ x1 x2 x3 x4 x5 : En, Γ = [.v (encB b), .v (encP (x, a)), .v (.int ((b.gs.take i).foldl (dStep x a) 0)), x1, x2, x3, x4, x5]) (di_tup (ds := b.gs.map encG) (de_ix (DE.tup (de_n 0 rfl)) de_int rfl)) ⟨rfl, _, _, _, _, _, rfl⟩ ?_ ?_
  · rintro i d _ t hd ⟨rfl, x1, x2, x3, x4, x5, rfl⟩
    rw [List.getElem?_map] at hd
    cases hq : b.gs[i]? with
    | none => rw [hq] at hd; cases hd
    | some g =>
    rw [hq] at hd
    have hd : PyData.tuple [encL g.l, encQ g.s, encQ g.e, .int g.d] = d := Option.some.inj hd
    subst hd
    have ok := hg g (List.mem_of_getElem? hq)
    rw [fold_take (dStep x a) 0 hq]
    generalize (b.gs.take i).foldl (dStep x a) 0 = f
    refine ⟨_, _, dg_tup (dgs_cons (dg_n 3) (dgs_cons (dg_n 4) (dgs_cons (dg_n 5) (dgs_cons (dg_n 6) dgs_nil)))), ?_⟩
    refine ds_cons ?_
    refine ds_set 7 (d := .bool (decide (g.s ≤ x) && decide (x ≤ g.e))) (DE.as (de_and (de_not (de_call (df__law_under G) (da_cons (de_ix (DE.tup (de_n 1 rfl)) de_int rfl) (da_cons (de_n 4 rfl) da_nil)) ⟨_, _, ?_, rfl, rfl, rfl⟩ rfl (Nat.le_of_ble_eq_true rfl))) (fun _ => rfl) (fun _ => de_one (de_not (de_call (df__law_under G) (da_cons (de_n 5 rfl) (da_cons (de_ix (DE.tup (de_n 1 rfl)) de_int rfl) da_nil)) ⟨_, _, ?_, rfl, rfl, rfl⟩ rfl (Nat.le_of_ble_eq_true rfl))))) (by rw [not_lt_le, not_lt_le])) ?_
    · exact ⟨hx.mono, ok.b.s.mono⟩
    · exact ⟨ok.b.e.mono, hx.mono⟩
    refine ds_one ?_
    refine ds_if (c := (decide (g.s ≤ x) && decide (x ≤ g.e)) && onL x a g.l) (dw_pt (dw_and (dt_v (de_n 7 rfl)) (fun _ => dw_and1 (dt_v (de_call (df__law_on G) (da_cons (de_n 3 rfl) (da_cons (de_n 1 rfl) da_nil)) ⟨g.l, x, a, ?_, rfl, rfl, rfl⟩ rfl (Nat.le_of_ble_eq_true rfl)))))) (fun h => ?_) fun h => ?_
    · exact ⟨bdl_up ok.b.l hk, hx, ha⟩
    · refine ds_one ?_
      refine ds_set 2 (de_max2 (de_n 2 rfl) (de_n 6 rfl) rfl (G.f _ (by decide))) ?_
      refine ⟨rfl, .v (encL g.l), .v (encQ g.s), .v (encQ g.e), .v (.int g.d), .v (.bool (decide (g.s ≤ x) && decide (x ≤ g.e))), ?_⟩
      unfold dStep
      rw [if_pos h]
      rfl
    · refine ds_nil ⟨rfl, .v (encL g.l), .v (encQ g.s), .v (encQ g.e), .v (.int g.d), .v (.bool (decide (g.s ≤ x) && decide (x ≤ g.e))), ?_⟩
      unfold dStep
      rw [if_neg (by rw [h]; decide)]
      rfl
  · rintro _ t ⟨rfl, x1, x2, x3, x4, x5, rfl⟩
    rw [List.length_map, List.take_length]
    (refine ds_one ?_; refine ds_ret (de_n 2 rfl) ?_)
    exact ⟨rfl, rfl⟩
theorem df__law_points (G : Ge K mg) : Df P w K mg base "_law_points" 4 (fun eS t rS tS => ∃ (len : Rat), (Bd 5 len) ∧ eS = [.v (encQ len), .v (.int 4), .v (.int 6)] ∧ rS = .l ((pointsV len).map encP) ∧ tS = t) := by
  refine mkD G 70 ["_law_length_so", "_law_places_so", "_law_angles_so", "_law_found", "_law_k", "_law_place_so", "_law_j"] ["_law_length_so", "_law_places_so", "_law_angles_so"] (by decide +kernel) ⟨rfl, rfl, rfl, by decide +kernel, rfl, by decide +kernel, by decide +kernel⟩ (fun f fd F => F.bindsN fun _ _ _ _ _ _ us hl => match us, hl with | [_, _, _], _ => rfl) (fun es t r t' h => by obtain ⟨_, _, rfl, _, _⟩ := h; rfl) ?_
  rintro p _ t0 _ t ⟨len, hP, rfl, rfl, rfl⟩
  (refine ds_cons ?_; refine ds_setN 3 (dn_lst0 ) ?_)
  refine ds_cons ?_
  refine ds_for (fun i Γ t' => t' = t ∧ ∃ x1 x2 : En, Γ = [.v (encQ len), .v (.int 4), .v (.int 6), .own (((List.range i).flatMap (pointsK len)).map encP), x1, x2, .no]) (di_rng1 (de_add (de_n 1 rfl) de_int) (by decide) rfl (G.f _ (by decide))) ⟨rfl, _, _, rfl⟩ ?_ ?_
  · rintro i d _ t hd ⟨rfl, x1, x2, rfl⟩
    obtain ⟨hi, rfl⟩ := rng_get hd
    have hi : i < 5 := hi
    have hbi : Bd 3 (((0 + (i : Int) : Int)) : Rat) := .int (by omega)
    refine ⟨_, _, dg_n 4, ?_⟩
    refine ds_cons ?_
    refine ds_set 5 (d := encQ (placeV len i)) (de_call (df__law_quot G) (da_cons (de_call (df__law_times G) (da_cons (de_n 0 rfl) (da_cons (de_n 4 rfl) da_nil)) ⟨_, _, ?_, rfl, rfl, rfl⟩ rfl (Nat.le_of_ble_eq_true rfl)) (da_cons (DE.as (d' := encQ ((4 : Int) : Rat)) (de_tup2 (de_n 1 rfl) de_int) rfl) da_nil)) ⟨_, _, ?_, rfl, rfl, rfl⟩ rfl (Nat.le_of_ble_eq_true rfl)) ?_
    · exact ⟨hP.mono, Nat.lt_of_lt_of_le (show (0 + (i : Int)).natAbs < 2 ^ 3 by omega) (Nat.pow_le_pow_right (by decide) (by decide))⟩
    · exact ⟨(hP.mul hbi).mono, Bd.mono (k := 3) (.int (by decide)), by decide +kernel⟩
    have hlen : ((List.range i).flatMap (pointsK len)).length = 6 * i := by
      rw [List.length_flatMap]
      have e : ((List.range i).map fun k => (pointsK len k).length) = (List.range i).map fun _ => 6 := List.map_congr_left fun k _ => by unfold pointsK; rw [List.length_map, List.length_range]
      rw [e, List.map_const', List.length_range, List.sum_replicate_nat]
      omega
    refine ds_one ?_
    refine ds_setN 3 (dn_cat (do_n 3 rfl) (DN.own (dn_lc (own := [("_law_j", 6)]) (blk0 (by decide +kernel) rfl) (List.range 6) (fun j : Nat => .int (0 + (j : Int))) (fun _ => true) (fun j : Nat => encP (placeV len i, Rat.divInt (0 + (j : Int)) 6)) (DI.is (di_rng1 (de_n 2 rfl) (by decide) rfl (G.f _ (by decide))) rfl) (by decide) ?step)) ?len) ?nx
    case step =>
      intro j hj
      have hj : j < 6 := List.mem_range.mp hj
      refine ⟨_, _, dg_n 6, by simp, rfl, fun _ => ?_⟩
      refine (de_tup2 (de_n 5 rfl) (de_call (df__law_part G) (da_cons (de_n 6 rfl) (da_cons (de_n 2 rfl) da_nil)) ⟨_, _, ?_, rfl, rfl, rfl⟩ rfl (Nat.le_of_ble_eq_true rfl)))
      exact ⟨by decide, Nat.lt_of_lt_of_le (show (6 : Int).natAbs < 2 ^ 4 by decide) (Nat.pow_le_pow_right (by decide) (by decide))⟩
    case len =>
      rw [List.filter_eq_self.mpr (fun _ _ => rfl), List.length_map, List.length_map, List.length_range, hlen]
      omega
    case nx =>
      refine ⟨rfl, .v (.int (0 + (i : Int))), .v (encQ (placeV len i)), ?_⟩
      rw [List.filter_eq_self.mpr (fun _ _ => rfl), List.range_succ (n := i), List.flatMap_append, List.map_append]
      have e : ([i].flatMap (pointsK len)).map encP = (List.range 6).map fun j : Nat => encP (placeV len i, Rat.divInt (0 + (j : Int)) 6) := by
        rw [List.flatMap_singleton]
        unfold pointsK
        rw [List.map_map]
        rfl
      rw [e]
      rfl
  · rintro _ t ⟨rfl, x1, x2, rfl⟩
    refine ds_one ?_
    exact ds_retO 3 rfl ⟨rfl, rfl⟩
theorem df__law_turned_bar (G : Ge K mg) : Df P w K mg base "_law_turned_bar" 7 (fun eS t rS tS => ∃ (b : Br) (a : Rat), ((∀ g ∈ b.gs, BdL 400 g.l) ∧ b.gs.length < 64 ∧ Bd 810 a) ∧ eS = [.v (encB b), .v (encQ a)] ∧ rS = .d (encB (lturnedB a b)) ∧ tS = t) := by
  refine mkD G 72 ["_law_bar_so", "_law_angle_so", "_law_own"] ["_law_bar_so", "_law_angle_so"] (by decide +kernel) ⟨rfl, rfl, rfl, by decide +kernel, rfl, by decide +kernel, by decide +kernel⟩ (fun f fd F => F.bindsN fun _ _ _ _ _ _ us hl => match us, hl with | [_, _], _ => rfl) (fun es t r t' h => by obtain ⟨_, _, _, rfl, _, _⟩ := h; rfl) ?_
  rintro p _ t0 _ t ⟨b, a, hP, rfl, rfl, rfl⟩
  obtain ⟨hl, hz, ha⟩ := hP
  refine ds_one ?_
  refine ds_ret (de_tup2 (de_ix (DE.tup (de_n 0 rfl)) de_int rfl) (de_tupleL (DO.seq (DN.own (dn_srt encOk_G (b.gs.map (Gr.turned a)) (DO.seq (DN.own (DN.is (dn_lc (own := [("_law_own", 2)]) (blk0 (by decide +kernel) rfl) b.gs encG (fun _ => true) (fun g => encG (g.turned a)) (di_tup (de_ix (DE.tup (de_n 0 rfl)) de_int rfl)) (by omega) ?step) ?eq))) (by rw [List.length_map]; exact hz) rfl (G.f _ (by decide))))) rfl (G.f _ (by decide)))) ⟨rfl, rfl⟩
  case eq => rw [List.filter_eq_self.mpr (fun _ _ => rfl), List.map_map]; rfl
  case step =>
    intro g hg
    refine ⟨_, _, dg_n 2, by simp, rfl, fun _ => ?_⟩
    refine DE.as (de_catT (de_tup1 (de_call (df__law_moved_line G) (da_cons (de_ix (DE.tup (de_n 2 rfl)) de_int rfl) (da_cons (de_tup2 (DE.as (d' := encQ 0) (de_tup2 de_int de_int) rfl) (de_n 1 rfl)) da_nil)) ⟨g.l, 0, a, ?hp, rfl, rfl, rfl⟩ rfl (Nat.le_of_ble_eq_true rfl))) (de_slT (de_n 2 rfl) (dpt_some de_int) dpt_none) (Nat.le_of_ble_eq_true rfl)) ?e2
    case hp => exact ⟨hl g hg, ⟨by decide, by decide⟩, ha⟩
    case e2 => rfl
theorem df__law_mirrored_bar (G : Ge K mg) : Df P w K mg base "_law_mirrored_bar" 4 (fun eS t rS tS => ∃ (b : Br), (b.gs.length < 64) ∧ eS = [.v (encB b)] ∧ rS = .d (encB (lmirrB b)) ∧ tS = t) := by
  refine mkD G 75 ["_law_bar_so", "_law_own"] ["_law_bar_so"] (by decide +kernel) ⟨rfl, rfl, rfl, by decide +kernel, rfl, by decide +kernel, by decide +kernel⟩ (fun f fd F => F.bindsN fun _ _ _ _ _ _ us hl => match us, hl with | [_], _ => rfl) (fun es t r t' h => by obtain ⟨_, _, rfl, _, _⟩ := h; rfl) ?_
  rintro p _ t0 _ t ⟨b, hP, rfl, rfl, rfl⟩
  refine ds_one ?_
  refine ds_ret (de_tup2 (de_ix (DE.tup (de_n 0 rfl)) de_int rfl) (de_tupleL (DO.seq (DN.own (dn_srt encOk_G (b.gs.map Gr.mirr) (DO.seq (DN.own (DN.is (dn_lc (own := [("_law_own", 1)]) (blk0 (by decide +kernel) rfl) b.gs encG (fun _ => true) (fun g => encG g.mirr) (di_tup (de_ix (DE.tup (de_n 0 rfl)) de_int rfl)) (by omega) ?step) ?eq))) (by rw [List.length_map]; exact hP) rfl (G.f _ (by decide))))) rfl (G.f _ (by decide)))) ⟨rfl, rfl⟩
  case eq => rw [List.filter_eq_self.mpr (fun _ _ => rfl), List.map_map]; rfl
  case step =>
    intro g hg
    refine ⟨_, _, dg_n 1, by simp, rfl, fun _ => ?_⟩
    exact DE.as (de_catT (de_tup1 (de_call (df__law_mirrored_line G) (da_cons (de_ix (DE.tup (de_n 1 rfl)) de_int rfl) da_nil) ⟨g.l, rfl, rfl, rfl⟩ rfl (Nat.le_of_ble_eq_true rfl))) (de_slT (de_n 1 rfl) (dpt_some de_int) dpt_none) (Nat.le_of_ble_eq_true rfl)) rfl
theorem df__law_ended_bar (G : Ge K mg) : Df P w K mg base "_law_ended_bar" 7 (fun eS t rS tS => ∃ (b : Br) (k m : Nat), ((∀ g ∈ b.gs, OkG k m g) ∧ b.gs.length < 64 ∧ k ≤ 400 ∧ m ≤ 50 ∧ Bd 5 b.len) ∧ eS = [.v (encB b)] ∧ rS = .d (encB (lendedB b)) ∧ tS = t) := by
  refine mkD G 74 ["_law_bar_so", "_law_found", "_law_line_so", "_law_start_so", "_law_end_so", "_law_depth_so"] ["_law_bar_so"] (by decide +kernel) ⟨rfl, rfl, rfl, by decide +kernel, rfl, by decide +kernel, by decide +kernel⟩ (fun f fd F => F.bindsN fun _ _ _ _ _ _ us hl => match us, hl with | [_], _ => rfl) (fun es t r t' h => by obtain ⟨_, _, _, _, rfl, _, _⟩ := h; rfl) ?_
  rintro p _ t0 _ t ⟨b, k, m, hP, rfl, rfl, rfl⟩
  obtain ⟨hg, hz, hk, hm, hl⟩ := hP
  (refine ds_cons ?_; refine ds_setN 1 (dn_lst0 ) ?_)
  refine ds_cons ?_
  refine ds_for (fun i Γ t' => t' = t ∧ ∃ x y z u : En, Γ = [.v (encB b), .own (((b.gs.take i).map (Gr.ended b.len)).map encG), x, y, z, u]) (di_tup (ds := b.gs.map encG) (de_ix (DE.tup (de_n 0 rfl)) de_int rfl)) ⟨rfl, _, _, _, _, rfl⟩ ?_ ?_
  · rintro i e _ t hd ⟨rfl, x, y, z, u, rfl⟩
    rw [List.getElem?_map] at hd
    cases hq : b.gs[i]? with
    | none => rw [hq] at hd; cases hd
    | some g =>
    rw [hq] at hd
    have hd : PyData.tuple [encL g.l, encQ g.s, encQ g.e, .int g.d] = e := Option.some.inj hd
    subst hd
    have ok := hg g (List.mem_of_getElem? hq)
    refine ⟨_, _, dg_tup (dgs_cons (dg_n 2) (dgs_cons (dg_n 3) (dgs_cons (dg_n 4) (dgs_cons (dg_n 5) dgs_nil)))), ?_⟩
    (refine ds_one ?_; refine ds_app 1 rfl (de_tup4 (de_call (df__law_ended_line G) (da_cons (de_n 2 rfl) (da_cons (de_ix (DE.tup (de_n 0 rfl)) de_int rfl) da_nil)) ⟨_, _, ?_, rfl, rfl, rfl⟩ rfl (Nat.le_of_ble_eq_true rfl)) (de_call (df__law_less G) (da_cons (de_ix (DE.tup (de_n 0 rfl)) de_int rfl) (da_cons (de_n 4 rfl) da_nil)) ⟨_, _, ?_, rfl, rfl, rfl⟩ rfl (Nat.le_of_ble_eq_true rfl)) (de_call (df__law_less G) (da_cons (de_ix (DE.tup (de_n 0 rfl)) de_int rfl) (da_cons (de_n 3 rfl) da_nil)) ⟨_, _, ?_, rfl, rfl, rfl⟩ rfl (Nat.le_of_ble_eq_true rfl)) (de_n 5 rfl)) ?_ ?_)
    · exact ⟨bdl_up ok.b.l hk, hl.mono⟩
    · exact ⟨hl.mono, ok.b.e.mono⟩
    · exact ⟨hl.mono, ok.b.s.mono⟩
    · rw [List.length_map, List.length_map, List.length_take]
      omega
    · refine ⟨rfl, .v (encL g.l), .v (encQ g.s), .v (encQ g.e), .v (.int g.d), ?_⟩
      rw [List.take_succ, hq, List.map_append, List.map_append]
      rfl
  · rintro _ t ⟨rfl, x, y, z, u, rfl⟩
    rw [List.length_map, List.take_length]
    refine ds_one ?_
    exact ds_ret (de_tup2 (de_ix (DE.tup (de_n 0 rfl)) de_int rfl) (de_tupleL (DO.seq (DN.own (dn_srt encOk_G (b.gs.map (Gr.ended b.len)) (DO.seq (do_n 1 rfl)) (by rw [List.length_map]; exact hz) rfl (G.f _ (by decide))))) rfl (G.f _ (by decide)))) ⟨rfl, rfl⟩
end
end Sc

/-! E19 -/
set_option Elab.async false
set_option linter.all false
set_option maxRecDepth 100000
namespace Sc
open PySem PySem.Spec PyProof.Rows L2 Evl
theorem lstep_nil (gs : List Gr) (se : Rat × Rat) : lstep gs [] se = [(se.1, se.2, segD gs se.1 se.2)] := rfl
theorem lstep_snoc (gs : List Gr) (xs : List Sg) (x : Sg) (se : Rat × Rat) : lstep gs (xs ++ [x]) se =
    if x.2.2 = segD gs se.1 se.2 then xs ++ [(x.1, se.2, segD gs se.1 se.2)] else xs ++ [x] ++ [(se.1, se.2, segD gs se.1 se.2)] := by
  unfold lstep
  rw [List.getLast?_concat, List.dropLast_concat]
theorem lstep_len (gs : List Gr) (xs : List Sg) (se : Rat × Rat) : (lstep gs xs se).length ≤ xs.length + 1 := by
  rcases List.eq_nil_or_concat xs with e | ⟨ys, y, e⟩
  · subst e
    rw [lstep_nil]
    simp
  · subst e
    rw [List.concat_eq_append, lstep_snoc]
    split <;> simp
theorem lfold_len (gs : List Gr) : ∀ (ss : List (Rat × Rat)) (a : List Sg), (ss.foldl (lstep gs) a).length ≤ a.length + ss.length
  | [], a => Nat.le_refl _
  | se :: ss, a => by
    have h := lfold_len gs ss (lstep gs a se)
    have h2 := lstep_len gs a se
    rw [List.foldl_cons, List.length_cons]
    omega
theorem lrow_eq {l : Ln} (hr : l.isRing = false) (gs : List Gr) : lplainRow l gs = (((segs (placesG gs)).foldl (lstep gs) []).filter fun x => decide (0 < x.2.2)).map (mkG l) := by
  cases l
  · cases hr
  · rfl
  · rfl
theorem lrow_len (l : Ln) {gs : List Gr} (hn : gs ≠ []) : (lplainRow l gs).length ≤ 2 * gs.length := by
  by_cases hr : l.isRing = true
  · cases l with
    | flute q => cases hr
    | lead l q => cases hr
    | ring q =>
      have : 0 < gs.length := List.length_pos_iff.mpr hn
      show 1 ≤ _
      omega
  · have hr : l.isRing = false := by simpa using hr
    rw [lrow_eq hr, List.length_map]
    have h1 := lfold_len gs (segs (placesG gs)) []
    have h2 := segs_len (placesG gs)
    have h3 := places_len gs
    have h4 := List.length_filter_le (fun x : Sg => decide (0 < x.2.2)) ((segs (placesG gs)).foldl (lstep gs) [])
    rw [List.length_nil] at h1
    omega
def lrowsG (gs : List Gr) : List Gr := (setL (gs.map (·.l))).flatMap fun l => lplainRow l (ofL l gs)
theorem lrows_len (gs : List Gr) : (lrowsG gs).length ≤ 2 * gs.length := by
  unfold lrowsG
  rw [List.length_flatMap]
  have h := sum_ofL gs (setL (gs.map (·.l))) (setS_asc encOk_L.lo _).nodup
  have key : ∀ ls : List Ln, (∀ l ∈ ls, ofL l gs ≠ []) → (ls.map fun l => (lplainRow l (ofL l gs)).length).sum ≤ 2 * (ls.map fun l => (ofL l gs).length).sum := by
    intro ls
    induction ls with
    | nil => intro _; simp
    | cons l ls ih =>
      intro hl
      have h1 := lrow_len l (hl l List.mem_cons_self)
      have h2 := ih fun m hm => hl m (List.mem_cons_of_mem _ hm)
      rw [List.map_cons, List.sum_cons, List.map_cons, List.sum_cons]
      omega
  have := key (setL (gs.map (·.l))) fun l hl => ofL_ne hl
  omega
theorem sh_ss (fs : List Sg) : SeqAt.shaped (.list (fs.map encS)) = true := shp (by rw [nb]; exact nbAll_map (fun _ => rfl) fs) (by
  rw [PyData.depth]
  have : PyData.depthAll (fs.map encS) ≤ 2 := depthAll_map (enc := encS) (fun x => Nat.le_of_eq (show (encS x).depth = 2 from rfl)) fs
  omega)
theorem segD_max (gs : List Gr) (s e : Rat) : segD gs s e ∈ ((gs.filter fun g => decide (g.s ≤ s) && decide (e ≤ g.e)).map (·.d)) ++ [0] ∧ ∀ y ∈ ((gs.filter fun g => decide (g.s ≤ s) && decide (e ≤ g.e)).map (·.d)) ++ [0], y ≤ segD gs s e := by
  refine ⟨?_, fun y hy => ?_⟩
  · rcases List.mem_cons.mp (maxI_mem ((gs.filter fun g => decide (g.s ≤ s) && decide (e ≤ g.e)).map (·.d))) with z | z
    · refine List.mem_append_right _ ?_
      rw [show segD gs s e = 0 from z]
      exact List.mem_singleton.mpr rfl
    · exact List.mem_append_left _ z
  · rcases List.mem_append.mp hy with z | z
    · exact maxI_ub _ _ z
    · rw [List.mem_singleton.mp z]
      exact maxI_nn _
section
variable {P : Program} {w : World} {K : PySem.W.Frag} {mg : Str → Option Value} {base : Heap}
theorem df__law_plain (G : Ge K mg) : Df P w K mg base "_law_plain" 3 (fun eS t rS tS => ∃ (b : Br) (k m : Nat), (b.gs.length ≤ 16 ∧ m ≤ 50 ∧ ∀ g ∈ b.gs, OkG k m g) ∧ eS = [.v (encB b)] ∧ rS = .d (encB (lplainB b)) ∧ tS = t) := by
  refine mkD G 76 ["_law_bar_so", "_law_found", "_law_own", "_law_line_so", "_law_mine_so", "_law_places_so", "_law_rows_so", "_law_start_so", "_law_end_so", "_law_deep_so", "_law_depth_so"] ["_law_bar_so"] (by decide +kernel) ⟨rfl, rfl, rfl, by decide +kernel, rfl, by decide +kernel, by decide +kernel⟩ (fun f fd F => F.bindsN fun _ _ _ _ _ _ us hl => match us, hl with | [_], _ => rfl) (fun es t r t' h => by obtain ⟨_, _, _, _, rfl, _, _⟩ := h; rfl) ?_
  rintro p _ t0 _ t ⟨b, k, m, hP, rfl, rfl, rfl⟩
  obtain ⟨hz, hm, hg⟩ := hP
  (refine ds_cons ?_; refine ds_setN 1 (dn_lst0 ) ?_)
  refine ds_cons ?_
  have hrl : ∀ i, (((setL (b.gs.map (·.l))).take i).flatMap fun l => lplainRow l (ofL l b.gs)).length ≤ 32 := fun i => by
    have h1 := lrows_len b.gs
    unfold lrowsG at h1
    have h2 : (((setL (b.gs.map (·.l))).take i).flatMap fun l => lplainRow l (ofL l b.gs)).length ≤ ((setL (b.gs.map (·.l))).flatMap fun l => lplainRow l (ofL l b.gs)).length := by
      conv => rhs; rw [← List.take_append_drop i (setL (b.gs.map (·.l)))]
      rw [List.flatMap_append, List.length_append]
      omega
    omega
  refine ds_for (fun i Γ t' => t' = t ∧ ∃ x3 x4 x5 x6 x7 x8 x9 x10 : En, Γ = [.v (encB b), .own ((((setL (b.gs.map (·.l))).take i).flatMap fun l => lplainRow l (ofL l b.gs)).map encG), .no, x3, x4, x5, x6, x7, x8, x9, x10])
    (di_list (ds := (setL (b.gs.map (·.l))).map encL) (DE.as (DN.frz (dn_setS encOk_L (b.gs.map (·.l)) (DO.seq (DN.own (DN.is (dn_lc (own := [("_law_own", 2)]) (blk0 (by decide +kernel) rfl) b.gs encG (fun _ => true) (fun g => encL g.l) (di_tup (ds := b.gs.map encG) (de_ix (DE.tup (de_n 0 rfl)) de_int rfl)) (by omega) ?st0) ?eq0))) (by rw [List.length_map]; omega) rfl (G.f _ (by decide)) rfl (G.f _ (by decide)))) rfl)) ⟨rfl, _, _, _, _, _, _, _, _, rfl⟩ ?_ ?_
  case st0 => exact fun g _ => ⟨_, _, dg_n 2, by simp, rfl, fun _ => (de_ix (DE.tup (de_n 2 rfl)) de_int rfl)⟩
  case eq0 => rw [List.filter_eq_self.mpr (fun _ _ => rfl), List.map_map]; rfl
  · rintro i d _ t hd ⟨rfl, x3, x4, x5, x6, x7, x8, x9, x10, rfl⟩
    rw [List.getElem?_map] at hd
    cases hq : (setL (b.gs.map (·.l)))[i]? with
    | none => rw [hq] at hd; cases hd
    | some l =>
    rw [hq] at hd
    have hd : encL l = d := Option.some.inj hd
    subst hd
    have hne := ofL_ne (List.mem_of_getElem? hq)
    have hfl : (ofL l b.gs).length ≤ b.gs.length := List.length_filter_le _ _
    have hlr := lrow_len l hne
    have hi32 := hrl i
    have htk : (((setL (b.gs.map (·.l))).take (i + 1)).flatMap fun l => lplainRow l (ofL l b.gs)) = (((setL (b.gs.map (·.l))).take i).flatMap fun l => lplainRow l (ofL l b.gs)) ++ lplainRow l (ofL l b.gs) := by
      rw [List.take_succ, hq, List.flatMap_append]
      simp
    rw [htk]
    generalize (((setL (b.gs.map (·.l))).take i).flatMap fun l => lplainRow l (ofL l b.gs)) = fd at hi32 ⊢
    have hgm : ∀ g ∈ ofL l b.gs, OkG k m g := fun g h => hg g (mem_ofL.mp h).1
    refine ⟨_, _, dg_n 3, ?_⟩
    refine ds_cons ?_
    refine ds_setLc 4 (own := [("_law_own", 2)]) (blk0 (by decide +kernel) rfl) b.gs encG (fun g => decide (g.l = l)) encG (di_tup (ds := b.gs.map encG) (de_ix (DE.tup (de_n 0 rfl)) de_int rfl)) (by omega) ?st1 ?nx1 (by decide +kernel)
    case st1 =>
      intro g hgm'
      exact ⟨_, _, dg_n 2, by simp, DT.is (dt_cmp (dc_eq (DE.rd (de_ix (DE.tup (de_n 2 rfl)) de_int rfl)) (DE.rd (de_n 3 rfl)) (shL _) (shL _))) (eqv_dec (fun _ _ => encL_inj) nb_L g.l l), fun _ => (de_n 2 rfl)⟩
    case nx1 =>
    have hof : (b.gs.filter fun g => decide (g.l = l)) = ofL l b.gs := rfl
    rw [hof]
    refine ds_cool 4 rfl ?_
    have hmz : (ofL l b.gs).length ≤ 16 := by omega
    generalize ofL l b.gs = gs at hne hmz hlr hgm ⊢
    by_cases hr : l.isRing = true
    · cases l with
      | flute q => cases hr
      | lead l q => cases hr
      | ring q =>
        have hmem : maxI (gs.map (·.d)) ∈ gs.map (·.d) := maxI_pos (fun z => hne (by simpa using z)) fun x hx => by
          obtain ⟨g, hgm', rfl⟩ := List.mem_map.mp hx
          have := (hgm g hgm').d
          omega
        refine ds_cons ?_
        refine ds_ifT (dt_ring (l := .ring q) (de_n 3 rfl)) rfl ?_
        refine ds_cons ?_
        refine ds_app 1 rfl (de_tup4 (de_n 3 rfl) (de_ix (DE.tup (de_n 3 rfl)) de_int rfl) (de_ix (DE.tup (de_n 3 rfl)) de_int rfl) (de_max (ns := gs.map (·.d)) (m := maxI (gs.map (·.d))) (DO.seq (DN.own (DN.is (dn_lc (own := [("_law_own", 2)]) (blk0 (by decide +kernel) rfl) gs encG (fun _ => true) (fun g => .int g.d) (di_list (de_n 4 rfl)) (by omega) ?st2) ?eq2))) hmem (fun y hy => maxI_ub _ _ hy) rfl (G.f _ (by decide)))) (by rw [List.length_map]; omega) ?nx2
        case st2 => exact fun g _ => ⟨_, _, dg_n 2, by simp, rfl, fun _ => (de_ix (DE.tup (de_n 2 rfl)) de_int rfl)⟩
        case eq2 => rw [List.filter_eq_self.mpr (fun _ _ => rfl), List.map_map]; rfl
        case nx2 =>
          refine ds_one ?_
          refine ds_continue ⟨rfl, .v (encL (.ring q)), .v (.list (gs.map encG)), x5, x6, x7, x8, x9, x10, ?_⟩
          rw [List.map_append]
          rfl
    · have hr : l.isRing = false := by simpa using hr
      rw [lrow_eq hr] at hlr ⊢
      rw [List.length_map] at hlr
      have hpl : ∀ q ∈ placesG gs, Bd m q := fun q hq => by
        obtain ⟨g, hgm', z | z⟩ := mem_places hq
        · rw [z]; exact (hgm g hgm').b.s
        · rw [z]; exact (hgm g hgm').b.e
      have hpz := places_len gs
      have hsz := segs_len (placesG gs)
      refine ds_cons ?_
      refine ds_ifF (dt_ring (l := l) (de_n 3 rfl)) hr ?_
      refine ds_nil ?_
      refine ds_cons ?_
      refine ds_par 5 6 (en := .own ((placesG gs).map encQ)) (em := .own []) (DN.dv (dn_call (df__law_by_value G) (da_cons (DN.frz (DN.is (dn_cat (DN.own (dn_lc (own := [("_law_own", 2)]) (blk0 (by decide +kernel) rfl) gs encG (fun _ => true) (fun g => encQ g.s) (di_list (de_n 4 rfl)) (by omega) ?st3)) (DN.own (dn_lc (own := [("_law_own", 2)]) (blk0 (by decide +kernel) rfl) gs encG (fun _ => true) (fun g => encQ g.e) (di_list (de_n 4 rfl)) (by omega) ?st4)) ?cl) ?ceq)) da_nil) ⟨gs.map (·.s) ++ gs.map (·.e), ?hp, rfl, rfl, rfl⟩ rfl (Nat.le_of_ble_eq_true rfl))) (DN.dv dn_lst0) ?_ (by intro env h; cases env; cases h; rfl)
      case st3 => exact fun g _ => ⟨_, _, dg_n 2, by simp, rfl, fun _ => (de_ix (DE.tup (de_n 2 rfl)) de_int rfl)⟩
      case st4 => exact fun g _ => ⟨_, _, dg_n 2, by simp, rfl, fun _ => (de_ix (DE.tup (de_n 2 rfl)) de_int rfl)⟩
      case cl =>
        rw [List.filter_eq_self.mpr (fun _ _ => rfl), List.length_map, List.length_map]
        omega
      case ceq => rw [List.filter_eq_self.mpr (fun _ _ => rfl), List.map_append, List.map_map, List.map_map]; rfl
      case hp =>
        refine ⟨fun q hq => ?_, by rw [List.length_append, List.length_map, List.length_map]; omega⟩
        rcases List.mem_append.mp hq with z | z
        · obtain ⟨g, hgm', rfl⟩ := List.mem_map.mp z
          exact (hgm g hgm').b.s.mono
        · obtain ⟨g, hgm', rfl⟩ := List.mem_map.mp z
          exact (hgm g hgm').b.e.mono
      refine ds_cool 5 rfl ?_
      refine ds_cons ?_
      refine ds_for (fun j Γ t' => t' = t ∧ ∃ x7 x8 x9 x10 : En, Γ = [.v (encB b), .own (fd.map encG), .no, .v (encL l), .v (.list (gs.map encG)), .v (.list ((placesG gs).map encQ)), .own ((((segs (placesG gs)).take j).foldl (lstep gs) []).map encS), x7, x8, x9, x10])
        (di_zipL (de_n 5 rfl) (DN.frz (dn_slL (DE.lst (de_n 5 rfl)) (dpt_some de_int) dpt_none)) rfl (G.f _ (by decide))) ⟨rfl, _, _, _, _, rfl⟩ ?_ ?_
      · rintro j d _ t hd ⟨rfl, x7, x8, x9, x10, rfl⟩
        rw [zip_segs, List.getElem?_map] at hd
        cases hq2 : (segs (placesG gs))[j]? with
        | none => rw [hq2] at hd; cases hd
        | some se =>
        rw [hq2] at hd
        have hd : PyData.tuple [encQ se.1, encQ se.2] = d := Option.some.inj hd
        subst hd
        have hj : j < (segs (placesG gs)).length := (List.getElem?_eq_some_iff.mp hq2).1
        obtain ⟨m1, m2⟩ := mem_segs (List.mem_of_getElem? hq2)
        have q1 := hpl _ m1
        have q2 := hpl _ m2
        rw [fold_take (lstep gs) [] hq2]
        have hlen := lfold_len gs ((segs (placesG gs)).take j) []
        rw [List.length_nil, List.length_take] at hlen
        generalize ((segs (placesG gs)).take j).foldl (lstep gs) [] = fs at hlen ⊢
        obtain ⟨sm, su⟩ := segD_max gs se.1 se.2
        refine ⟨_, _, dg_tup (dgs_cons (dg_n 7) (dgs_cons (dg_n 8) dgs_nil)), ?_⟩
        refine ds_cons ?_
        refine ds_setLc 9 (own := [("_law_own", 2)]) (blk0 (by decide +kernel) rfl) gs encG (fun g => decide (g.s ≤ se.1) && decide (se.2 ≤ g.e)) (fun g => .int g.d) (di_list (de_n 4 rfl)) (by omega) ?st5 ?nx5 (by decide +kernel)
        case st5 =>
          intro g hgm'
          have ok := hgm g hgm'
          refine ⟨_, _, dg_n 2, by simp, DT.is (dw_pt (dw_and (dt_not (dt_v (de_call (df__law_under G) (da_cons (de_n 7 rfl) (da_cons (de_ix (DE.tup (de_n 2 rfl)) de_int rfl) da_nil)) ⟨_, _, ?_, rfl, rfl, rfl⟩ rfl (Nat.le_of_ble_eq_true rfl)))) (fun hW2 => (dw_and1 (dt_not (dt_v (de_call (df__law_under G) (da_cons (de_ix (DE.tup (de_n 2 rfl)) de_int rfl) (da_cons (de_n 8 rfl) da_nil)) ⟨_, _, ?_, rfl, rfl, rfl⟩ rfl (Nat.le_of_ble_eq_true rfl)))))))) (by rw [not_lt_le, not_lt_le]), fun _ => (de_ix (DE.tup (de_n 2 rfl)) de_int rfl)⟩
          · exact ⟨q1.mono, ok.b.s.mono⟩
          · exact ⟨ok.b.e.mono, q2.mono⟩
        case nx5 =>
        refine ds_cons ?_
        refine ds_set 10 (de_max (ns := ((gs.filter fun g => decide (g.s ≤ se.1) && decide (se.2 ≤ g.e)).map (·.d)) ++ [0]) (m := segD gs se.1 se.2) (DO.seq (DN.own (DN.is (dn_cat (do_n 9 rfl) (DN.own (dn_lst1 de_int)) ?cl5) ?eq5))) sm su rfl (G.f _ (by decide))) ?nx6
        case cl5 =>
          have := List.length_filter_le (fun g : Gr => decide (g.s ≤ se.1) && decide (se.2 ≤ g.e)) gs
          rw [List.length_map]
          show _ + 1 ≤ _
          omega
        case eq5 => rw [List.map_append, List.map_map]; rfl
        case nx6 =>
        rcases List.eq_nil_or_concat fs with e | ⟨fs, x, e⟩
        · subst e
          rw [lstep_nil]
          refine ds_one ?_
          refine ds_ifF (c := false) (DT.is (dw_pt (dw_and (c := false) (c' := false) (DT.is (dt_cmp (dc_ne (DO.rd (do_n 6 rfl)) (DO.rd (DN.own dn_lst0)) rfl rfl)) rfl) (fun h => (by cases h)))) rfl) rfl ?_
          (refine ds_one ?_; refine ds_app 6 rfl (de_tup3 (de_n 7 rfl) (de_n 8 rfl) (de_n 10 rfl)) (by simp) ?_)
          exact ⟨rfl, .v (encQ se.1), .v (encQ se.2), .own ((gs.filter fun g => decide (g.s ≤ se.1) && decide (se.2 ≤ g.e)).map fun g => .int g.d), .v (.int (segD gs se.1 se.2)), rfl⟩
        · subst e
          rw [List.concat_eq_append, List.length_append, List.length_singleton] at hlen
          rw [List.concat_eq_append, lstep_snoc]
          have em : (fs ++ [x]).map encS = fs.map encS ++ [encS x] := by rw [List.map_append]; rfl
          rw [em]
          have hat : atI (fs.map encS ++ [encS x]) (-1) = some (encS x) := atI_last _ _
          refine ds_one ?_
          refine ds_if (c := true && decide (x.2.2 = segD gs se.1 se.2)) (dw_pt (dw_and (DT.is (dt_cmp (dc_ne (DO.rd (do_n 6 rfl)) (DO.rd (DN.own dn_lst0)) ?sh rfl)) (ne_nil _ _)) fun _ =>
            dw_and1 (DT.is (dt_cmp (dc_eq (DE.rd (de_ix (DE.tup (de_ix (DO.seq (do_n 6 rfl)) (de_neg de_int) hat)) de_int rfl)) (DE.rd (de_n 10 rfl)) rfl rfl)) (eqv_int x.2.2 _)))) (fun h => ?_) fun h => ?_
          case sh => rw [← em]; exact sh_ss _
          · have h : x.2.2 = segD gs se.1 se.2 := by simpa using h
            refine ds_one ?_
            refine ds_put 6 (k := -1) (j := (fs.map encS).length) rfl (de_tup3 (de_ix (DE.tup (de_ix (DO.seq (do_n 6 rfl)) (de_neg de_int) hat)) de_int rfl) (de_n 8 rfl) (de_n 10 rfl)) (de_neg de_int) (by rw [List.length_append]; exact ixN_last _) ?_
            refine ⟨rfl, .v (encQ se.1), .v (encQ se.2), .own ((gs.filter fun g => decide (g.s ≤ se.1) && decide (se.2 ≤ g.e)).map fun g => .int g.d), .v (.int (segD gs se.1 se.2)), ?_⟩
            rw [if_pos h, set_last, List.map_append]
            rfl
          · have h : ¬ x.2.2 = segD gs se.1 se.2 := by simpa using h
            (refine ds_one ?_; refine ds_app 6 rfl (de_tup3 (de_n 7 rfl) (de_n 8 rfl) (de_n 10 rfl)) (by rw [List.length_append, List.length_map, List.length_singleton]; omega) ?_)
            refine ⟨rfl, .v (encQ se.1), .v (encQ se.2), .own ((gs.filter fun g => decide (g.s ≤ se.1) && decide (se.2 ≤ g.e)).map fun g => .int g.d), .v (.int (segD gs se.1 se.2)), ?_⟩
            rw [if_neg h, List.map_append, List.map_append]
            rfl
      · rintro _ t ⟨rfl, x7, x8, x9, x10, rfl⟩
        rw [zip_segs, List.length_map, List.take_length]
        have hlen := lfold_len gs (segs (placesG gs)) []
        rw [List.length_nil] at hlen
        refine ds_cool 6 rfl ?_
        refine ds_one ?_
        refine ds_setN 1 (dn_cat (do_n 1 rfl) (DN.own (dn_lc (own := [("_law_own", 2)]) (blk0 (by decide +kernel) rfl) ((segs (placesG gs)).foldl (lstep gs) []) encS (fun x => decide (0 < x.2.2)) (fun x => encG (mkG l x)) (di_list (de_n 6 rfl)) (by omega) ?st8)) ?len8) ?nx8
        case st8 =>
          intro x hx
          exact ⟨_, _, dg_n 2, by simp, dt_cmp (dc_gt (de_ix (DE.tup (de_n 2 rfl)) de_int rfl) de_int), fun _ => DE.as (de_catT (de_tup1 (de_n 3 rfl)) (de_n 2 rfl) (Nat.le_of_ble_eq_true rfl)) rfl⟩
        case len8 =>
          rw [List.length_map, List.length_map]
          omega
        case nx8 =>
          refine ⟨rfl, .v (encL l), .v (.list (gs.map encG)), .v (.list ((placesG gs).map encQ)), .v (.list (((segs (placesG gs)).foldl (lstep gs) []).map encS)), x7, x8, x9, x10, ?_⟩
          rw [List.map_append, List.map_map]
          rfl
  · rintro _ t ⟨rfl, x3, x4, x5, x6, x7, x8, x9, x10, rfl⟩
    rw [List.length_map, List.take_length]
    refine ds_one ?_
    have := lrows_len b.gs
    exact ds_ret (de_tup2 (de_ix (DE.tup (de_n 0 rfl)) de_int rfl) (de_tupleL (DO.seq (DN.own (dn_srt encOk_G (lrowsG b.gs) (DO.seq (do_n 1 rfl)) (by omega) rfl (G.f _ (by decide))))) rfl (G.f _ (by decide)))) ⟨rfl, rfl⟩
end
end Sc

/-! M5 -/
set_option Elab.async false
set_option linter.all false
set_option maxRecDepth 100000
namespace Sc
open PySem
/-! ### the plain rows of one line: the one reduced list with the same depths -/
def Cov (A : List Sg) (x : Rat) (D : Int) : Prop := ∃ y ∈ A, y.1 < x ∧ x < y.2.1 ∧ D ≤ y.2.2
abbrev RelR (x y : Sg) : Prop := x.2.1 ≤ y.1 ∧ (x.2.1 = y.1 → x.2.2 ≠ y.2.2)
structure Red (A : List Sg) : Prop where
  p : A.Pairwise RelR
  o : ∀ x ∈ A, x.1 < x.2.1 ∧ 0 < x.2.2
def toS (g : Gr) : Sg := (g.s, g.e, g.d)
/-- a number between, off a finite set -/
theorem between : ∀ (E : List Rat) (a b : Rat), a < b → ∃ x, a < x ∧ x < b ∧ x ∉ E
  | [], a, b, h => ⟨(a + b) / 2, by grind, by grind, by simp⟩
  | e :: E, a, b, h => by
    by_cases he : a < e ∧ e < b
    · obtain ⟨x, h1, h2, h3⟩ := between E a e he.1
      refine ⟨x, h1, by grind, fun z => ?_⟩
      rcases List.mem_cons.mp z with z | z
      · grind
      · exact h3 z
    · obtain ⟨x, h1, h2, h3⟩ := between E a b h
      refine ⟨x, h1, h2, fun z => ?_⟩
      rcases List.mem_cons.mp z with z | z
      · subst z
        exact he ⟨h1, h2⟩
      · exact h3 z
theorem cov_cons {y : Sg} {A : List Sg} {x : Rat} {D : Int} : Cov (y :: A) x D ↔ (y.1 < x ∧ x < y.2.1 ∧ D ≤ y.2.2) ∨ Cov A x D := by
  unfold Cov
  constructor
  · rintro ⟨z, hz, h⟩
    rcases List.mem_cons.mp hz with e | hz
    · subst e
      exact .inl h
    · exact .inr ⟨z, hz, h⟩
  · rintro (h | ⟨z, hz, h⟩)
    · exact ⟨y, List.mem_cons_self, h⟩
    · exact ⟨z, List.mem_cons_of_mem _ hz, h⟩
theorem Red.tail {y : Sg} {A : List Sg} (h : Red (y :: A)) : Red A := ⟨(List.pairwise_cons.mp h.p).2, fun x hx => h.o x (List.mem_cons_of_mem _ hx)⟩
/-- nothing of the tail covers up to the head's end -/
theorem Red.ncov {y : Sg} {A : List Sg} (h : Red (y :: A)) {x : Rat} {D : Int} (hx : x ≤ y.2.1) : ¬ Cov A x D := by
  rintro ⟨z, hz, h1, _, _⟩
  have := (List.pairwise_cons.mp h.p).1 z hz
  have := this.1
  grind
theorem red_le {y y' : Sg} {A B : List Sg} {E : List Rat} (hA : Red (y :: A)) (hB : Red (y' :: B)) (h : ∀ x, x ∉ E → ∀ D, 0 < D → Cov (y :: A) x D → Cov (y' :: B) x D) : y'.1 ≤ y.1 := by
  by_cases c : y'.1 ≤ y.1
  · exact c
  · exfalso
    have c : y.1 < y'.1 := by grind
    obtain ⟨o1, o2⟩ := hA.o y List.mem_cons_self
    obtain ⟨x, h1, h2, h3⟩ := between E y.1 (min y.2.1 y'.1) (by grind)
    have hx : Cov (y :: A) x y.2.2 := cov_cons.mpr (.inl ⟨h1, by grind, Int.le_refl _⟩)
    rcases cov_cons.mp (h x h3 _ o2 hx) with ⟨a, _, _⟩ | z
    · grind
    · have o3 := (hB.o y' List.mem_cons_self).1
      exact hB.ncov (by grind) z
theorem red_head {y y' : Sg} {A B : List Sg} {E : List Rat} (hA : Red (y :: A)) (hB : Red (y' :: B)) (h : ∀ x, x ∉ E → ∀ D, 0 < D → (Cov (y :: A) x D ↔ Cov (y' :: B) x D)) (hs : y.1 = y'.1) : y.2.2 ≤ y'.2.2 ∧ (y.2.2 = y'.2.2 → y.2.1 ≤ y'.2.1) := by
  obtain ⟨o1, o2⟩ := hA.o y List.mem_cons_self
  obtain ⟨o1', o2'⟩ := hB.o y' List.mem_cons_self
  refine ⟨?_, fun hd => ?_⟩
  · obtain ⟨x, h1, h2, h3⟩ := between E y.1 (min y.2.1 y'.2.1) (by grind)
    have hx : Cov (y :: A) x y.2.2 := cov_cons.mpr (.inl ⟨h1, by grind, Int.le_refl _⟩)
    rcases cov_cons.mp ((h x h3 _ o2).mp hx) with ⟨_, _, z⟩ | z
    · exact z
    · exact absurd z (hB.ncov (by grind))
  · by_cases c : y.2.1 ≤ y'.2.1
    · exact c
    · exfalso
      have c : y'.2.1 < y.2.1 := by grind
      cases B with
      | nil =>
        obtain ⟨x, h1, h2, h3⟩ := between E y'.2.1 y.2.1 c
        have hx : Cov (y :: A) x y.2.2 := cov_cons.mpr (.inl ⟨by grind, h2, Int.le_refl _⟩)
        rcases cov_cons.mp ((h x h3 _ o2).mp hx) with ⟨_, z, _⟩ | ⟨z, hz, _⟩
        · grind
        · cases hz
      | cons u B =>
        have hu := (List.pairwise_cons.mp hB.p).1 u List.mem_cons_self
        obtain ⟨ou1, ou2⟩ := hB.o u (by simp)
        by_cases cs : u.1 = y'.2.1
        · obtain ⟨x, h1, h2, h3⟩ := between E y'.2.1 (min y.2.1 u.2.1) (by grind)
          have ne : y'.2.2 ≠ u.2.2 := hu.2 cs.symm
          have hx : Cov (y :: A) x y.2.2 := cov_cons.mpr (.inl ⟨by grind, by grind, Int.le_refl _⟩)
          rcases cov_cons.mp ((h x h3 _ o2).mp hx) with ⟨_, z, _⟩ | z
          · grind
          · rcases cov_cons.mp z with ⟨_, _, z⟩ | z
            · have hu2 : Cov (y' :: u :: B) x u.2.2 := cov_cons.mpr (.inr (cov_cons.mpr (.inl ⟨by grind, by grind, Int.le_refl _⟩)))
              rcases cov_cons.mp ((h x h3 _ ou2).mpr hu2) with ⟨_, _, v⟩ | v
              · exact absurd (show y'.2.2 = u.2.2 by omega) ne
              · exact absurd v (hA.ncov (by grind))
            · exact absurd z (hB.tail.ncov (by grind))
        · have cs : y'.2.1 < u.1 := by have := hu.1; grind
          obtain ⟨x, h1, h2, h3⟩ := between E y'.2.1 (min y.2.1 u.1) (by grind)
          have hx : Cov (y :: A) x y.2.2 := cov_cons.mpr (.inl ⟨by grind, by grind, Int.le_refl _⟩)
          rcases cov_cons.mp ((h x h3 _ o2).mp hx) with ⟨_, z, _⟩ | z
          · grind
          · rcases cov_cons.mp z with ⟨z, _, _⟩ | z
            · grind
            · exact absurd z (hB.tail.ncov (by grind))

theorem red_uniq {E : List Rat} : ∀ {A B : List Sg}, Red A → Red B → (∀ x, x ∉ E → ∀ D, 0 < D → (Cov A x D ↔ Cov B x D)) → A = B
  | [], [], _, _, _ => rfl
  | [], y :: B, _, hB, h => by
    obtain ⟨o1, o2⟩ := hB.o y List.mem_cons_self
    obtain ⟨x, h1, h2, h3⟩ := between E y.1 y.2.1 o1
    obtain ⟨z, hz, _⟩ := (h x h3 _ o2).mpr (cov_cons.mpr (.inl ⟨h1, h2, Int.le_refl _⟩))
    cases hz
  | y :: A, [], hA, _, h => by
    obtain ⟨o1, o2⟩ := hA.o y List.mem_cons_self
    obtain ⟨x, h1, h2, h3⟩ := between E y.1 y.2.1 o1
    obtain ⟨z, hz, _⟩ := (h x h3 _ o2).mp (cov_cons.mpr (.inl ⟨h1, h2, Int.le_refl _⟩))
    cases hz
  | y :: A, y' :: B, hA, hB, h => by
    have h' : ∀ x, x ∉ E → ∀ D, 0 < D → (Cov (y' :: B) x D ↔ Cov (y :: A) x D) := fun x hx D hD => (h x hx D hD).symm
    have a1 := red_le hA hB fun x hx D hD => (h x hx D hD).mp
    have a2 := red_le hB hA fun x hx D hD => (h x hx D hD).mpr
    have es : y.1 = y'.1 := Rat.le_antisymm a2 a1
    obtain ⟨b1, b2⟩ := red_head hA hB h es
    obtain ⟨c1, c2⟩ := red_head hB hA h' es.symm
    have ed : y.2.2 = y'.2.2 := by omega
    have ee : y.2.1 = y'.2.1 := Rat.le_antisymm (b2 ed) (c2 ed.symm)
    have ey : y = y' := Prod.ext es (Prod.ext ee ed)
    subst ey
    congr 1
    refine red_uniq (E := E) hA.tail hB.tail fun x hx D hD => ?_
    have key := h x hx D hD
    rw [cov_cons, cov_cons] at key
    constructor
    · intro z
      rcases key.mp (.inr z) with ⟨_, q, _⟩ | q
      · exact absurd z (hA.ncov (by grind))
      · exact q
    · intro z
      rcases key.mpr (.inr z) with ⟨_, q, _⟩ | q
      · exact absurd z (hB.ncov (by grind))
      · exact q
/-! ### the folds -/
theorem le_maxI {xs : List Int} {D : Int} (hD : 0 < D) : D ≤ maxI xs ↔ ∃ y ∈ xs, D ≤ y := by
  constructor
  · intro h
    rcases List.mem_cons.mp (maxI_mem xs) with z | z
    · omega
    · exact ⟨_, z, h⟩
  · rintro ⟨y, hy, h⟩
    have := maxI_ub xs y hy
    omega
theorem le_segD {gs : List Gr} {s e : Rat} {D : Int} (hD : 0 < D) : D ≤ segD gs s e ↔ ∃ g ∈ gs, g.s ≤ s ∧ e ≤ g.e ∧ D ≤ g.d := by
  unfold segD
  rw [le_maxI hD]
  constructor
  · rintro ⟨y, hy, h⟩
    obtain ⟨g, hg, rfl⟩ := List.mem_map.mp hy
    obtain ⟨h1, h2⟩ := List.mem_filter.mp hg
    rw [Bool.and_eq_true, decide_eq_true_eq, decide_eq_true_eq] at h2
    exact ⟨g, h1, h2.1, h2.2, h⟩
  · rintro ⟨g, hg, h1, h2, h3⟩
    refine ⟨g.d, List.mem_map.mpr ⟨g, List.mem_filter.mpr ⟨hg, ?_⟩, rfl⟩, h3⟩
    rw [Bool.and_eq_true, decide_eq_true_eq, decide_eq_true_eq]
    exact ⟨h1, h2⟩
theorem cov_map {gs : List Gr} {x : Rat} {D : Int} : Cov (gs.map toS) x D ↔ ∃ g ∈ gs, g.s < x ∧ x < g.e ∧ D ≤ g.d := by
  unfold Cov
  constructor
  · rintro ⟨y, hy, h⟩
    obtain ⟨g, hg, rfl⟩ := List.mem_map.mp hy
    exact ⟨g, hg, h⟩
  · rintro ⟨g, hg, h⟩
    exact ⟨toS g, List.mem_map.mpr ⟨g, hg, rfl⟩, h⟩
theorem cov_app {A B : List Sg} {x : Rat} {D : Int} : Cov (A ++ B) x D ↔ Cov A x D ∨ Cov B x D := by
  unfold Cov
  constructor
  · rintro ⟨z, hz, h⟩
    rcases List.mem_append.mp hz with hz | hz
    · exact .inl ⟨z, hz, h⟩
    · exact .inr ⟨z, hz, h⟩
  · rintro (⟨z, hz, h⟩ | ⟨z, hz, h⟩)
    · exact ⟨z, List.mem_append_left _ hz, h⟩
    · exact ⟨z, List.mem_append_right _ hz, h⟩
theorem cov_one {y : Sg} {x : Rat} {D : Int} : Cov [y] x D ↔ y.1 < x ∧ x < y.2.1 ∧ D ≤ y.2.2 := by
  unfold Cov
  constructor
  · rintro ⟨z, hz, h⟩
    rw [List.mem_singleton.mp hz] at h
    exact h
  · exact fun h => ⟨y, List.mem_singleton.mpr rfl, h⟩
theorem asc_lt {ps : List Rat} {a : Rat} (h : Asc leQ (a :: ps)) : ∀ q ∈ ps, a < q := fun q hq => by
  have z := (List.pairwise_cons.mp h).1 q hq
  have z1 : decide (a ≤ q) = true := z.1
  have z1 := of_decide_eq_true z1
  have z2 := z.2
  grind
/-- what the fold has got when it stands at the place c -/
structure At (gs : List Gr) (X : List Sg) (c : Rat) : Prop where
  red : Red X
  le : ∀ x ∈ X, x.2.1 ≤ c
  cov : ∀ x, x ∉ placesG gs → x < c → ∀ D, 0 < D → (Cov X x D ↔ Cov (gs.map toS) x D)
theorem pfold_at (gs : List Gr) : ∀ (ps : List Rat) (a : Rat) (X : List Sg), Asc leQ (a :: ps) → a ∈ placesG gs → (∀ q ∈ ps, q ∈ placesG gs) → (∀ q ∈ placesG gs, q ≤ a ∨ q ∈ ps) → At gs X a → ∃ c, At gs ((segs (a :: ps)).foldl (pstep gs) X) c ∧ ∀ q ∈ placesG gs, q ≤ c
  | [], a, X, _, _, _, hq, h => ⟨a, h, fun q hm => (hq q hm).resolve_right (fun z => (by cases z))⟩
  | b :: ps, a, X, ha, hpa, hps, hq, h => by
    have e : segs (a :: b :: ps) = (a, b) :: segs (b :: ps) := rfl
    rw [e, List.foldl_cons]
    have hab : a < b := asc_lt ha b List.mem_cons_self
    have hb2 : Asc leQ (b :: ps) := (List.pairwise_cons.mp ha).2
    refine pfold_at gs ps b _ hb2 (hps b List.mem_cons_self) (fun q hm => hps q (List.mem_cons_of_mem _ hm)) (fun q hm => ?_) ?_
    · rcases hq q hm with z | z
      · exact .inl (by grind)
      · rcases List.mem_cons.mp z with z | z
        · exact .inl (by grind)
        · exact .inr z
    · -- in the open segment
      have seg : ∀ x, a < x → x < b → ∀ D, 0 < D → (Cov (gs.map toS) x D ↔ D ≤ segD gs a b) := fun x h1 h2 D hD => by
        rw [cov_map, le_segD hD]
        have no : ∀ q ∈ placesG gs, q < x → q ≤ a := fun q hm hx => by
          rcases hq q hm with z | z
          · exact z
          · rcases List.mem_cons.mp z with z | z
            · grind
            · have := asc_lt hb2 q z
              grind
        have no2 : ∀ q ∈ placesG gs, x < q → b ≤ q := fun q hm hx => by
          rcases hq q hm with z | z
          · grind
          · rcases List.mem_cons.mp z with z | z
            · grind
            · have := asc_lt hb2 q z
              grind
        constructor
        · rintro ⟨g, hg, g1, g2, g3⟩
          exact ⟨g, hg, no _ (mem_setS.mpr (List.mem_append_left _ (List.mem_map.mpr ⟨g, hg, rfl⟩))) g1, no2 _ (mem_setS.mpr (List.mem_append_right _ (List.mem_map.mpr ⟨g, hg, rfl⟩))) g2, g3⟩
        · rintro ⟨g, hg, g1, g2, g3⟩
          exact ⟨g, hg, by grind, by grind, g3⟩
      have base : ∀ x, a < x → ∀ D, ¬ Cov X x D := fun x hx D ⟨y, hy, _, y2, _⟩ => by
        have := h.le y hy
        grind
      -- one row more
      have more : 0 < segD gs a b → (∀ ys y, X = ys ++ [y] → ¬ (y.2.1 = a ∧ y.2.2 = segD gs a b)) → At gs (X ++ [(a, b, segD gs a b)]) b := fun hd hno => by
        refine ⟨⟨List.pairwise_append.mpr ⟨h.red.p, List.pairwise_singleton _ _, fun y hy z hz => ?_⟩, fun y hy => ?_⟩, fun y hy => ?_, fun x hx hxb D hD => ?_⟩
        · rw [List.mem_singleton.mp hz]
          refine ⟨h.le y hy, fun (ze : y.2.1 = a) (zd : y.2.2 = segD gs a b) => ?_⟩
          rcases List.eq_nil_or_concat X with q | ⟨ys, u, q⟩
          · rw [q] at hy; cases hy
          · rw [List.concat_eq_append] at q
            rw [q] at hy
            rcases List.mem_append.mp hy with hy | hy
            · have hp := h.red.p
              rw [q] at hp
              have r := (List.pairwise_append.mp hp).2.2 y hy u (by simp)
              have ou := (h.red.o u (by rw [q]; simp)).1
              have lu := h.le u (by rw [q]; simp)
              have r1 := r.1
              grind
            · rw [List.mem_singleton.mp hy] at ze zd
              exact hno ys u q ⟨ze, zd⟩
        · rcases List.mem_append.mp hy with hy | hy
          · exact h.red.o y hy
          · rw [List.mem_singleton.mp hy]
            exact ⟨hab, hd⟩
        · rcases List.mem_append.mp hy with hy | hy
          · have := h.le y hy
            grind
          · rw [List.mem_singleton.mp hy]
            exact Rat.le_refl
        · rw [cov_app, cov_one]
          have hxa : x ≠ a := fun z => hx (by rw [z]; exact hpa)
          by_cases c : x < a
          · rw [h.cov x hx c D hD]
            constructor
            · rintro (z | ⟨z, _, _⟩)
              · exact z
              · grind
            · exact .inl
          · have c : a < x := by grind
            rw [seg x c hxb D hD]
            constructor
            · rintro (z | ⟨_, _, z⟩)
              · exact absurd z (base x c D)
              · exact z
            · exact fun z => .inr ⟨c, hxb, z⟩
      have none : ¬ 0 < segD gs a b → At gs X b := fun hd => by
        refine ⟨h.red, fun y hy => by have := h.le y hy; grind, fun x hx hxb D hD => ?_⟩
        have hxa : x ≠ a := fun z => hx (by rw [z]; exact hpa)
        by_cases c : x < a
        · exact h.cov x hx c D hD
        · have c : a < x := by grind
          rw [seg x c hxb D hD]
          exact ⟨fun z => absurd z (base x c D), fun z => by omega⟩
      rcases List.eq_nil_or_concat X with q | ⟨ys, y, q⟩
      · subst q
        rw [pstep_nil]
        split
        · rename_i hd
          exact more hd fun ys y z => by simp at z
        · rename_i hd
          exact none hd
      · rw [List.concat_eq_append] at q
        rw [q, pstep_snoc]
        split
        · rename_i hc
          subst q
          obtain ⟨c1, c2⟩ := hc
          have oy := h.red.o y (by simp)
          have hp := List.pairwise_append.mp h.red.p
          refine ⟨⟨List.pairwise_append.mpr ⟨hp.1, List.pairwise_singleton _ _, fun u hu z hz => ?_⟩, fun u hu => ?_⟩, fun u hu => ?_, fun x hx hxb D hD => ?_⟩
          · rw [List.mem_singleton.mp hz]
            have r := hp.2.2 u hu y (by simp)
            exact ⟨r.1, fun ze => by rw [← c2]; exact r.2 ze⟩
          · rcases List.mem_append.mp hu with hu | hu
            · exact h.red.o u (by simp [hu])
            · rw [List.mem_singleton.mp hu]
              exact ⟨by show y.1 < b; grind, by show 0 < segD gs a b; rw [← c2]; exact oy.2⟩
          · rcases List.mem_append.mp hu with hu | hu
            · have := h.le u (by simp [hu])
              grind
            · rw [List.mem_singleton.mp hu]
              exact Rat.le_refl
          · rw [cov_app, cov_one]
            have hxa : x ≠ a := fun z => hx (by rw [z]; exact hpa)
            by_cases c : x < a
            · rw [← h.cov x hx c D hD, cov_app, cov_one]
              constructor
              · rintro (z | ⟨z1, z2, z3⟩)
                · exact .inl z
                · exact .inr ⟨z1, by grind, by rw [c2]; exact z3⟩
              · rintro (z | ⟨z1, z2, z3⟩)
                · exact .inl z
                · exact .inr ⟨z1, hxb, by show D ≤ segD gs a b; rw [← c2]; exact z3⟩
            · have c : a < x := by grind
              rw [seg x c hxb D hD]
              constructor
              · rintro (z | ⟨_, _, z⟩)
                · exact absurd (cov_app.mpr (.inl z)) (base x c D)
                · exact z
              · exact fun z => .inr ⟨by show y.1 < x; grind, hxb, z⟩
        · rename_i hc
          split
          · rename_i hd
            rw [← q]
            refine more hd fun ys' y' z => ?_
            rw [q] at z
            obtain ⟨_, z2⟩ := List.append_inj' z rfl
            have : y = y' := by simpa using z2
            rw [← this]
            exact hc
          · rename_i hd
            rw [← q]
            exact none hd
/-- the fold's end: reduced, and the same depths -/
theorem pfold_red (gs : List Gr) (hw : ∀ g ∈ gs, g.s < g.e) : Red ((segs (placesG gs)).foldl (pstep gs) []) ∧ ∀ x, x ∉ placesG gs → ∀ D, 0 < D → (Cov ((segs (placesG gs)).foldl (pstep gs) []) x D ↔ Cov (gs.map toS) x D) := by
  have hasc : Asc leQ (placesG gs) := setS_asc lo_Q _
  have hmem : ∀ g ∈ gs, g.s ∈ placesG gs ∧ g.e ∈ placesG gs := fun g hg => ⟨mem_setS.mpr (List.mem_append_left _ (List.mem_map.mpr ⟨g, hg, rfl⟩)), mem_setS.mpr (List.mem_append_right _ (List.mem_map.mpr ⟨g, hg, rfl⟩))⟩
  cases hp : placesG gs with
  | nil =>
    refine ⟨⟨List.Pairwise.nil, fun x hx => (by cases hx)⟩, fun x _ D _ => ⟨fun ⟨y, hy, _⟩ => (by cases hy), fun z => ?_⟩⟩
    obtain ⟨g, hg, _⟩ := cov_map.mp z
    have := (hmem g hg).1
    rw [hp] at this
    cases this
  | cons a ps =>
    have h0 : At gs [] a := ⟨⟨List.Pairwise.nil, fun x hx => (by cases hx)⟩, fun x hx => (by cases hx), fun x _ hx D _ => ⟨fun ⟨y, hy, _⟩ => (by cases hy), fun z => by
      obtain ⟨g, hg, g1, _⟩ := cov_map.mp z
      have m := (hmem g hg).1
      rw [hp] at m hasc
      rcases List.mem_cons.mp m with q | q
      · grind
      · have := asc_lt hasc _ q
        grind⟩⟩
    obtain ⟨c, h1, h2⟩ := pfold_at gs ps a [] (by rw [← hp]; exact hasc) (by rw [hp]; exact List.mem_cons_self) (fun q hq => by rw [hp]; exact List.mem_cons_of_mem _ hq) (fun q hq => by
      rw [hp] at hq
      rcases List.mem_cons.mp hq with z | z
      · exact .inl (by grind)
      · exact .inr z) h0
    refine ⟨h1.red, fun x hx D hD => ?_⟩
    rw [← hp] at hx
    by_cases hc : x < c
    · exact h1.cov x hx hc D hD
    · constructor
      · rintro ⟨y, hy, _, y2, _⟩
        have := h1.le y hy
        grind
      · intro z
        obtain ⟨g, hg, _, g2, _⟩ := cov_map.mp z
        have := h2 _ (hmem g hg).2
        grind
end Sc

/-! M6 -/
set_option Elab.async false
set_option linter.all false
set_option maxRecDepth 100000
namespace Sc
open PySem
/-! ### the law's rows are the program's -/
theorem filter_snoc (p : Sg → Bool) (ys : List Sg) (y : Sg) : (ys ++ [y]).filter p = ys.filter p ++ (if p y = true then [y] else []) := by
  rw [List.filter_append]
  congr 1
  by_cases h : p y = true
  · rw [if_pos h, List.filter_cons_of_pos h]
    rfl
  · rw [if_neg h, List.filter_cons_of_neg h]
    rfl
abbrev pos (x : Sg) : Bool := decide (0 < x.2.2)
theorem lp_rel (gs : List Gr) : ∀ (ps : List Rat) (a : Rat) (X : List Sg), Asc leQ (a :: ps) → (X = [] ∨ ∃ ys y, X = ys ++ [y] ∧ y.2.1 = a ∧ y.1 < y.2.1 ∧ ∀ z ∈ ys, z.2.1 ≤ y.1) →
    (segs (a :: ps)).foldl (pstep gs) (X.filter pos) = ((segs (a :: ps)).foldl (lstep gs) X).filter pos
  | [], a, X, _, _ => rfl
  | b :: ps, a, X, ha, hX => by
    have e : segs (a :: b :: ps) = (a, b) :: segs (b :: ps) := rfl
    rw [e, List.foldl_cons, List.foldl_cons]
    have hab : a < b := asc_lt ha b List.mem_cons_self
    have hb2 : Asc leQ (b :: ps) := (List.pairwise_cons.mp ha).2
    have step : pstep gs (X.filter pos) (a, b) = (lstep gs X (a, b)).filter pos := by
      rcases hX with q | ⟨ys, y, q, y1, y2, y3⟩
      · subst q
        rw [lstep_nil, List.filter_nil, pstep_nil]
        by_cases hd : 0 < segD gs a b
        · rw [if_pos hd, List.filter_cons_of_pos (by exact decide_eq_true hd)]
          rfl
        · rw [if_neg hd, List.filter_cons_of_neg (by rw [decide_eq_true_eq]; exact hd)]
          rfl
      · subst q
        rw [lstep_snoc, filter_snoc]
        have miss : ∀ W : List Sg, W = ys.filter pos → pstep gs W (a, b) = if 0 < segD gs a b then W ++ [(a, b, segD gs a b)] else W := fun W hW => by
          rcases List.eq_nil_or_concat W with r | ⟨zs, z, r⟩
          · subst r
            rw [pstep_nil]
            rfl
          · rw [List.concat_eq_append] at r
            have hz : z ∈ ys := by
              have : z ∈ ys.filter pos := by rw [← hW, r]; simp
              exact (List.mem_filter.mp this).1
            have := y3 z hz
            rw [r, pstep_snoc, if_neg (fun h => by have := h.1; grind)]
        by_cases hy : 0 < y.2.2
        · have hp : pos y = true := decide_eq_true hy
          rw [if_pos hp, pstep_snoc]
          by_cases hd : y.2.2 = segD gs a b
          · rw [if_pos ⟨y1, hd⟩, if_pos hd, filter_snoc, if_pos (by show decide (0 < segD gs a b) = true; rw [← hd]; exact hp)]
          · rw [if_neg (fun h => hd h.2), if_neg hd, filter_snoc, filter_snoc, if_pos hp]
            by_cases h0 : 0 < segD gs a b
            · rw [if_pos h0, if_pos (show pos (a, b, segD gs a b) = true from decide_eq_true h0)]
            · rw [if_neg h0, if_neg (show ¬ pos (a, b, segD gs a b) = true by rw [decide_eq_true_eq]; exact h0), List.append_nil]
        · have hp : ¬ pos y = true := by rw [decide_eq_true_eq]; exact hy
          rw [if_neg hp, List.append_nil, miss _ rfl]
          by_cases hd : y.2.2 = segD gs a b
          · rw [if_pos hd, filter_snoc, if_neg (by omega), if_neg (show ¬ pos (y.1, b, segD gs a b) = true by rw [decide_eq_true_eq]; show ¬ 0 < segD gs a b; omega), List.append_nil]
          · rw [if_neg hd, filter_snoc, filter_snoc, if_neg hp, List.append_nil]
            by_cases h0 : 0 < segD gs a b
            · rw [if_pos h0, if_pos (show pos (a, b, segD gs a b) = true from decide_eq_true h0)]
            · rw [if_neg h0, if_neg (show ¬ pos (a, b, segD gs a b) = true by rw [decide_eq_true_eq]; exact h0), List.append_nil]
    rw [step]
    refine lp_rel gs ps b _ hb2 (.inr ?_)
    rcases hX with q | ⟨ys, y, q, y1, y2, y3⟩
    · subst q
      rw [lstep_nil]
      exact ⟨[], _, rfl, rfl, hab, fun z hz => (by cases hz)⟩
    · subst q
      rw [lstep_snoc]
      split
      · exact ⟨ys, _, rfl, rfl, by show y.1 < b; grind, y3⟩
      · refine ⟨ys ++ [y], _, rfl, rfl, hab, fun z hz => ?_⟩
        rcases List.mem_append.mp hz with hz | hz
        · have := y3 z hz
          show z.2.1 ≤ a
          grind
        · rw [List.mem_singleton.mp hz]
          show y.2.1 ≤ a
          grind
theorem lrow_plain (l : Ln) (gs : List Gr) : lplainRow l gs = plainRow l gs := by
  by_cases hr : l.isRing = true
  · cases l with
    | ring q => rfl
    | flute q => cases hr
    | lead l q => cases hr
  · have hr : l.isRing = false := by simpa using hr
    rw [lrow_eq hr, prow_eq hr]
    congr 1
    cases hp : placesG gs with
    | nil => rfl
    | cons a ps =>
      have := lp_rel gs ps a [] (by rw [← hp]; exact setS_asc lo_Q _) (.inl rfl)
      exact this.symm
theorem lrows_eq (gs : List Gr) : lrowsG gs = rowsG gs := by
  unfold lrowsG rowsG
  congr 1
  funext l
  exact lrow_plain _ _
/-! ### rows of one line -/
theorem okg_lt {k m : Nat} {g : Gr} (h : OkG k m g) (hr : g.l.isRing = false) : g.s < g.e := by
  have hw := h.w
  cases g with
  | mk l s e d => exact (WfG.of hr).mp hw
theorem red_nodup {A : List Sg} (h : Red A) : A.Nodup := by
  refine h.p.imp_of_mem fun {x y} hx hy r z => ?_
  subst z
  have := (h.o x hx).1
  have := r.1
  grind
theorem maxI_congr {xs ys : List Int} (h : ∀ x, x ∈ xs ↔ x ∈ ys) : maxI xs = maxI ys := by
  have key : ∀ xs ys : List Int, (∀ x, x ∈ xs → x ∈ ys) → maxI xs ≤ maxI ys := fun xs ys h => by
    rcases List.mem_cons.mp (maxI_mem xs) with z | z
    · rw [z]
      exact maxI_nn _
    · exact maxI_ub _ _ (h _ z)
  exact Int.le_antisymm (key _ _ fun x hx => (h x).mp hx) (key _ _ fun x hx => (h x).mpr hx)
/-- rows of a line, by their depths alone -/
theorem prow_uniq {l : Ln} (hr : l.isRing = false) {gs : List Gr} (hw : ∀ g ∈ gs, g.s < g.e) {A : List Sg} (hA : Red A) {E : List Rat} (h : ∀ x, x ∉ E → ∀ D, 0 < D → (Cov A x D ↔ Cov (gs.map toS) x D)) : plainRow l gs = A.map (mkG l) := by
  obtain ⟨h1, h2⟩ := pfold_red gs hw
  rw [prow_eq hr]
  congr 1
  refine red_uniq (E := E ++ placesG gs) h1 hA fun x hx D hD => ?_
  have hx1 : x ∉ E := fun z => hx (List.mem_append_left _ z)
  have hx2 : x ∉ placesG gs := fun z => hx (List.mem_append_right _ z)
  exact (h2 x hx2 D hD).trans (h x hx1 D hD).symm
theorem prow_congr {l : Ln} {gs gs' : List Gr} (hw : l.isRing = false → ∀ g ∈ gs, g.s < g.e) (h : ∀ g, g ∈ gs ↔ g ∈ gs') : plainRow l gs = plainRow l gs' := by
  by_cases hr : l.isRing = true
  · cases l with
    | flute q => cases hr
    | lead l q => cases hr
    | ring q =>
      show [_] = [_]
      rw [maxI_congr (xs := gs.map (·.d)) (ys := gs'.map (·.d)) fun x => ?_]
      simp only [List.mem_map]
      constructor
      · rintro ⟨g, hg, e⟩; exact ⟨g, (h g).mp hg, e⟩
      · rintro ⟨g, hg, e⟩; exact ⟨g, (h g).mpr hg, e⟩
  · have hr : l.isRing = false := by simpa using hr
    have hw := hw hr
    have hw' : ∀ g ∈ gs', g.s < g.e := fun g hg => hw g ((h g).mpr hg)
    obtain ⟨h1, h2⟩ := pfold_red gs' hw'
    rw [prow_uniq hr hw h1 (E := placesG gs') fun x hx D hD => (h2 x hx D hD).trans ?_, prow_eq hr]
    rw [cov_map, cov_map]
    constructor
    · rintro ⟨g, hg, e⟩; exact ⟨g, (h g).mpr hg, e⟩
    · rintro ⟨g, hg, e⟩; exact ⟨g, (h g).mp hg, e⟩
theorem nodup_fm {α β : Type} {f : α → List β} : ∀ {ls : List α}, ls.Pairwise (fun a b => ∀ x, x ∈ f a → x ∉ f b) → (∀ a ∈ ls, (f a).Nodup) → (ls.flatMap f).Nodup
  | [], _, _ => List.nodup_nil
  | a :: ls, hp, hn => by
    obtain ⟨h1, h2⟩ := List.pairwise_cons.mp hp
    rw [List.flatMap_cons, List.nodup_append]
    refine ⟨hn a List.mem_cons_self, nodup_fm h2 fun b hb => hn b (List.mem_cons_of_mem _ hb), fun x hx y hy z => ?_⟩
    subst z
    obtain ⟨b, hb, hxb⟩ := List.mem_flatMap.mp hy
    exact h1 b hb x hx hxb
/-- the rows of a line stand once each -/
theorem prow_nodup {k m : Nat} {l : Ln} {gs : List Gr} (hl : ∀ g ∈ gs, g.l = l) (hg : ∀ g ∈ gs, OkG k m g) : (plainRow l gs).Nodup := by
  by_cases hr : l.isRing = true
  · cases l with
    | flute q => cases hr
    | lead l q => cases hr
    | ring q => exact List.pairwise_singleton _ _
  · have hr : l.isRing = false := by simpa using hr
    obtain ⟨h1, _⟩ := pfold_red gs fun g h => okg_lt (hg g h) (by rw [hl g h]; exact hr)
    rw [prow_eq hr]
    unfold List.Nodup
    rw [List.pairwise_map]
    exact (red_nodup h1).imp fun {x y} ne z => ne (by
      simp only [mkG, Gr.mk.injEq, true_and] at z
      exact Prod.ext z.1 (Prod.ext z.2.1 z.2.2))
theorem rows_nodup {k m : Nat} {gs : List Gr} (hg : ∀ g ∈ gs, OkG k m g) : (rowsG gs).Nodup := by
  unfold rowsG
  refine nodup_fm ?_ (fun l _ => prow_nodup (k := k) (m := m) (fun g h => (mem_ofL.mp h).2) fun g h => hg g (mem_ofL.mp h).1)
  have hnd : (setL (gs.map (·.l))).Pairwise fun a b => a ≠ b := (setS_asc encOk_L.lo (gs.map (·.l))).imp fun h => h.2
  refine hnd.imp_of_mem fun {l l'} hl hl' ne => ?_
  intro x hx hx'
  have e1 := (prow_ok (k := k) (m := m) (ofL_ne hl) (fun g h => (mem_ofL.mp h).2) (fun g h => hg g (mem_ofL.mp h).1) x hx).2
  have e2 := (prow_ok (k := k) (m := m) (ofL_ne hl') (fun g h => (mem_ofL.mp h).2) (fun g h => hg g (mem_ofL.mp h).1) x hx').2
  exact ne (e1.symm.trans e2)
theorem lplain_eq {k m : Nat} {gs : List Gr} (hg : ∀ g ∈ gs, OkG k m g) : lplainG gs = plainG gs := by
  show srtG (lrowsG gs) = setG (rowsG gs)
  rw [lrows_eq]
  exact srt_set encOk_G.lo (rows_nodup hg)
theorem mem_plain {gs : List Gr} {x : Gr} : x ∈ plainG gs ↔ ∃ l ∈ gs.map (·.l), x ∈ plainRow l (ofL l gs) := by
  show x ∈ setG (rowsG gs) ↔ _
  rw [mem_setS]
  unfold rowsG
  rw [List.mem_flatMap]
  constructor
  · rintro ⟨l, hl, h⟩; exact ⟨l, mem_setS.mp hl, h⟩
  · rintro ⟨l, hl, h⟩; exact ⟨l, mem_setS.mpr hl, h⟩
theorem plainG_asc (gs : List Gr) : Asc (leD encG) (plainG gs) := setS_asc encOk_G.lo _
theorem plain_ext {gs gs' : List Gr} (h : ∀ x, x ∈ plainG gs ↔ x ∈ plainG gs') : plainG gs = plainG gs' := asc_uniq encOk_G.lo (plainG_asc gs) (plainG_asc gs') h
theorem plain_congr {k m : Nat} {gs gs' : List Gr} (hg : ∀ g ∈ gs, OkG k m g) (h : ∀ g, g ∈ gs ↔ g ∈ gs') : plainG gs = plainG gs' := by
  refine plain_ext fun x => ?_
  rw [mem_plain, mem_plain]
  have hl : ∀ l, l ∈ gs.map (·.l) ↔ l ∈ gs'.map (·.l) := fun l => by
    simp only [List.mem_map]
    constructor
    · rintro ⟨g, hg, e⟩; exact ⟨g, (h g).mp hg, e⟩
    · rintro ⟨g, hg, e⟩; exact ⟨g, (h g).mpr hg, e⟩
  have hrow : ∀ l, plainRow l (ofL l gs) = plainRow l (ofL l gs') := fun l => prow_congr (fun hr g hgm => okg_lt (hg g (mem_ofL.mp hgm).1) (by rw [(mem_ofL.mp hgm).2]; exact hr)) fun g => by rw [mem_ofL, mem_ofL, h g]
  constructor
  · rintro ⟨l, h1, h2⟩; exact ⟨l, (hl l).mp h1, by rw [← hrow]; exact h2⟩
  · rintro ⟨l, h1, h2⟩; exact ⟨l, (hl l).mpr h1, by rw [hrow]; exact h2⟩
end Sc

/-! E20 -/
set_option Elab.async false
set_option linter.all false
set_option maxRecDepth 100000
namespace Sc
open PySem PySem.Spec PyProof.Rows L2 Evl
theorem OkB.lplain {k m n : Nat} {b : Br} (h : OkB k m n b) : lplainB b = plainB b := congrArg (Br.mk b.len) (lplain_eq h.g)
def lturnsY (r : Gr) (near far ys : List Gr) : List Rat :=
  ((ys.filter fun g => Ln.same g.l r.l).map fun g => r.l.turnTo g.l).filter fun a => decide (lturnedG a near = far)
theorem lturnsY_app (r : Gr) (near far ys zs : List Gr) : lturnsY r near far (ys ++ zs) = lturnsY r near far ys ++ lturnsY r near far zs := by
  unfold lturnsY
  rw [List.filter_append, List.map_append, List.filter_append]
theorem lturnsY_one (r : Gr) (near far : List Gr) (g : Gr) : lturnsY r near far [g] =
    if Ln.same g.l r.l = true then (if lturnedG (r.l.turnTo g.l) near = far then [r.l.turnTo g.l] else []) else [] := by
  unfold lturnsY
  by_cases h : Ln.same g.l r.l = true
  · have e : ([g].filter fun g => Ln.same g.l r.l) = [g] := by
      rw [List.filter_eq_self]
      intro x hx
      rw [List.mem_singleton.mp hx]
      exact h
    rw [if_pos h, e, List.map_cons, List.map_nil]
    by_cases h2 : lturnedG (r.l.turnTo g.l) near = far
    · rw [if_pos h2, List.filter_eq_self]
      intro x hx
      rw [List.mem_singleton.mp hx]
      exact decide_eq_true h2
    · rw [if_neg h2, List.filter_eq_nil_iff]
      intro x hx
      rw [List.mem_singleton.mp hx, decide_eq_true_eq]
      exact h2
  · have e : ([g].filter fun g => Ln.same g.l r.l) = [] := by
      rw [List.filter_eq_nil_iff]
      intro x hx
      rw [List.mem_singleton.mp hx]
      exact h
    rw [if_neg h, e]
    rfl
theorem lturnsY_len (r : Gr) (near far ys : List Gr) : (lturnsY r near far ys).length ≤ ys.length := by
  unfold lturnsY
  refine Nat.le_trans (List.length_filter_le _ _) ?_
  rw [List.length_map]
  exact List.length_filter_le _ _
theorem eqv_nil (xs : List Ln) : PyData.eqv (.list (xs.map encL)) (.list []) = decide (xs = []) := by
  cases xs with
  | nil => rfl
  | cons x xs => rw [decide_eq_false (fun z => nomatch z)]; rfl
theorem sh_ls (xs : List Ln) : SeqAt.shaped (.list (xs.map encL)) = true := shp (by rw [nb]; exact nbAll_map nb_L xs) (by
  rw [PyData.depth]
  have := depthAll_map (fun l => Nat.le_of_eq (dp_L l)) xs
  omega)
section
variable {S : Sta} {p : Bool} {e : Expr} {Γ : List En} {t t1 : Tn} {p1 p2 p3 : Pos}
theorem de_last {l : Ln} {j : _} (h : DE S p e Γ t (encL l) t1) : DE S p (.Subscript e (.UnaryOp .USub (.Constant (.int 1) j p1) p2) p3) Γ t (encQ l.last) t1 := by
  cases l with
  | ring q => exact de_ix (DE.tup h) (de_neg de_int) rfl
  | flute q => exact de_ix (DE.tup h) (de_neg de_int) rfl
  | lead l q => exact de_ix (DE.tup h) (de_neg de_int) rfl
end
theorem last_bd {k : Nat} {l : Ln} (h : BdL k l) : Bd k l.last := by
  cases l with
  | ring q => exact h
  | flute q => exact h
  | lead l p => exact h.2.2
section
variable {P : Program} {w : World} {K : PySem.W.Frag} {mg : Str → Option Value} {base : Heap}
theorem df__law_turns (G : Ge K mg) : Df P w K mg base "_law_turns" 8 (fun eS t rS tS => ∃ (b o : Br) (k m n k' m' n' : Nat), ((OkB k m n b ∧ n ≤ 16 ∧ m ≤ 50 ∧ k ≤ 400) ∧ (OkB k' m' n' o ∧ n' ≤ 16 ∧ m' ≤ 50 ∧ k' ≤ 400)) ∧ eS = [.v (encB b), .v (encB o)] ∧ rS = .d (encT (lturnsB b o)) ∧ tS = t) := by
  refine mkD G 77 ["_law_bar_so", "_law_other_so", "_law_near_so", "_law_far_so", "_law_own", "_law_rounds_so", "_law_found", "_law_part_so", "_law_turn_so"] ["_law_bar_so", "_law_other_so"] (by decide +kernel) ⟨rfl, rfl, rfl, by decide +kernel, rfl, by decide +kernel, by decide +kernel⟩ (fun f fd F => F.bindsN fun _ _ _ _ _ _ us hl => match us, hl with | [_, _], _ => rfl) (fun es t r t' h => by obtain ⟨_, _, _, _, _, _, _, _, _, rfl, _, _⟩ := h; rfl) ?_
  rintro p _ t0 _ t ⟨b, o, k, m, n, k', m', n', hP, rfl, rfl, rfl⟩
  obtain ⟨⟨hb, hn, hm, hk⟩, hb', hn', hm', hk'⟩ := hP
  have hpl := hb.plain
  have hpl' := hb'.plain
  have hb1 := hb.rows
  have hb2 := hb'.rows
  rw [← hb.lplain] at hpl
  rw [← hb'.lplain] at hpl'
  have hr1 : (lplainG b.gs).length ≤ 2 * n := hpl.rows
  have hr2 : (lplainG o.gs).length ≤ 2 * n' := hpl'.rows
  refine ds_cons ?_
  refine ds_par 2 3 (DE.dv (de_call (df__law_plain G) (da_cons (de_n 0 rfl) da_nil) ⟨b, k, m, ?_, rfl, rfl, rfl⟩ rfl (Nat.le_of_ble_eq_true rfl))) (DE.dv (de_call (df__law_plain G) (da_cons (de_n 1 rfl) da_nil) ⟨o, k', m', ?_, rfl, rfl, rfl⟩ rfl (Nat.le_of_ble_eq_true rfl))) ?_ (by intro env h; cases env; cases h; rfl)
  · exact ⟨by omega, hm, hb.g⟩
  · exact ⟨by omega, hm', hb'.g⟩
  refine ds_cons ?_
  refine ds_if (c := !decide (b.len = o.len)) (DT.is (dt_cmp (dc_ne (DE.rd (de_ix (DE.tup (de_n 2 rfl)) de_int rfl)) (DE.rd (de_ix (DE.tup (de_n 3 rfl)) de_int rfl)) rfl rfl)) (by rw [eqv_dec (fun _ _ => encQ_inj) nb_Q]; rfl)) (fun h => ?_) fun h => ?_
  · have h : b.len ≠ o.len := by simpa using h
    (refine ds_one ?_; refine ds_ret (de_tup0 ) ?_)
    refine ⟨?_, rfl⟩
    unfold lturnsB
    rw [if_pos h]
    rfl
  have h : b.len = o.len := by simpa using h
  have hun : lturnsB b o = match rounds (lplainG b.gs) with
      | [] => if lplainG b.gs = lplainG o.gs then .all else .some []
      | r :: _ => .some (setQ (lturnsOf r (lplainG b.gs) (lplainG o.gs))) := by
    unfold lturnsB
    rw [if_neg (fun z => z h)]
    all_goals rfl
  rw [hun]
  refine ds_nil ?_
  refine ds_cons ?_
  refine ds_setLc 5 (own := [("_law_own", 4)]) (blk0 (by decide +kernel) rfl) (lplainG b.gs) encG (fun g => !g.l.isRing) (fun g => encL g.l) (di_tup (ds := (lplainG b.gs).map encG) (de_ix (DE.tup (de_n 2 rfl)) de_int rfl)) (by omega) ?step ?nx (by decide +kernel)
  case step =>
    intro g hg
    exact ⟨_, _, dg_n 4, by simp, dt_nring (de_ix (DE.tup (de_n 4 rfl)) de_int rfl), fun _ => (de_ix (DE.tup (de_n 4 rfl)) de_int rfl)⟩
  case nx =>
  have hrd : ((lplainG b.gs).filter (fun g => !g.l.isRing)).map (fun g => encL g.l) = ((rounds (lplainG b.gs)).map (·.l)).map encL := by rw [List.map_map]; rfl
  rw [hrd]
  have hro : ∀ r ∈ rounds (lplainG b.gs), r.l.isRing = false ∧ OkG k m r := fun r hr => by
    obtain ⟨h1, h2⟩ := List.mem_filter.mp hr
    exact ⟨by simpa using h2, hpl.g r h1⟩
  refine ds_cons ?_
  refine ds_if (c := decide ((rounds (lplainG b.gs)).map (·.l) = [])) (DT.is (dt_cmp (dc_eq (DO.rd (do_n 5 rfl)) (DO.rd (DN.own dn_lst0)) (sh_ls _) rfl)) (eqv_nil _)) (fun h0 => ?_) fun h0 => ?_
  · have h0 : rounds (lplainG b.gs) = [] := by simpa using h0
    rw [h0]
    refine ds_one ?_
    have hcmp : ∀ x y : Br, PyData.eqv (encB x) (encB y) = decide (x = y) := eqv_dec (fun _ _ => encB_inj) nb_B
    by_cases hq : lplainG b.gs = lplainG o.gs
    · refine ds_ret (de_if (c := true) (DT.is (dt_cmp (dc_eq (DE.rd (de_n 2 rfl)) (DE.rd (de_n 3 rfl)) (shB _) (shB _))) (by rw [hcmp]; exact decide_eq_true (by rw [lplainB, lplainB, h, hq]))) (fun _ => de_str) (fun h => (by cases h))) ⟨?_, rfl⟩
      show _ = encT (if lplainG b.gs = lplainG o.gs then Tr.all else Tr.some [])
      rw [if_pos hq]
      rfl
    · refine ds_ret (de_if (c := false) (DT.is (dt_cmp (dc_eq (DE.rd (de_n 2 rfl)) (DE.rd (de_n 3 rfl)) (shB _) (shB _))) (by rw [hcmp]; exact decide_eq_false (fun z => hq (congrArg Br.gs z)))) (fun h => (by cases h)) (fun _ => de_tup0)) ⟨?_, rfl⟩
      show _ = encT (if lplainG b.gs = lplainG o.gs then Tr.all else Tr.some [])
      rw [if_neg hq]
      rfl
  have h0 : rounds (lplainG b.gs) ≠ [] := by simpa using h0
  refine ds_nil ?_
  cases hrs : rounds (lplainG b.gs) with
  | nil => exact absurd hrs h0
  | cons r rs =>
    obtain ⟨hrr, hrok⟩ := hro r (by rw [hrs]; exact List.mem_cons_self)
    have hrl := bdl_up hrok.b.l hk
    have hr0 : atI (((r :: rs).map (·.l)).map encL) 0 = some (encL r.l) := atI_zero _ _
    (refine ds_cons ?_; refine ds_setN 6 (dn_lst0 ) ?_)
    refine ds_cons ?_
    refine ds_for (fun i Γ t' => t' = t ∧ ∃ x y z : En, Γ = [.v (encB b), .v (encB o), .v (encB (lplainB b)), .v (encB (lplainB o)), x, .own (((r :: rs).map (·.l)).map encL), .own ((lturnsY r (lplainG b.gs) (lplainG o.gs) ((lplainG o.gs).take i)).map encQ), y, z])
      (di_tup (ds := (lplainG o.gs).map encG) (de_ix (DE.tup (de_n 3 rfl)) de_int rfl)) ⟨rfl, _, _, _, rfl⟩ ?_ ?_
    · rintro i d' _ t hd ⟨rfl, x, y, z, rfl⟩
      rw [List.getElem?_map] at hd
      cases hq : (lplainG o.gs)[i]? with
      | none => rw [hq] at hd; cases hd
      | some g =>
      rw [hq] at hd
      have hd : encG g = d' := Option.some.inj hd
      subst hd
      have hi2 : i < (lplainG o.gs).length := (List.getElem?_eq_some_iff.mp hq).1
      have okg := hpl'.g g (List.mem_of_getElem? hq)
      have hgl := bdl_up okg.b.l hk'
      have htk : (lplainG o.gs).take (i + 1) = (lplainG o.gs).take i ++ [g] := by rw [List.take_succ, hq]; rfl
      have hyl := lturnsY_len r (lplainG b.gs) (lplainG o.gs) ((lplainG o.gs).take i)
      rw [List.length_take] at hyl
      refine ⟨_, _, dg_n 4, ?_⟩
      rw [htk, lturnsY_app, lturnsY_one]
      refine ds_one ?_
      refine ds_if (c := Ln.same g.l r.l) (DT.is (dt_cmp (dc_eq (DE.rd (de_call (df__law_sort G) (da_cons (de_ix (DE.tup (de_n 4 rfl)) de_int rfl) da_nil) ⟨_, rfl, rfl, rfl⟩ rfl (Nat.le_of_ble_eq_true rfl))) (DE.rd (de_call (df__law_sort G) (da_cons (de_ix (DO.seq (do_n 5 rfl)) de_int hr0) da_nil) ⟨_, rfl, rfl, rfl⟩ rfl (Nat.le_of_ble_eq_true rfl))) (sh_So _) (sh_So _))) (eqv_So _ _)) (fun h2 => ?_) fun h2 => ?_
      · rw [if_pos h2]
        have hgL := last_bd hgl
        have hrL := last_bd hrl
        refine ds_cons ?_
        refine ds_set 7 (de_call (df__law_less G) (da_cons (de_last (l := g.l) (de_ix (DE.tup (de_n 4 rfl)) de_int rfl)) (da_cons (de_last (l := r.l) (de_ix (DO.seq (do_n 5 rfl)) de_int hr0)) da_nil)) ⟨_, _, ⟨hgL.mono, hrL.mono⟩, rfl, rfl, rfl⟩ rfl (Nat.le_of_ble_eq_true rfl)) ?_
        refine ds_cons ?_
        refine ds_set 8 (d := encQ (r.l.turnTo g.l)) (t1 := t) ?tt ?_
        case tt =>
          cases g with
          | mk gl gs' ge gd =>
          cases r with
          | mk rl rs' re rd =>
          cases gl with
          | ring q => cases rl with
            | ring q2 => cases hrr
            | flute q2 => cases h2
            | lead l2 q2 => cases h2
          | flute q => cases rl with
            | ring q2 => cases hrr
            | lead l2 q2 => cases h2
            | flute q2 =>
              exact de_call (df__law_angle G) (da_cons (de_if (c := true) (DT.is (dt_cmp (dc_eq (DE.rd (de_ix (DE.tup (de_ix (DE.tup (de_n 4 rfl)) de_int rfl)) de_int rfl)) (DE.rd de_str) (by decide +kernel) (by decide +kernel))) (by decide +kernel)) (fun _ => (de_n 7 rfl)) (fun h => (by cases h))) da_nil) ⟨_, rfl, rfl, rfl⟩ rfl (Nat.le_of_ble_eq_true rfl)
          | lead l q => cases rl with
            | ring q2 => cases hrr
            | flute q2 => cases h2
            | lead l2 q2 =>
              have el : l = l2 := of_decide_eq_true h2
              subst el
              exact de_call (df__law_angle G) (da_cons (de_if (c := false) (DT.is (dt_cmp (dc_eq (DE.rd (de_ix (DE.tup (de_ix (DE.tup (de_n 4 rfl)) de_int rfl)) de_int rfl)) (DE.rd de_str) (by decide +kernel) (by decide +kernel))) (by decide +kernel)) (fun h => (by cases h)) (fun _ => de_call (df__law_minus G) (da_cons (de_call (df__law_quot G) (da_cons (de_n 7 rfl) (da_cons (de_ix (DE.tup (de_ix (DE.tup (de_n 4 rfl)) de_int rfl)) de_int rfl) da_nil)) ⟨_, _, ⟨(hgL.sub hrL).mono, hgl.1.mono, hgl.2.1⟩, rfl, rfl, rfl⟩ rfl (Nat.le_of_ble_eq_true rfl)) da_nil) ⟨_, rfl, rfl, rfl⟩ rfl (Nat.le_of_ble_eq_true rfl))) da_nil) ⟨_, rfl, rfl, rfl⟩ rfl (Nat.le_of_ble_eq_true rfl)
        have htb := turnTo_bd hrr hrl hgl
        refine ds_one ?_
        refine ds_if (c := decide (lturnedG (r.l.turnTo g.l) (lplainG b.gs) = lplainG o.gs)) (DT.is (dt_cmp (dc_eq (DE.rd (de_call (df__law_turned_bar G) (da_cons (de_n 2 rfl) (da_cons (de_n 8 rfl) da_nil)) ⟨lplainB b, r.l.turnTo g.l, ?_, rfl, rfl, rfl⟩ rfl (Nat.le_of_ble_eq_true rfl))) (DE.rd (de_n 3 rfl)) (shB _) (shB _))) ?_) (fun h3 => ?_) fun h3 => ?_
        · exact ⟨fun g hg => bdl_up (hpl.g g hg).b.l hk, by show (lplainG b.gs).length < 64; omega, htb⟩
        · rw [eqv_dec (fun _ _ => encB_inj) nb_B]
          refine decide_eq_decide.mpr ⟨fun z => congrArg Br.gs z, fun z => ?_⟩
          show Br.mk b.len _ = Br.mk o.len _
          rw [h]
          exact congrArg (Br.mk o.len) z
        · have h3 := of_decide_eq_true h3
          rw [if_pos h3]
          (refine ds_one ?_; refine ds_app 6 rfl (de_n 8 rfl) (by rw [List.length_map]; omega) ?_)
          refine ⟨rfl, .v (encG g), .v (encQ (g.l.last - r.l.last)), .v (encQ (r.l.turnTo g.l)), ?_⟩
          rw [List.map_append]
          rfl
        · have h3 := of_decide_eq_false h3
          rw [if_neg h3]
          refine ds_nil ⟨rfl, .v (encG g), .v (encQ (g.l.last - r.l.last)), .v (encQ (r.l.turnTo g.l)), ?_⟩
          rw [List.append_nil]
          rfl
      · rw [if_neg (by rw [h2]; decide)]
        refine ds_nil ⟨rfl, .v (encG g), y, z, ?_⟩
        rw [List.append_nil]
        rfl
    · rintro _ t ⟨rfl, x, y, z, rfl⟩
      rw [List.length_map, List.take_length]
      have := lturnsY_len r (lplainG b.gs) (lplainG o.gs) (lplainG o.gs)
      refine ds_one ?_
      exact ds_ret (de_tupleL (DO.seq (DN.own (dn_setS encOk_Q (lturnsY r (lplainG b.gs) (lplainG o.gs) (lplainG o.gs)) (DO.seq (do_n 6 rfl)) (by omega) rfl (G.f _ (by decide)) rfl (G.f _ (by decide))))) rfl (G.f _ (by decide))) ⟨rfl, rfl⟩
theorem OkB.lends {k m n : Nat} {b : Br} (h : OkB k m n b) : OkB (2 * k + 19) (m + 6) n (lendedB b) := by
  refine ⟨h.len, ?_, fun g hg => ?_⟩
  · have h1 : (lendedB b).gs.length = (b.gs.map (Gr.ended b.len)).length := (srt_perm _).length_eq
    rw [List.length_map] at h1
    rw [h1]
    exact h.rows
  · obtain ⟨x, hx, rfl⟩ := List.mem_map.mp ((srt_perm _).mem_iff.mp hg)
    exact (h.g x hx).ended h.len
theorem OkB.lmirr {k m n : Nat} {b : Br} (h : OkB k m n b) : OkB k m n (lmirrB b) := by
  refine ⟨h.len, ?_, fun g hg => ?_⟩
  · have h1 : (lmirrB b).gs.length = (b.gs.map Gr.mirr).length := (srt_perm _).length_eq
    rw [List.length_map] at h1
    rw [h1]
    exact h.rows
  · obtain ⟨x, hx, rfl⟩ := List.mem_map.mp ((srt_perm _).mem_iff.mp hg)
    exact (h.g x hx).mirr
theorem df__law_alike (G : Ge K mg) : Df P w K mg base "_law_alike" 9 (fun eS t rS tS => ∃ (b o : Br) (k m n k' m' n' : Nat), ((OkB k m n b ∧ n ≤ 16 ∧ m ≤ 44 ∧ k ≤ 190) ∧ (OkB k' m' n' o ∧ n' ≤ 16 ∧ m' ≤ 50 ∧ k' ≤ 400)) ∧ eS = [.v (encB b), .v (encB o)] ∧ rS = .d (.bool (lalikeB b o)) ∧ tS = t) := by
  refine mkD G 79 ["_law_bar_so", "_law_other_so"] ["_law_bar_so", "_law_other_so"] (by decide +kernel) ⟨rfl, rfl, rfl, by decide +kernel, rfl, by decide +kernel, by decide +kernel⟩ (fun f fd F => F.bindsN fun _ _ _ _ _ _ us hl => match us, hl with | [_, _], _ => rfl) (fun es t r t' h => by obtain ⟨_, _, _, _, _, _, _, _, _, rfl, _, _⟩ := h; rfl) ?_
  rintro p _ t0 _ t ⟨b, o, k, m, n, k', m', n', hP, rfl, rfl, rfl⟩
  obtain ⟨⟨hb, hn, hm, hk⟩, ho⟩ := hP
  have he := hb.lends
  have hb1 := hb.rows
  refine ds_one ?_
  refine ds_ret (de_or (de_cmp (dc_ne (DE.rd (de_call (df__law_turns G) (da_cons (de_n 0 rfl) (da_cons (de_n 1 rfl) da_nil)) ⟨b, o, k, m, n, k', m', n', ?_, rfl, rfl, rfl⟩ rfl (Nat.le_of_ble_eq_true rfl))) (DE.rd de_tup0) (sh_T _) rfl)) (fun _ => rfl) (fun _ => de_one (de_cmp (dc_ne (DE.rd (de_call (df__law_turns G) (da_cons (de_call (df__law_ended_bar G) (da_cons (de_n 0 rfl) da_nil) ⟨b, k, m, ?_, rfl, rfl, rfl⟩ rfl (Nat.le_of_ble_eq_true rfl)) (da_cons (de_n 1 rfl) da_nil)) ⟨lendedB b, o, 2 * k + 19, m + 6, n, k', m', n', ?_, rfl, rfl, rfl⟩ rfl (Nat.le_of_ble_eq_true rfl))) (DE.rd de_tup0) (sh_T _) rfl)))) ?_
  · exact ⟨⟨hb, by omega, by omega, by omega⟩, ho⟩
  · exact ⟨hb.g, by omega, by omega, by omega, hb.len⟩
  · exact ⟨⟨he, by omega, by omega, by omega⟩, ho⟩
  · exact ⟨by rw [neT, neT]; rfl, rfl⟩
def ptsOk (b e m : Br) : Bool := (pointsV b.len).all fun x => decide (depthV b.gs x.1 x.2 = depthV e.gs (b.len - x.1) (frac (-x.2))) && decide (depthV b.gs x.1 x.2 = depthV m.gs x.1 (frac (-x.2)))
theorem points_bd {len : Rat} (h : Bd 5 len) : ∀ x ∈ pointsV len, Bd 20 x.1 ∧ Bd 20 x.2 := by
  intro x hx
  unfold pointsV at hx
  obtain ⟨i, hi, hx⟩ := List.mem_flatMap.mp hx
  have hi := List.mem_range.mp hi
  obtain ⟨j, hj, rfl⟩ := List.mem_map.mp hx
  have hj := List.mem_range.mp hj
  have hbi : Bd 3 (((0 + (i : Int) : Int)) : Rat) := .int (by omega)
  have hb4 : Bd 3 (((4 : Int)) : Rat) := .int (by decide)
  exact ⟨((h.mul hbi).div hb4 (by decide +kernel)).mono, (Bd.divInt (k := 4) (a := 0 + (j : Int)) (b := 6) (by decide) (by omega) (by decide)).mono⟩
theorem df__law_points_right (G : Ge K mg) : Df P w K mg base "_law_points_right" 7 (fun eS t rS tS => ∃ (b e u : Br) (k m : Nat), (ptsOk b e u = true ∧ Bd 5 b.len ∧ k ≤ 400 ∧ m ≤ 50 ∧ (∀ g ∈ b.gs, OkG k m g) ∧ (∀ g ∈ e.gs, OkG k m g) ∧ (∀ g ∈ u.gs, OkG k m g)) ∧ eS = [.v (encB b), .v (encB e), .v (encB u)] ∧ rS = .d (.bool true) ∧ tS = t) := by
  refine mkD G 80 ["_law_bar_so", "_law_ended_so", "_law_turned_so", "_law_point_so", "_law_flat_so"] ["_law_bar_so", "_law_ended_so", "_law_turned_so"] (by decide +kernel) ⟨rfl, rfl, rfl, by decide +kernel, rfl, by decide +kernel, by decide +kernel⟩ (fun f fd F => F.bindsN fun _ _ _ _ _ _ us hl => match us, hl with | [_, _, _], _ => rfl) (fun es t r t' h => by obtain ⟨_, _, _, _, _, _, rfl, _, _⟩ := h; rfl) ?_
  rintro p _ t0 _ t ⟨b, e, u, k, m, hP, rfl, rfl, rfl⟩
  obtain ⟨hok, hl, hk, hm, hb, he, hu⟩ := hP
  have hok := List.all_eq_true.mp hok
  refine ds_cons ?_
  refine ds_for (fun i Γ t' => t' = t ∧ ∃ x y : En, Γ = [.v (encB b), .v (encB e), .v (encB u), x, y]) (di_list (ds := (pointsV b.len).map encP) (DE.as (DN.frz (dn_call (df__law_points G) (da_cons (de_ix (DE.tup (de_n 0 rfl)) de_int rfl) (da_cons de_int (da_cons de_int da_nil))) ⟨b.len, hl, rfl, rfl, rfl⟩ rfl (Nat.le_of_ble_eq_true rfl))) rfl)) ⟨rfl, _, _, rfl⟩ ?_ ?_
  · rintro i d _ t hd ⟨rfl, x1, x2, rfl⟩
    rw [List.getElem?_map] at hd
    cases hq : (pointsV b.len)[i]? with
    | none => rw [hq] at hd; cases hd
    | some x =>
    rw [hq] at hd
    have hd : encP x = d := Option.some.inj hd
    subst hd
    have hxm := List.mem_of_getElem? hq
    obtain ⟨q1, q2⟩ := points_bd hl x hxm
    have hx := hok x hxm
    rw [Bool.and_eq_true, decide_eq_true_eq, decide_eq_true_eq] at hx
    obtain ⟨e1, e2⟩ := hx
    refine ⟨_, _, dg_n 3, ?_⟩
    (refine ds_cons ?_; refine ds_set 4 (de_call (df__law_angle G) (da_cons (de_call (df__law_minus G) (da_cons (de_ix (DE.tup (de_n 3 rfl)) de_int rfl) da_nil) ⟨_, rfl, rfl, rfl⟩ rfl (Nat.le_of_ble_eq_true rfl)) da_nil) ⟨_, rfl, rfl, rfl⟩ rfl (Nat.le_of_ble_eq_true rfl)) ?_)
    refine ds_cons ?_
    refine ds_ifF (c := false) (DT.is (dt_cmp (dc_ne (DE.rd (de_call (df__law_depth G) (da_cons (de_n 0 rfl) (da_cons (de_n 3 rfl) da_nil)) ⟨b, x.1, x.2, k, m, ?_, rfl, rfl, rfl⟩ rfl (Nat.le_of_ble_eq_true rfl))) (DE.rd (de_call (df__law_depth G) (da_cons (de_n 1 rfl) (da_cons (de_tup2 (de_call (df__law_less G) (da_cons (de_ix (DE.tup (de_n 0 rfl)) de_int rfl) (da_cons (de_ix (DE.tup (de_n 3 rfl)) de_int rfl) da_nil)) ⟨_, _, ?_, rfl, rfl, rfl⟩ rfl (Nat.le_of_ble_eq_true rfl)) (de_n 4 rfl)) da_nil)) ⟨e, b.len - x.1, frac (-x.2), k, m, ?_, rfl, rfl, rfl⟩ rfl (Nat.le_of_ble_eq_true rfl))) rfl rfl)) (by rw [eqv_int, e1, decide_eq_true rfl]; rfl)) rfl ?_
    · exact ⟨hb, hk, hm, q1.mono, q2.mono⟩
    · exact ⟨hl.mono, q1.mono⟩
    · exact ⟨he, hk, hm, (hl.sub q1).mono, q2.neg.frac.mono⟩
    refine ds_nil ?_
    refine ds_one ?_
    refine ds_ifF (c := false) (DT.is (dt_cmp (dc_ne (DE.rd (de_call (df__law_depth G) (da_cons (de_n 0 rfl) (da_cons (de_n 3 rfl) da_nil)) ⟨b, x.1, x.2, k, m, ?_, rfl, rfl, rfl⟩ rfl (Nat.le_of_ble_eq_true rfl))) (DE.rd (de_call (df__law_depth G) (da_cons (de_n 2 rfl) (da_cons (de_tup2 (de_ix (DE.tup (de_n 3 rfl)) de_int rfl) (de_n 4 rfl)) da_nil)) ⟨u, x.1, frac (-x.2), k, m, ?_, rfl, rfl, rfl⟩ rfl (Nat.le_of_ble_eq_true rfl))) rfl rfl)) (by rw [eqv_int, e2, decide_eq_true rfl]; rfl)) rfl ?_
    · exact ⟨hb, hk, hm, q1.mono, q2.mono⟩
    · exact ⟨hu, hk, hm, q1.mono, q2.neg.frac.mono⟩
    exact ds_nil ⟨rfl, .v (encP x), .v (encQ (frac (-x.2))), rfl⟩
  · rintro _ t ⟨rfl, x1, x2, rfl⟩
    refine ds_one ?_
    exact ds_ret de_bl ⟨rfl, rfl⟩
end
end Sc

/-! E21 -/
set_option Elab.async false
set_option linter.all false
set_option maxRecDepth 100000
namespace Sc
open PySem PySem.Spec PyProof.Rows L2 Evl
theorem OkG.turned {k m : Nat} {g : Gr} {a : Rat} (h : OkG k m g) (ha : Bd 4 a) : OkG (2 * k + 27) m (g.turned a) := by
  obtain ⟨⟨hl, hs, he⟩, hd, hw⟩ := h
  refine ⟨⟨?_, hs, he⟩, hd, ?_⟩
  · show BdL (2 * k + 27) (g.l.moved 0 a)
    revert hl
    cases g.l with
    | ring q => exact fun h => ((show Bd k q from h).add bd0).mono
    | flute q => exact fun h => (((show Bd k q from h).add ha).frac).mono
    | lead l p => exact fun h => ⟨h.1, h.2.1, ((((h.2.2.add bd0).sub (h.1.mul ha))).rnd h.1 h.2.1).mono⟩
  · cases g with
    | mk l s e d =>
      cases l with
      | ring q =>
        obtain ⟨h1, h2⟩ := (show s = q ∧ e = q from hw)
        show s = q + 0 ∧ e = q + 0
        rw [Rat.add_zero]
        exact ⟨h1, h2⟩
      | flute q => exact hw
      | lead l q => exact hw
theorem OkB.lturned {k m n : Nat} {b : Br} {a : Rat} (h : OkB k m n b) (ha : Bd 4 a) : OkB (2 * k + 27) m n (lturnedB a b) := by
  refine ⟨h.len, ?_, fun g hg => ?_⟩
  · have h1 : (lturnedB a b).gs.length = (b.gs.map (Gr.turned a)).length := (srt_perm _).length_eq
    rw [List.length_map] at h1
    rw [h1]
    exact h.rows
  · obtain ⟨x, hx, rfl⟩ := List.mem_map.mp ((srt_perm _).mem_iff.mp hg)
    exact (h.g x hx).turned ha
theorem sk_Q (n : Nat) (q : Rat) : sk (n + 1) (encQ q) = true := by
  show (true && (sk n (.int _) && (sk n (.int _) && true))) = true
  cases n <;> rfl
theorem sk_str (n : Nat) (x : Str) (h : PyData.strOk x = true) : sk n (.str x) = true := by cases n <;> exact h
theorem sk_L (n : Nat) (l : Ln) : sk (n + 2) (encL l) = true := by
  cases l with
  | ring q =>
    show (true && (sk (n + 1) (.str "ring") && (sk (n + 1) (encQ q) && true))) = true
    rw [sk_str _ _ (by decide +kernel), sk_Q]
    rfl
  | flute q =>
    show (true && (sk (n + 1) (.str "flute") && (sk (n + 1) (encQ q) && true))) = true
    rw [sk_str _ _ (by decide +kernel), sk_Q]
    rfl
  | lead l q =>
    show (true && (sk (n + 1) (.str "lead") && (sk (n + 1) (encQ l) && (sk (n + 1) (encQ q) && true)))) = true
    rw [sk_str _ _ (by decide +kernel), sk_Q, sk_Q]
    rfl
theorem sk_int (n : Nat) (i : Int) : sk n (.int i) = true := by cases n <;> rfl
theorem sk_G (n : Nat) (g : Gr) : sk (n + 3) (encG g) = true := by
  show (true && (sk (n + 2) (encL g.l) && (sk (n + 2) (encQ g.s) && (sk (n + 2) (encQ g.e) && (sk (n + 2) (.int g.d) && true))))) = true
  rw [sk_L, sk_Q, sk_Q, sk_int]
  rfl
theorem sk_B {b : Br} (h : b.gs.length < 1000) : sk 5 (encB b) = true := by
  show (true && (sk 4 (encQ b.len) && (sk 4 (.tuple (b.gs.map encG)) && true))) = true
  have : sk 4 (.tuple (b.gs.map encG)) = true := by
    rw [sk, Bool.and_eq_true, decide_eq_true_eq, List.length_map, List.all_eq_true]
    refine ⟨h, fun x hx => ?_⟩
    obtain ⟨g, _, rfl⟩ := List.mem_map.mp hx
    exact sk_G 0 g
  rw [this, sk_Q]
  rfl
def trLen : Tr → Nat
  | .all => 0
  | .some as => as.length
theorem sk_T {x : Tr} (h : trLen x < 1000) : sk 5 (encT x) = true := by
  cases x with
  | all => exact sk_str 5 _ (by decide +kernel)
  | some as =>
    show (decide ((as.map encQ).length < 1000) && (as.map encQ).all (sk 4)) = true
    rw [Bool.and_eq_true, decide_eq_true_eq, List.length_map, List.all_eq_true]
    refine ⟨h, fun x hx => ?_⟩
    obtain ⟨q, _, rfl⟩ := List.mem_map.mp hx
    exact sk_Q 3 q
theorem sk_bool (n : Nat) (i : Bool) : sk n (.bool i) = true := by cases n <;> rfl
/-! ### what the law draws -/
def mV (t : Tn) : Nat := (1 + takeV t 4).toNat
def bV (t : Tn) : Br := barV (takeT t 4) (mV t)
def aV (t : Tn) : Rat := angV (barT (takeT t 4) (mV t))
def t3 (t : Tn) : Tn := angT (barT (takeT t 4) (mV t))
def tuV (t : Tn) : Br := lturnedB (aV t) (bV t)
def oV (t : Tn) : Br :=
  if takeV (t3 t) 6 = 0 then barV (takeT (t3 t) 6) 2 else if takeV (t3 t) 6 = 1 then lendedB (tuV t) else if takeV (t3 t) 6 = 2 then lmirrB (tuV t)
  else if takeV (t3 t) 6 = 3 then ⟨(tuV t).len, (tuV t).gs.drop 1⟩ else if takeV (t3 t) 6 = 4 then lplainB (tuV t) else tuV t
def oT (t : Tn) : Tn := if takeV (t3 t) 6 = 0 then barT (takeT (t3 t) 6) 2 else takeT (t3 t) 6
/-- what must be true of the drawn BARS -/
structure Facts (b o : Br) (a : Rat) : Prop where
  e : endsB b = lplainB (lendedB b)
  m : mirrB b = lplainB (lmirrB b)
  p : ptsOk b (lplainB (lendedB b)) (lplainB (lmirrB b)) = true
  t1 : turnsB b (lturnedB a b) = lturnsB b (lturnedB a b)
  t2 : turnsB b o = lturnsB b o
  t3 : turnsB o b = lturnsB o b
  a1 : alikeB b o = lalikeB b o
  a2 : alikeB o b = lalikeB o b
  h : alikeB b (mirrB b) = lalikeB b (lmirrB b)
  n : ∀ as, lturnsB b (lturnedB a b) = .some as → a ∈ as
  l1 : trLen (lturnsB b (lturnedB a b)) < 1000
  l2 : trLen (lturnsB b o) < 1000
  l3 : trLen (lturnsB o b) < 1000
theorem mV_ok (t : Tn) : mV t ≤ 4 ∧ 1 + takeV t 4 = (mV t : Int) := by
  have := takeV_rng (t := t) (b := 4) (by decide)
  unfold mV
  omega
theorem bV_ok {t : Tn} {n : Nat} (h : Tk n t) : OkB 25 6 4 (bV t) ∧ (∀ g ∈ (bV t).gs, LnD g.l) ∧ 0 < (bV t).len := by
  obtain ⟨h1, h2, h3⟩ := barV_ok (t := takeT t 4) h.take (mV t)
  exact ⟨h1.mono (Nat.le_refl _) (Nat.le_refl _) (mV_ok t).1, h2, h3⟩
theorem tuV_ok {t : Tn} {n : Nat} (h : Tk n t) : OkB 77 6 4 (tuV t) := (bV_ok h).1.lturned (angV_bd _)
theorem tk3 {t : Tn} {n : Nat} (h : Tk n t) : Tk (n + 60) (t3 t) := ((barS_ok (t := takeT t 4) h.take (mV t)).t.ang).mono (by have := (mV_ok t).1; omega)
theorem oV_ok {t : Tn} {n : Nat} (h : Tk n t) : OkB 173 12 8 (oV t) := by
  have hT := tuV_ok h
  unfold oV
  split
  · exact (barV_ok (t := takeT (t3 t) 6) (tk3 h).take 2).1.mono (by omega) (by omega) (by omega)
  · split
    · exact hT.lends.mono (by omega) (by omega) (by omega)
    · split
      · exact hT.lmirr.mono (by omega) (by omega) (by omega)
      · split
        · refine ⟨hT.len, ?_, fun g hg => (hT.g g (List.mem_of_mem_drop hg)).mono (by omega) (by omega)⟩
          have := hT.rows
          show ((tuV t).gs.drop 1).length ≤ 8
          rw [List.length_drop]
          omega
        · split
          · rw [hT.lplain]
            exact hT.plain.mono (by omega) (by omega) (by omega)
          · exact hT.mono (by omega) (by omega) (by omega)
theorem any_memQ (as : List Rat) (a : Rat) (h : a ∈ as) : (!(as.map encQ).any fun z => PyData.eqv z (encQ a)) = false := by
  rw [any_mem, decide_eq_true h]
  rfl
section
variable {S : Sta} {p : Bool} {Γ : List En} {t t1 t2 t3 t4 t5 t6 : Tn} {a b c e f g : Expr} {d1 d2 d3 d4 d5 d6 : PD} {pos : Pos}
theorem dn_lst6 (h1 : DE S p a Γ t d1 t1) (h2 : DE S p b Γ t1 d2 t2) (h3 : DE S p c Γ t2 d3 t3) (h4 : DE S p e Γ t3 d4 t4) (h5 : DE S p f Γ t4 d5 t5) (h6 : DE S p g Γ t5 d6 t6)
    (n1 : Ns a := by intro _ _; rfl) (n2 : Ns b := by intro _ _; rfl) (n3 : Ns c := by intro _ _; rfl) (n4 : Ns e := by intro _ _; rfl) (n5 : Ns f := by intro _ _; rfl) (n6 : Ns g := by intro _ _; rfl) : DN S p (.List [a, b, c, e, f, g] pos) Γ t [d1, d2, d3, d4, d5, d6] t6 :=
  dn_lst (ds := [d1, d2, d3, d4, d5, d6]) (da_cons h1 (da_cons h2 (da_cons h3 (da_cons h4 (da_cons h5 (da_cons h6 da_nil n6) n5) n4) n3) n2) n1) (by show 6 ≤ _; decide)
end
section
variable {P : Program} {w : World} {K : PySem.W.Frag} {mg : Str → Option Value} {base : Heap}
theorem df__law_right (G : Ge K mg) : Df P w K mg base "_law_right" 11 (fun eS t rS tS => ∃ (n : Nat), (Tk n t ∧ n < 1000 ∧ Facts (bV t) (oV t) (aV t)) ∧ eS = [.tin] ∧ rS = .d (.bool true) ∧ tS = oT t) := by
  refine mkD G 81 ["_law_tin", "_law_bar_so", "_law_angle_so", "_law_turned_so", "_law_got", "_law_due", "_law_kind_so", "_law_other_so"] ["_law_tin"] (by decide +kernel) ⟨rfl, rfl, rfl, by decide +kernel, rfl, by decide +kernel, by decide +kernel⟩ (fun f fd F => F.bindsN fun _ _ _ _ _ _ us hl => match us, hl with | [_], _ => rfl) (fun es t r t' h => by obtain ⟨_, _, rfl, _, _⟩ := h; rfl) ?_
  rintro p _ t _ _ ⟨n, hP, rfl, rfl, rfl⟩
  obtain ⟨hT, hn, hF⟩ := hP
  obtain ⟨hB, hBl, hB0⟩ := bV_ok hT
  have hTu := tuV_ok hT
  have hO := oV_ok hT
  obtain ⟨m1, m2⟩ := mV_ok t
  have h3 := tk3 hT
  have hsame : Df P w K mg base "_law_same" 7 (arSame 6) := df__law_same G 6
  have hlists : Df P w K mg base "_law_lists" 6 (arLists 5) := df__law_lists G 5
  have hBr := hB.rows
  have hOr := hO.rows
  have hTr := hTu.rows
  have tkB : tk 5 (encB (bV t)) = true := tk_B _ (by omega)
  have tkO : tk 5 (encB (oV t)) = true := tk_B _ (by omega)
  have iB : IsB (bV t) (encB (bV t)) := isB_self (by omega)
  have iBl : IsB (bV t) (listD (encB (bV t))) := isB_list (by omega)
  have iO : IsB (oV t) (encB (oV t)) := isB_self (by omega)
  have iOl : IsB (oV t) (listD (encB (oV t))) := isB_list (by omega)
  have iT : IsB (tuV t) (encB (tuV t)) := isB_self (by omega)
  have hA : Bd 4 (aV t) := angV_bd _
  refine ds_cons ?_
  refine ds_par 1 2 (en := .v (encB (bV t))) (em := .v (encQ (aV t))) (DE.dv (de_call (df__law_bar G) (da_tin 0 rfl (da_cons (DE.as (d' := .int (mV t : Int)) (de_add de_int (de_call (df__law_take G) (da_tin 0 rfl (da_cons de_int da_nil)) ⟨n, 4, ⟨hT, by omega, by decide, by decide⟩, rfl, rfl, rfl⟩ rfl (Nat.le_of_ble_eq_true rfl))) (by rw [← m2])) da_nil)) ⟨n + 1, mV t, ⟨hT.take, by omega, by omega⟩, rfl, rfl, rfl⟩ rfl (Nat.le_of_ble_eq_true rfl))) (DE.dv (de_call (df__law_drawn_angle G) (da_tin 0 rfl da_nil) ⟨n + 60, ⟨?ta, by omega⟩, rfl, rfl, rfl⟩ rfl (Nat.le_of_ble_eq_true rfl))) ?_ (by intro env h; cases env; cases h; rfl)
  case ta => exact (barS_ok (t := takeT t 4) hT.take (mV t)).t.mono (by omega)
  have e3 : angT (barT (takeT t 4) (mV t)) = t3 t := rfl
  rw [e3]
  refine ds_cons ?_
  refine ds_set 3 (d := encB (tuV t)) (de_call (df__law_turned_bar G) (da_cons (de_n 1 rfl) (da_cons (de_n 2 rfl) da_nil)) ⟨bV t, aV t, ?_, rfl, rfl, rfl⟩ rfl (Nat.le_of_ble_eq_true rfl)) ?_
  · exact ⟨fun g hg => bdl_up (hB.g g hg).b.l (by omega), by omega, hA.mono⟩
  refine ds_cons ?_
  refine ds_par 4 5 (en := .own [encB (endsB (bV t)), encB (mirrB (bV t))]) (em := .own [encB (lplainB (lendedB (bV t))), encB (lplainB (lmirrB (bV t)))])
    (DN.dv (dn_lst2 (de_call (df_ends_exchanged G) (da_cons (de_call hlists (da_cons (de_n 1 rfl) da_nil) ⟨_, tkB, rfl, rfl, rfl⟩ rfl (Nat.le_of_ble_eq_true rfl)) da_nil) ⟨bV t, _, 25, 6, 4, ⟨iBl, hB, by omega, by omega, by omega⟩, rfl, rfl, rfl⟩ rfl (Nat.le_of_ble_eq_true rfl)) (de_call (df_bar_mirrored G) (da_cons (de_n 1 rfl) da_nil) ⟨bV t, _, 25, 6, 4, ⟨iB, hB, by omega, by omega⟩, rfl, rfl, rfl⟩ rfl (Nat.le_of_ble_eq_true rfl))))
    (DN.dv (dn_lst2 (de_call (df__law_plain G) (da_cons (de_call (df__law_ended_bar G) (da_cons (de_n 1 rfl) da_nil) ⟨bV t, 25, 6, ⟨hB.g, by omega, by omega, by omega, hB.len⟩, rfl, rfl, rfl⟩ rfl (Nat.le_of_ble_eq_true rfl)) da_nil) ⟨lendedB (bV t), 69, 12, ?pe, rfl, rfl, rfl⟩ rfl (Nat.le_of_ble_eq_true rfl)) (de_call (df__law_plain G) (da_cons (de_call (df__law_mirrored_bar G) (da_cons (de_n 1 rfl) da_nil) ⟨bV t, by omega, rfl, rfl, rfl⟩ rfl (Nat.le_of_ble_eq_true rfl)) da_nil) ⟨lmirrB (bV t), 25, 6, ?pm, rfl, rfl, rfl⟩ rfl (Nat.le_of_ble_eq_true rfl)))) ?_ (by intro env h; cases env; cases h; rfl)
  case pe => exact ⟨by have := hB.lends.rows; omega, by omega, hB.lends.g⟩
  case pm => exact ⟨by have := hB.lmirr.rows; omega, by omega, hB.lmirr.g⟩
  have hPE : OkB 69 12 8 (lplainB (lendedB (bV t))) := by
    rw [hB.lends.lplain]
    exact hB.lends.plain
  have hPM : OkB 25 6 8 (lplainB (lmirrB (bV t))) := by
    rw [hB.lmirr.lplain]
    exact hB.lmirr.plain
  rw [hF.e, hF.m]
  refine ds_cool 4 rfl ?_
  refine ds_cool 5 rfl ?_
  refine ds_cons ?_
  refine ds_ifF (c := !true || !true) (dw_pt (dw_or (dt_not (dt_v (de_call hsame (da_cons (de_n 4 rfl) (da_cons (de_n 5 rfl) da_nil)) ⟨_, ?sk, rfl, rfl, rfl⟩ rfl (Nat.le_of_ble_eq_true rfl)))) (fun _ => dw_or1 (dt_not (dt_v (de_call (df__law_points_right G) (da_cons (de_n 1 rfl) (da_cons (de_ix (d := encB (lplainB (lendedB (bV t)))) (DE.lst (de_n 5 rfl)) de_int rfl) (da_cons (de_ix (d := encB (lplainB (lmirrB (bV t)))) (DE.lst (de_n 5 rfl)) de_int rfl) da_nil))) ⟨_, _, _, 69, 12, ?pp, rfl, rfl, rfl⟩ rfl (Nat.le_of_ble_eq_true rfl))))))) rfl ?_
  case sk =>
    show (true && (sk 5 (encB _) && (sk 5 (encB _) && true))) = true
    rw [sk_B (by have := hPE.rows; omega), sk_B (by have := hPM.rows; omega)]
    rfl
  case pp => exact ⟨hF.p, hB.len, by omega, by omega, fun g hg => (hB.g g hg).mono (by omega) (by omega), hPE.g, fun g hg => (hPM.g g hg).mono (by omega) (by omega)⟩
  refine ds_nil ?_
  refine ds_cons ?_
  refine ds_set 6 (de_call (df__law_take G) (da_tin 0 rfl (da_cons de_int da_nil)) ⟨n + 60, 6, ⟨h3, by omega, by decide, by decide⟩, rfl, rfl, rfl⟩ rfl (Nat.le_of_ble_eq_true rfl)) ?_
  refine ds_cons ?_
  refine ds_set 7 (de_n 3 rfl) ?_
  refine ds_cons ?_
  have fin : ∀ (tt : Tn), tt = oT t → DSs (St0 P w K mg base ["_law_tin", "_law_bar_so", "_law_angle_so", "_law_turned_so", "_law_got", "_law_due", "_law_kind_so", "_law_other_so"] 81 10) p ((defBody (topS 81)).drop 7)
      [.tin, .v (encB (bV t)), .v (encQ (aV t)), .v (encB (tuV t)), .v (.list [encB (lplainB (lendedB (bV t))), encB (lplainB (lmirrB (bV t)))]), .v (.list [encB (lplainB (lendedB (bV t))), encB (lplainB (lmirrB (bV t)))]), .v (.int (takeV (t3 t) 6)), .v (encB (oV t))] tt (BodyPost (.d (.bool true)) (oT t)) := by
    rintro _ rfl
    refine ds_cons ?_
    refine ds_setN 4 (dn_lst6 (de_call (df_turns_between G) (da_cons (de_n 1 rfl) (da_cons (de_n 3 rfl) da_nil)) ⟨bV t, tuV t, _, _, 25, 6, 4, 77, 6, 4, ?_, rfl, rfl, rfl⟩ rfl (Nat.le_of_ble_eq_true rfl))
      (de_call (df_turns_between G) (da_cons (de_call hlists (da_cons (de_n 1 rfl) da_nil) ⟨_, tkB, rfl, rfl, rfl⟩ rfl (Nat.le_of_ble_eq_true rfl)) (da_cons (de_n 7 rfl) da_nil)) ⟨bV t, oV t, _, _, 25, 6, 4, 173, 12, 8, ?_, rfl, rfl, rfl⟩ rfl (Nat.le_of_ble_eq_true rfl))
      (de_call (df_turns_between G) (da_cons (de_n 7 rfl) (da_cons (de_n 1 rfl) da_nil)) ⟨oV t, bV t, _, _, 173, 12, 8, 25, 6, 4, ?_, rfl, rfl, rfl⟩ rfl (Nat.le_of_ble_eq_true rfl))
      (de_call (df_alike_bars G) (da_cons (de_n 1 rfl) (da_cons (de_n 7 rfl) da_nil)) ⟨bV t, oV t, _, _, 25, 6, 4, 173, 12, 8, ?_, rfl, rfl, rfl⟩ rfl (Nat.le_of_ble_eq_true rfl))
      (de_call (df_alike_bars G) (da_cons (de_call hlists (da_cons (de_n 7 rfl) da_nil) ⟨_, tkO, rfl, rfl, rfl⟩ rfl (Nat.le_of_ble_eq_true rfl)) (da_cons (de_n 1 rfl) da_nil)) ⟨oV t, bV t, _, _, 173, 12, 8, 25, 6, 4, ?_, rfl, rfl, rfl⟩ rfl (Nat.le_of_ble_eq_true rfl))
      (de_call (df_is_handed G) (da_cons (de_n 1 rfl) da_nil) ⟨bV t, _, 25, 6, 4, ?_, rfl, rfl, rfl⟩ rfl (Nat.le_of_ble_eq_true rfl))) ?_
    · exact ⟨⟨iB, hB, by omega, by omega, by omega⟩, iT, hTu, by omega, by omega, by omega⟩
    · exact ⟨⟨iBl, hB, by omega, by omega, by omega⟩, iO, hO, by omega, by omega, by omega⟩
    · exact ⟨⟨iO, hO, by omega, by omega, by omega⟩, iB, hB, by omega, by omega, by omega⟩
    · exact ⟨⟨iB, hB, by omega, by omega, by omega⟩, iO, hO, by omega, by omega, by omega⟩
    · exact ⟨⟨iOl, hO, by omega, by omega, by omega⟩, iB, hB, by omega, by omega, by omega⟩
    · exact ⟨iB, hB, by omega, by omega, by omega⟩
    refine ds_cool 4 rfl ?_
    refine ds_cons ?_
    refine ds_setN 5 (dn_lst6 (de_call (df__law_turns G) (da_cons (de_n 1 rfl) (da_cons (de_n 3 rfl) da_nil)) ⟨bV t, tuV t, 25, 6, 4, 77, 6, 4, ?_, rfl, rfl, rfl⟩ rfl (Nat.le_of_ble_eq_true rfl))
      (de_call (df__law_turns G) (da_cons (de_n 1 rfl) (da_cons (de_n 7 rfl) da_nil)) ⟨bV t, oV t, 25, 6, 4, 173, 12, 8, ?_, rfl, rfl, rfl⟩ rfl (Nat.le_of_ble_eq_true rfl))
      (de_call (df__law_turns G) (da_cons (de_n 7 rfl) (da_cons (de_n 1 rfl) da_nil)) ⟨oV t, bV t, 173, 12, 8, 25, 6, 4, ?_, rfl, rfl, rfl⟩ rfl (Nat.le_of_ble_eq_true rfl))
      (de_call (df__law_alike G) (da_cons (de_n 1 rfl) (da_cons (de_n 7 rfl) da_nil)) ⟨bV t, oV t, 25, 6, 4, 173, 12, 8, ?_, rfl, rfl, rfl⟩ rfl (Nat.le_of_ble_eq_true rfl))
      (de_call (df__law_alike G) (da_cons (de_n 7 rfl) (da_cons (de_n 1 rfl) da_nil)) ⟨oV t, bV t, 173, 12, 8, 25, 6, 4, ?_, rfl, rfl, rfl⟩ rfl (Nat.le_of_ble_eq_true rfl))
      (de_not (de_call (df__law_alike G) (da_cons (de_n 1 rfl) (da_cons (de_call (df__law_mirrored_bar G) (da_cons (de_n 1 rfl) da_nil) ⟨bV t, ?_, rfl, rfl, rfl⟩ rfl (Nat.le_of_ble_eq_true rfl)) da_nil)) ⟨bV t, lmirrB (bV t), 25, 6, 4, 25, 6, 4, ?_, rfl, rfl, rfl⟩ rfl (Nat.le_of_ble_eq_true rfl)))) ?_
    · exact ⟨⟨hB, by omega, by omega, by omega⟩, hTu, by omega, by omega, by omega⟩
    · exact ⟨⟨hB, by omega, by omega, by omega⟩, hO, by omega, by omega, by omega⟩
    · exact ⟨⟨hO, by omega, by omega, by omega⟩, hB, by omega, by omega, by omega⟩
    · exact ⟨⟨hB, by omega, by omega, by omega⟩, hO, by omega, by omega, by omega⟩
    · exact ⟨⟨hO, by omega, by omega, by omega⟩, hB, by omega, by omega, by omega⟩
    · omega
    · exact ⟨⟨hB, by omega, by omega, by omega⟩, hB.lmirr, by omega, by omega, by omega⟩
    have q1 : turnsB (bV t) (tuV t) = lturnsB (bV t) (tuV t) := hF.t1
    rw [q1, hF.t2, hF.t3, hF.a1, hF.a2, hF.h]
    refine ds_cool 5 rfl ?_
    have hsk : sk 6 (.list [encT (lturnsB (bV t) (tuV t)), encT (lturnsB (bV t) (oV t)), encT (lturnsB (oV t) (bV t)), .bool (lalikeB (bV t) (oV t)), .bool (lalikeB (oV t) (bV t)), .bool (!lalikeB (bV t) (lmirrB (bV t)))]) = true := by
      show (true && (sk 5 (encT _) && (sk 5 (encT _) && (sk 5 (encT _) && (sk 5 (.bool _) && (sk 5 (.bool _) && (sk 5 (.bool _) && true))))))) = true
      rw [sk_T (show trLen (lturnsB (bV t) (tuV t)) < 1000 from hF.l1), sk_T hF.l2, sk_T hF.l3, sk_bool, sk_bool, sk_bool]
      rfl
    have hn : ∀ as, lturnsB (bV t) (tuV t) = .some as → aV t ∈ as := hF.n
    generalize lturnsB (bV t) (tuV t) = x at hsk hn ⊢
    refine ds_cons ?_
    refine ds_ifF (c := false) (t1 := oT t) ?_ rfl ?_
    · cases x with
      | all => exact DT.is (dw_pt (dw_and (c := false) (c' := false) (DT.is (dt_cmp (dc_ne (DE.rd (de_ix (d := encT .all) (DE.lst (de_n 5 rfl)) de_int rfl)) (DE.rd de_str) (sh_T _) (sh_T .all))) (by rw [show PyData.str "all" = encT .all from rfl, eqv_self _ (nb_T _)]; rfl)) (fun h => (by cases h)))) rfl
      | some as =>
        refine DT.is (dw_pt (dw_and (c := true) (c' := false) (DT.is (dt_cmp (dc_ne (DE.rd (de_ix (d := encT (.some as)) (DE.lst (de_n 5 rfl)) de_int rfl)) (DE.rd de_str) (sh_T _) (sh_T .all))) rfl) (fun _ => dw_and1 (DT.is (dt_cmp (dc_ninT (DE.rd (de_n 2 rfl)) (DE.rd (de_ix (d := .tuple (as.map encQ)) (DE.lst (de_n 5 rfl)) de_int rfl)) rfl (sh_T (.some as)) rfl)) (any_memQ as _ (hn as rfl)))))) rfl
    refine ds_nil ?_
    refine ds_one ?_
    exact ds_ret (de_call hsame (da_cons (de_n 4 rfl) (da_cons (de_n 5 rfl) da_nil)) ⟨_, hsk, rfl, rfl, rfl⟩ rfl (Nat.le_of_ble_eq_true rfl)) ⟨rfl, rfl⟩
  unfold oV oT at fin
  refine ds_if (DT.is (dt_cmp (dc_eq (DE.rd (de_n 6 rfl)) (DE.rd de_int) rfl rfl)) (eqv_int _ _)) (fun h => ?_) fun h => ?_
  · have h : takeV (t3 t) 6 = 0 := of_decide_eq_true h
    rw [if_pos h, if_pos h] at fin
    refine ds_one ?_
    refine ds_set 7 (de_call (df__law_bar G) (da_tin 0 rfl (da_cons de_int da_nil)) ⟨n + 61, 2, ⟨h3.take, by omega, by omega⟩, rfl, rfl, rfl⟩ rfl (Nat.le_of_ble_eq_true rfl)) ?_
    have e : oT t = barT (takeT (t3 t) 6) 2 := by unfold oT; rw [if_pos h]
    rw [e]
    exact fin _ rfl
  have h : ¬ takeV (t3 t) 6 = 0 := of_decide_eq_false h
  have eT : oT t = takeT (t3 t) 6 := by unfold oT; rw [if_neg h]
  rw [if_neg h, if_neg h] at fin
  rw [eT]
  refine ds_one ?_
  refine ds_if (DT.is (dt_cmp (dc_eq (DE.rd (de_n 6 rfl)) (DE.rd de_int) rfl rfl)) (eqv_int _ _)) (fun h => ?_) fun h => ?_
  · have h : takeV (t3 t) 6 = 1 := of_decide_eq_true h
    rw [if_pos h] at fin
    refine ds_one ?_
    refine ds_set 7 (de_call (df__law_ended_bar G) (da_cons (de_n 3 rfl) da_nil) ⟨tuV t, 77, 6, ?_, rfl, rfl, rfl⟩ rfl (Nat.le_of_ble_eq_true rfl)) ?_
    · exact ⟨hTu.g, by omega, by omega, by omega, hTu.len⟩
    exact fin _ rfl
  have h : ¬ takeV (t3 t) 6 = 1 := of_decide_eq_false h
  rw [if_neg h] at fin
  refine ds_one ?_
  refine ds_if (DT.is (dt_cmp (dc_eq (DE.rd (de_n 6 rfl)) (DE.rd de_int) rfl rfl)) (eqv_int _ _)) (fun h => ?_) fun h => ?_
  · have h : takeV (t3 t) 6 = 2 := of_decide_eq_true h
    rw [if_pos h] at fin
    refine ds_one ?_
    refine ds_set 7 (de_call (df__law_mirrored_bar G) (da_cons (de_n 3 rfl) da_nil) ⟨tuV t, ?_, rfl, rfl, rfl⟩ rfl (Nat.le_of_ble_eq_true rfl)) ?_
    · omega
    exact fin _ rfl
  have h : ¬ takeV (t3 t) 6 = 2 := of_decide_eq_false h
  rw [if_neg h] at fin
  refine ds_one ?_
  refine ds_if (DT.is (dt_cmp (dc_eq (DE.rd (de_n 6 rfl)) (DE.rd de_int) rfl rfl)) (eqv_int _ _)) (fun h => ?_) fun h => ?_
  · have h : takeV (t3 t) 6 = 3 := of_decide_eq_true h
    rw [if_pos h] at fin
    refine ds_one ?_
    refine ds_set 7 (d := encB ⟨(tuV t).len, (tuV t).gs.drop 1⟩) (DE.as (de_tup2 (de_ix (DE.tup (de_n 3 rfl)) de_int rfl) (de_slT (de_ix (d := .tuple ((tuV t).gs.map encG)) (DE.tup (de_n 3 rfl)) de_int rfl) (dpt_some de_int) dpt_none)) ?sl) ?_
    case sl =>
      rw [show (some (1 : Int)) = some ((1 : Nat) : Int) from rfl, cutD_from, ← List.map_drop]
      rfl
    exact fin _ rfl
  have h : ¬ takeV (t3 t) 6 = 3 := of_decide_eq_false h
  rw [if_neg h] at fin
  refine ds_one ?_
  refine ds_if (DT.is (dt_cmp (dc_eq (DE.rd (de_n 6 rfl)) (DE.rd de_int) rfl rfl)) (eqv_int _ _)) (fun h => ?_) fun h => ?_
  · have h : takeV (t3 t) 6 = 4 := of_decide_eq_true h
    rw [if_pos h] at fin
    refine ds_one ?_
    refine ds_set 7 (de_call (df__law_plain G) (da_cons (de_n 3 rfl) da_nil) ⟨tuV t, 77, 6, ?_, rfl, rfl, rfl⟩ rfl (Nat.le_of_ble_eq_true rfl)) ?_
    · exact ⟨by omega, by omega, hTu.g⟩
    exact fin _ rfl
  · have h : ¬ takeV (t3 t) 6 = 4 := of_decide_eq_false h
    rw [if_neg h] at fin
    refine ds_nil ?_
    exact fin _ rfl
end
end Sc

/-! M7 -/
set_option Elab.async false
set_option linter.all false
set_option maxRecDepth 100000
namespace Sc
open PySem
/-! ### angles and phases -/
theorem floor_uniq {x : Rat} {n : Int} (h1 : (n : Rat) ≤ x) (h2 : x < (n : Rat) + 1) : x.floor = n := by
  have a := Rat.floor_le x
  have b := Rat.lt_floor_add_one x
  rw [Rat.intCast_add] at b
  have e1 : ((1 : Int) : Rat) = 1 := rfl
  rw [e1] at b
  have c1 : (n : Rat) < (x.floor : Rat) + 1 := by grind
  have c2 : (x.floor : Rat) < (n : Rat) + 1 := by grind
  have c1' : n < x.floor + 1 := by
    apply Rat.intCast_lt_intCast.mp
    rw [Rat.intCast_add, e1]
    exact c1
  have c2' : x.floor < n + 1 := by
    apply Rat.intCast_lt_intCast.mp
    rw [Rat.intCast_add, e1]
    exact c2
  omega
theorem frac_rng (x : Rat) : 0 ≤ frac x ∧ frac x < 1 := by
  have a := Rat.floor_le x
  have b := Rat.lt_floor_add_one x
  rw [Rat.intCast_add] at b
  have e1 : ((1 : Int) : Rat) = 1 := rfl
  rw [e1] at b
  unfold frac
  constructor <;> grind
theorem frac_add (x : Rat) (n : Int) : frac (x + n) = frac x := by
  have a := Rat.floor_le x
  have b := Rat.lt_floor_add_one x
  rw [Rat.intCast_add] at b
  have e1 : ((1 : Int) : Rat) = 1 := rfl
  rw [e1] at b
  have : (x + (n : Rat)).floor = x.floor + n := floor_uniq (by rw [Rat.intCast_add]; grind) (by rw [Rat.intCast_add]; grind)
  unfold frac
  rw [this, Rat.intCast_add]
  grind
theorem frac_of {x : Rat} (h0 : 0 ≤ x) (h1 : x < 1) : frac x = x := by
  have : x.floor = 0 := floor_uniq (by show (0 : Rat) ≤ x; exact h0) (by show x < (0 : Rat) + 1; grind)
  unfold frac
  rw [this]
  show x - (0 : Rat) = x
  grind
theorem frac_int (x : Rat) : ∃ n : Int, frac x = x + n := ⟨-x.floor, by unfold frac; rw [Rat.intCast_neg]; grind⟩
/-- equal but for a whole number of l -/
def Cg (l p q : Rat) : Prop := ∃ n : Int, p = q + n * l
theorem Cg.refl (l p : Rat) : Cg l p p := ⟨0, by show p = p + (0 : Rat) * l; grind⟩
theorem Cg.symm {l p q : Rat} (h : Cg l p q) : Cg l q p := by
  obtain ⟨n, h⟩ := h
  exact ⟨-n, by rw [Rat.intCast_neg]; grind⟩
theorem Cg.trans {l p q r : Rat} (h : Cg l p q) (h2 : Cg l q r) : Cg l p r := by
  obtain ⟨n, h⟩ := h
  obtain ⟨m, h2⟩ := h2
  exact ⟨n + m, by rw [Rat.intCast_add]; grind⟩
theorem frac_cg (x : Rat) : Cg 1 (frac x) x := by
  obtain ⟨n, h⟩ := frac_int x
  exact ⟨n, by rw [h]; grind⟩
theorem frac_congr {x y : Rat} (h : Cg 1 x y) : frac x = frac y := by
  obtain ⟨n, rfl⟩ := h
  rw [Rat.mul_one, frac_add]
theorem frac_uniq {x y : Rat} (h : Cg 1 x y) (h0 : 0 ≤ x) (h1 : x < 1) : frac y = x := by rw [← frac_congr h, frac_of h0 h1]
theorem ab_pos {l : Rat} (h : l ≠ 0) : 0 < ab l := by
  unfold ab
  split <;> grind
theorem Cg.ab {l p q : Rat} : Cg (ab l) p q ↔ Cg l p q := by
  unfold Sc.ab
  split
  · constructor
    · rintro ⟨n, h⟩
      exact ⟨-n, by rw [Rat.intCast_neg]; grind⟩
    · rintro ⟨n, h⟩
      exact ⟨-n, by rw [Rat.intCast_neg]; grind⟩
  · exact Iff.rfl
theorem rnd_eq {p l : Rat} (h : l ≠ 0) : rnd p l = frac (p / ab l) * ab l := by
  have := ab_ne h
  unfold rnd frac
  grind
theorem rnd_rng {p l : Rat} (h : l ≠ 0) : 0 ≤ rnd p l ∧ rnd p l < ab l := by
  rw [rnd_eq h]
  have hp := ab_pos h
  obtain ⟨a, b⟩ := frac_rng (p / ab l)
  constructor
  · exact Rat.mul_nonneg a (by grind)
  · have := Rat.mul_lt_mul_of_pos_right b hp
    rw [Rat.one_mul] at this
    exact this
theorem rnd_cg (p l : Rat) : Cg l (rnd p l) p := by
  refine Cg.ab.mp ⟨-(p / ab l).floor, ?_⟩
  unfold rnd
  rw [Rat.intCast_neg]
  grind
theorem rnd_congr {p q l : Rat} (h0 : l ≠ 0) (h : Cg l p q) : rnd p l = rnd q l := by
  obtain ⟨n, rfl⟩ := Cg.ab.mpr h
  have := ab_ne h0
  rw [rnd_eq h0, rnd_eq h0]
  congr 1
  rw [← frac_add (q / ab l) n]
  congr 1
  grind
theorem rnd_of {p l : Rat} (h0 : l ≠ 0) (h1 : 0 ≤ p) (h2 : p < ab l) : rnd p l = p := by
  have hp := ab_pos h0
  have hn := ab_ne h0
  rw [rnd_eq h0, frac_of]
  · grind
  · rw [Rat.div_def]
    exact Rat.mul_nonneg h1 (by have := Rat.inv_pos.mpr hp; grind)
  · have := Rat.mul_lt_mul_of_pos_right h2 (Rat.inv_pos.mpr hp)
    rw [Rat.mul_inv_cancel _ hn] at this
    rw [Rat.div_def]
    exact this
theorem rnd_uniq {p q l : Rat} (h0 : l ≠ 0) (h : Cg l p q) (h1 : 0 ≤ p) (h2 : p < ab l) : rnd q l = p := by rw [← rnd_congr h0 h, rnd_of h0 h1 h2]
/-! ### lines in their one form -/
def NormL : Ln → Prop
  | .ring _ => True
  | .flute q => 0 ≤ q ∧ q < 1
  | .lead l p => l ≠ 0 ∧ 0 ≤ p ∧ p < ab l
theorem LnD.norm {l : Ln} (h : LnD l) : NormL l := by
  cases l with
  | ring q => trivial
  | flute q => exact h.2.2.1 q rfl
  | lead a p =>
    obtain ⟨z, e⟩ := h.2.2.2 a p rfl
    have h0 : a ≠ 0 := h.1.2.1
    rw [e]
    exact ⟨h0, rnd_rng h0⟩
theorem NormL.moved {l : Ln} (h : NormL l) (sh tn : Rat) : NormL (l.moved sh tn) := by
  cases l with
  | ring q => trivial
  | flute q => exact frac_rng _
  | lead a p => exact ⟨h.1, rnd_rng h.1⟩
theorem ab_neg (l : Rat) : ab (-l) = ab l := by
  unfold ab
  split <;> split <;> grind
theorem NormL.mirr {l : Ln} (h : NormL l) : NormL l.mirr := by
  cases l with
  | ring q => trivial
  | flute q => exact frac_rng _
  | lead a p =>
    refine ⟨?_, h.2.1, by rw [ab_neg]; exact h.2.2⟩
    have := h.1
    grind
theorem NormL.ended {l : Ln} (h : NormL l) (far : Rat) : NormL (l.ended far) := by
  cases l with
  | ring q => trivial
  | flute q => exact frac_rng _
  | lead a p => exact ⟨h.1, rnd_rng h.1⟩
theorem frac_inj {x y : Rat} (h : frac x = frac y) : Cg 1 x y := (frac_cg x).symm.trans (by rw [h]; exact frac_cg y)
theorem rnd_inj {x y l : Rat} (h : rnd x l = rnd y l) : Cg l x y := (rnd_cg x l).symm.trans (by rw [h]; exact rnd_cg y l)
theorem Cg.neg {l p q : Rat} (h : Cg l p q) : Cg l (-p) (-q) := by
  obtain ⟨n, h⟩ := h
  exact ⟨-n, by rw [Rat.intCast_neg]; grind⟩
theorem Cg.add {l p q : Rat} (h : Cg l p q) (r : Rat) : Cg l (p + r) (q + r) := by
  obtain ⟨n, h⟩ := h
  exact ⟨n, by grind⟩
theorem cg1_eq {x y : Rat} (h : Cg 1 x y) (hx : 0 ≤ x ∧ x < 1) (hy : 0 ≤ y ∧ y < 1) : x = y := by rw [← frac_uniq h hx.1 hx.2, frac_of hy.1 hy.2]
theorem cgl_eq {x y l : Rat} (h0 : l ≠ 0) (h : Cg l x y) (hx : 0 ≤ x ∧ x < ab l) (hy : 0 ≤ y ∧ y < ab l) : x = y := by rw [← rnd_uniq h0 h hx.1 hx.2, rnd_of h0 hy.1 hy.2]
theorem ended_inj {a b : Ln} {far : Rat} (ha : NormL a) (hb : NormL b) (h : a.ended far = b.ended far) : a = b := by
  cases a with
  | ring q => cases b with
    | ring r => simp only [Ln.ended, Ln.ring.injEq] at h; congr 1; grind
    | flute r => cases h
    | lead l r => cases h
  | flute q => cases b with
    | ring r => cases h
    | lead l r => cases h
    | flute r =>
      simp only [Ln.ended, Ln.flute.injEq] at h
      congr 1
      refine cg1_eq ?_ ha hb
      have := (frac_inj h).neg
      rw [Rat.neg_neg, Rat.neg_neg] at this
      exact this
  | lead l q => cases b with
    | ring r => cases h
    | flute r => cases h
    | lead m r =>
      simp only [Ln.ended, Ln.lead.injEq] at h
      obtain ⟨rfl, h⟩ := h
      congr 1
      refine cgl_eq ha.1 ?_ ha.2 hb.2
      have := ((rnd_inj h).neg).add far
      have e1 : -(far - q) + far = q := by grind
      have e2 : -(far - r) + far = r := by grind
      rw [e1, e2] at this
      exact this
theorem mirr_inj {a b : Ln} (ha : NormL a) (hb : NormL b) (h : a.mirr = b.mirr) : a = b := by
  cases a with
  | ring q => cases b with
    | ring r => exact h
    | flute r => cases h
    | lead l r => cases h
  | flute q => cases b with
    | ring r => cases h
    | lead l r => cases h
    | flute r =>
      simp only [Ln.mirr, Ln.flute.injEq] at h
      congr 1
      refine cg1_eq ?_ ha hb
      have := (frac_inj h).neg
      rw [Rat.neg_neg, Rat.neg_neg] at this
      exact this
  | lead l q => cases b with
    | ring r => cases h
    | flute r => cases h
    | lead m r =>
      simp only [Ln.mirr, Ln.lead.injEq] at h
      have : l = m := by grind
      rw [this, h.2]
theorem moved_inj {a b : Ln} {sh tn : Rat} (ha : NormL a) (hb : NormL b) (h : a.moved sh tn = b.moved sh tn) : a = b := by
  cases a with
  | ring q => cases b with
    | ring r => simp only [Ln.moved, Ln.ring.injEq] at h; congr 1; grind
    | flute r => cases h
    | lead l r => cases h
  | flute q => cases b with
    | ring r => cases h
    | lead l r => cases h
    | flute r =>
      simp only [Ln.moved, Ln.flute.injEq] at h
      congr 1
      refine cg1_eq ?_ ha hb
      have := (frac_inj h).add (-tn)
      have e1 : q + tn + -tn = q := by grind
      have e2 : r + tn + -tn = r := by grind
      rw [e1, e2] at this
      exact this
  | lead l q => cases b with
    | ring r => cases h
    | flute r => cases h
    | lead m r =>
      simp only [Ln.moved, Ln.lead.injEq] at h
      obtain ⟨rfl, h⟩ := h
      congr 1
      refine cgl_eq ha.1 ?_ ha.2 hb.2
      have := (rnd_inj h).add (l * tn - sh)
      have e1 : q + sh - l * tn + (l * tn - sh) = q := by grind
      have e2 : r + sh - l * tn + (l * tn - sh) = r := by grind
      rw [e1, e2] at this
      exact this
/-- a turn that brings a line onto another of its sort -/
theorem turnTo_moved {n f : Ln} (hr : n.isRing = false) (hf : NormL f) (hs : Ln.same f n = true) : n.moved 0 (n.turnTo f) = f := by
  cases n with
  | ring q => cases hr
  | flute q => cases f with
    | ring r => cases hs
    | lead l r => cases hs
    | flute r =>
      show Ln.flute (frac (q + frac (r - q))) = _
      congr 1
      refine frac_uniq ?_ hf.1 hf.2
      have := ((frac_cg (r - q)).add q).symm
      have e1 : r - q + q = r := by grind
      have e2 : frac (r - q) + q = q + frac (r - q) := by grind
      rw [e1, e2] at this
      exact this
  | lead l q => cases f with
    | ring r => cases hs
    | flute r => cases hs
    | lead m r =>
      have e : m = l := of_decide_eq_true hs
      subst e
      show Ln.lead m (rnd (q + 0 - m * frac (-((r - q) / m))) m) = _
      congr 1
      have h0 : m ≠ 0 := hf.1
      refine rnd_uniq h0 ?_ hf.2.1 hf.2.2
      obtain ⟨k, hk⟩ := frac_int (-((r - q) / m))
      rw [hk]
      exact ⟨k, by grind⟩
theorem turnTo_self {n : Ln} {a : Rat} (hr : n.isRing = false) (hn : NormL n) (h0 : 0 ≤ a) (h1 : a < 1) : n.turnTo (n.moved 0 a) = a := by
  cases n with
  | ring q => cases hr
  | flute q =>
    show frac (frac (q + a) - q) = a
    refine frac_uniq ?_ h0 h1
    obtain ⟨k, hk⟩ := frac_int (q + a)
    exact ⟨-k, by rw [hk, Rat.intCast_neg]; grind⟩
  | lead l q =>
    show frac (-((rnd (q + 0 - l * a) l - q) / l)) = a
    refine frac_uniq ?_ h0 h1
    obtain ⟨k, hk⟩ := rnd_cg (q + 0 - l * a) l
    have hl : l ≠ 0 := hn.1
    exact ⟨k, by rw [hk]; grind⟩
theorem same_moved {n : Ln} (sh tn : Rat) : Ln.same (n.moved sh tn) n = true := by
  cases n with
  | ring q => rfl
  | flute q => rfl
  | lead l q => exact decide_eq_true rfl
end Sc

/-! M8 -/
set_option Elab.async false
set_option linter.all false
set_option maxRecDepth 100000
namespace Sc
open PySem
/-- a move of BARS that goes line by line -/
theorem plain_trans {T : Gr → Gr} {f : Ln → Ln} {gs : List Gr} (hT : ∀ g ∈ gs, (T g).l = f g.l) (inj : ∀ a ∈ gs.map (·.l), ∀ b ∈ gs.map (·.l), f a = f b → a = b)
    (hrow : ∀ l ∈ gs.map (·.l), ∀ x, x ∈ plainRow (f l) ((ofL l gs).map T) ↔ ∃ y ∈ plainRow l (ofL l gs), x = T y) : plainG (gs.map T) = setG ((plainG gs).map T) := by
  refine asc_uniq encOk_G.lo (plainG_asc _) (setS_asc encOk_G.lo _) fun x => ?_
  rw [mem_plain, mem_setS, List.mem_map]
  have hlines : ∀ l', l' ∈ (gs.map T).map (·.l) ↔ ∃ l ∈ gs.map (·.l), l' = f l := fun l' => by
    rw [List.map_map]
    simp only [List.mem_map, Function.comp]
    constructor
    · rintro ⟨g, hg, rfl⟩
      exact ⟨g.l, ⟨g, hg, rfl⟩, hT g hg⟩
    · rintro ⟨l, ⟨g, hg, rfl⟩, rfl⟩
      exact ⟨g, hg, hT g hg⟩
  have hof : ∀ l ∈ gs.map (·.l), ofL (f l) (gs.map T) = (ofL l gs).map T := fun l hl => by
    unfold ofL
    rw [List.filter_map]
    congr 1
    refine List.filter_congr fun g hg => ?_
    simp only [Function.comp]
    refine decide_eq_decide.mpr ?_
    rw [hT g hg]
    constructor
    · exact fun h => inj _ (List.mem_map.mpr ⟨g, hg, rfl⟩) _ hl h
    · exact fun h => by rw [h]
  constructor
  · rintro ⟨l', hl', hx⟩
    obtain ⟨l, hl, rfl⟩ := (hlines l').mp hl'
    rw [hof l hl] at hx
    obtain ⟨y, hy, rfl⟩ := (hrow l hl x).mp hx
    exact ⟨y, mem_plain.mpr ⟨l, hl, hy⟩, rfl⟩
  · rintro ⟨y, hy, rfl⟩
    obtain ⟨l, hl, hy⟩ := mem_plain.mp hy
    refine ⟨f l, (hlines _).mpr ⟨l, hl, rfl⟩, ?_⟩
    rw [hof l hl]
    exact (hrow l hl _).mpr ⟨y, hy, rfl⟩
def onlyL (f : Ln → Ln) (g : Gr) : Gr := { g with l := f g.l }
theorem segD_only (f : Ln → Ln) (gs : List Gr) (s e : Rat) : segD (gs.map (onlyL f)) s e = segD gs s e := by
  unfold segD
  rw [List.filter_map, List.map_map]
  rfl
theorem pstep_only (f : Ln → Ln) (gs : List Gr) : pstep (gs.map (onlyL f)) = pstep gs := by
  funext a se
  unfold pstep
  rw [segD_only]
theorem places_only (f : Ln → Ln) (gs : List Gr) : placesG (gs.map (onlyL f)) = placesG gs := by
  unfold placesG
  rw [List.map_map, List.map_map]
  rfl
theorem row_only {f : Ln → Ln} (hf : ∀ l, (f l).isRing = l.isRing) (hq : ∀ q, f (.ring q) = .ring q) (l : Ln) (gs : List Gr) : plainRow (f l) (gs.map (onlyL f)) = (plainRow l gs).map (onlyL f) := by
  by_cases hr : l.isRing = true
  · cases l with
    | flute q => cases hr
    | lead l q => cases hr
    | ring q =>
      rw [hq]
      show [_] = [_]
      rw [List.map_map]
      unfold onlyL
      rw [hq]
      rfl
  · have hr : l.isRing = false := by simpa using hr
    rw [prow_eq (by rw [hf]; exact hr), prow_eq hr, pstep_only, places_only, List.map_map]
    rfl
theorem plain_only {f : Ln → Ln} (hf : ∀ l, (f l).isRing = l.isRing) (hq : ∀ q, f (.ring q) = .ring q) {gs : List Gr} (inj : ∀ a ∈ gs.map (·.l), ∀ b ∈ gs.map (·.l), f a = f b → a = b) : plainG (gs.map (onlyL f)) = setG ((plainG gs).map (onlyL f)) :=
  plain_trans (f := f) (fun g _ => rfl) inj fun l _ x => by
    rw [row_only hf hq, List.mem_map]
    constructor
    · rintro ⟨y, hy, e⟩; exact ⟨y, hy, e.symm⟩
    · rintro ⟨y, hy, e⟩; exact ⟨y, hy, e.symm⟩
/-! ### the ends exchanged -/
def refl (far : Rat) (y : Sg) : Sg := (far - y.2.1, far - y.1, y.2.2)
theorem red_refl {A : List Sg} (far : Rat) (h : Red A) : Red (A.map (refl far)).reverse := by
  refine ⟨?_, fun x hx => ?_⟩
  · rw [List.pairwise_reverse, List.pairwise_map]
    refine h.p.imp fun {x y} r => ?_
    refine ⟨?_, fun z => ?_⟩
    · show far - y.1 ≤ far - x.2.1
      have := r.1
      grind
    · have z : far - y.1 = far - x.2.1 := z
      show y.2.2 ≠ x.2.2
      exact (r.2 (by grind)).symm
  · obtain ⟨y, hy, rfl⟩ := List.mem_map.mp (List.mem_reverse.mp hx)
    obtain ⟨o1, o2⟩ := h.o y hy
    exact ⟨by show far - y.2.1 < far - y.1; grind, o2⟩
theorem cov_refl {A : List Sg} {far x : Rat} {D : Int} : Cov (A.map (refl far)).reverse x D ↔ Cov A (far - x) D := by
  unfold Cov
  constructor
  · rintro ⟨z, hz, h1, h2, h3⟩
    obtain ⟨y, hy, rfl⟩ := List.mem_map.mp (List.mem_reverse.mp hz)
    have h1 : far - y.2.1 < x := h1
    have h2 : x < far - y.1 := h2
    exact ⟨y, hy, by grind, by grind, h3⟩
  · rintro ⟨y, hy, h1, h2, h3⟩
    exact ⟨refl far y, List.mem_reverse.mpr (List.mem_map.mpr ⟨y, hy, rfl⟩), by show far - y.2.1 < x; grind, by show x < far - y.1; grind, h3⟩
theorem ended_ring (l : Ln) (far : Rat) : (l.ended far).isRing = l.isRing := by cases l <;> rfl
theorem row_ended {far : Rat} {l : Ln} {gs : List Gr} (hw : l.isRing = false → ∀ g ∈ gs, g.s < g.e) (hl : ∀ g ∈ gs, g.l = l) (x : Gr) : x ∈ plainRow (l.ended far) (gs.map (Gr.ended far)) ↔ ∃ y ∈ plainRow l gs, x = y.ended far := by
  by_cases hr : l.isRing = true
  · cases l with
    | flute q => cases hr
    | lead l q => cases hr
    | ring q =>
      have e : (gs.map (Gr.ended far)).map (·.d) = gs.map (·.d) := by rw [List.map_map]; rfl
      show x ∈ [Gr.mk (.ring (far - q)) (far - q) (far - q) (maxI ((gs.map (Gr.ended far)).map (·.d)))] ↔ ∃ y ∈ [Gr.mk (.ring q) q q (maxI (gs.map (·.d)))], x = y.ended far
      rw [e]
      constructor
      · intro h
        rw [List.mem_singleton.mp h]
        exact ⟨_, List.mem_singleton.mpr rfl, rfl⟩
      · rintro ⟨y, hy, rfl⟩
        rw [List.mem_singleton.mp hy]
        exact List.mem_singleton.mpr rfl
  · have hr : l.isRing = false := by simpa using hr
    obtain ⟨h1, h2⟩ := pfold_red gs (hw hr)
    have hw' : ∀ g ∈ gs.map (Gr.ended far), g.s < g.e := fun g hg => by
      obtain ⟨g0, hg0, rfl⟩ := List.mem_map.mp hg
      have := hw hr g0 hg0
      show far - g0.e < far - g0.s
      grind
    rw [prow_uniq (l := l.ended far) (by rw [ended_ring]; exact hr) hw' (red_refl far h1) (E := (placesG gs).map fun q => far - q) fun x hx D hD => ?_, prow_eq hr]
    · constructor
      · intro h
        obtain ⟨z, hz, rfl⟩ := List.mem_map.mp h
        obtain ⟨y, hy, rfl⟩ := List.mem_map.mp (List.mem_reverse.mp hz)
        exact ⟨mkG l y, List.mem_map.mpr ⟨y, hy, rfl⟩, rfl⟩
      · rintro ⟨z, hz, rfl⟩
        obtain ⟨y, hy, rfl⟩ := List.mem_map.mp hz
        exact List.mem_map.mpr ⟨refl far y, List.mem_reverse.mpr (List.mem_map.mpr ⟨y, hy, rfl⟩), rfl⟩
    · have hx' : far - x ∉ placesG gs := fun z => hx (List.mem_map.mpr ⟨far - x, z, by grind⟩)
      rw [cov_refl, h2 _ hx' D hD, cov_map, cov_map]
      constructor
      · rintro ⟨g, hg, g1, g2, g3⟩
        exact ⟨g.ended far, List.mem_map.mpr ⟨g, hg, rfl⟩, by show far - g.e < x; grind, by show x < far - g.s; grind, g3⟩
      · rintro ⟨g', hg', g1, g2, g3⟩
        obtain ⟨g, hg, rfl⟩ := List.mem_map.mp hg'
        have g1 : far - g.e < x := g1
        have g2 : x < far - g.s := g2
        exact ⟨g, hg, by grind, by grind, g3⟩
def NormG (gs : List Gr) : Prop := ∀ g ∈ gs, NormL g.l
theorem plain_ended {k m : Nat} {gs : List Gr} {far : Rat} (hg : ∀ g ∈ gs, OkG k m g) (hn : NormG gs) : plainG (gs.map (Gr.ended far)) = setG ((plainG gs).map (Gr.ended far)) :=
  plain_trans (f := Ln.ended far) (fun g _ => rfl) (fun a ha b hb h => by
    obtain ⟨g, hgm, rfl⟩ := List.mem_map.mp ha
    obtain ⟨g', hgm', rfl⟩ := List.mem_map.mp hb
    exact ended_inj (hn g hgm) (hn g' hgm') h) fun l _ x => row_ended (fun hr g h => okg_lt (hg g (mem_ofL.mp h).1) (by rw [(mem_ofL.mp h).2]; exact hr)) (fun g h => (mem_ofL.mp h).2) x
theorem mirr_isRing (l : Ln) : l.mirr.isRing = l.isRing := by cases l <;> rfl
theorem moved_isRing (sh tn : Rat) (l : Ln) : (l.moved sh tn).isRing = l.isRing := by cases l <;> rfl
theorem plain_mirr {gs : List Gr} (hn : NormG gs) : plainG (gs.map Gr.mirr) = setG ((plainG gs).map Gr.mirr) :=
  plain_only (f := Ln.mirr) mirr_isRing (fun _ => rfl) fun a ha b hb h => by
    obtain ⟨g, hgm, rfl⟩ := List.mem_map.mp ha
    obtain ⟨g', hgm', rfl⟩ := List.mem_map.mp hb
    exact mirr_inj (hn g hgm) (hn g' hgm') h
theorem plain_turned {gs : List Gr} {a : Rat} (hn : NormG gs) : plainG (gs.map (Gr.turned a)) = setG ((plainG gs).map (Gr.turned a)) :=
  plain_only (f := Ln.moved 0 a) (moved_isRing 0 a) (fun q => by show Ln.ring (q + 0) = _; rw [Rat.add_zero]) fun x hx y hy h => by
    obtain ⟨g, hgm, rfl⟩ := List.mem_map.mp hx
    obtain ⟨g', hgm', rfl⟩ := List.mem_map.mp hy
    exact moved_inj (hn g hgm) (hn g' hgm') h
/-! ### the plain BAR's plain BAR -/
theorem plain_line {k m : Nat} {gs : List Gr} (hg : ∀ g ∈ gs, OkG k m g) {x : Gr} : x ∈ plainG gs ↔ x ∈ plainRow x.l (ofL x.l gs) ∧ x.l ∈ gs.map (·.l) := by
  rw [mem_plain]
  constructor
  · rintro ⟨l, hl, h⟩
    have e := (prow_ok (k := k) (m := m) (ofL_ne (mem_setS.mpr hl)) (fun g h => (mem_ofL.mp h).2) (fun g h => hg g (mem_ofL.mp h).1) x h).2
    rw [e]
    exact ⟨h, hl⟩
  · rintro ⟨h, hl⟩
    exact ⟨x.l, hl, h⟩
theorem row_idem {k m : Nat} {l : Ln} {gs : List Gr} (hne : gs ≠ []) (hl : ∀ g ∈ gs, g.l = l) (hg : ∀ g ∈ gs, OkG k m g) {rs : List Gr} (hrs : ∀ x, x ∈ rs ↔ x ∈ plainRow l gs) : plainRow l rs = plainRow l gs := by
  have okr : ∀ x ∈ plainRow l gs, OkG k m x ∧ x.l = l := prow_ok hne hl hg
  by_cases hr : l.isRing = true
  · cases l with
    | flute q => cases hr
    | lead l q => cases hr
    | ring q =>
      have e : plainRow (.ring q) gs = [⟨.ring q, q, q, maxI (gs.map (·.d))⟩] := rfl
      rw [e] at hrs ⊢
      show [_] = [_]
      congr 2
      have e2 : maxI (rs.map (·.d)) = maxI [maxI (gs.map (·.d))] := maxI_congr fun x => by
        simp only [List.mem_map, List.mem_singleton]
        constructor
        · rintro ⟨y, hy, rfl⟩
          rw [List.mem_singleton.mp ((hrs y).mp hy)]
        · rintro rfl
          exact ⟨_, (hrs _).mpr (List.mem_singleton.mpr rfl), rfl⟩
      rw [e2]
      show max (maxI (gs.map (·.d))) 0 = _
      have := maxI_nn (gs.map (·.d))
      omega
  · have hr : l.isRing = false := by simpa using hr
    obtain ⟨h1, h2⟩ := pfold_red gs fun g h => okg_lt (hg g h) (by rw [hl g h]; exact hr)
    have hw : ∀ g ∈ rs, g.s < g.e := fun g h => by
      obtain ⟨o1, o2⟩ := okr g ((hrs g).mp h)
      exact okg_lt o1 (by rw [o2]; exact hr)
    rw [prow_eq hr gs] at hrs ⊢
    refine prow_uniq hr hw h1 (E := []) fun x _ D _ => ?_
    rw [cov_map]
    constructor
    · rintro ⟨y, hy, h⟩
      exact ⟨mkG l y, (hrs _).mpr (List.mem_map.mpr ⟨y, hy, rfl⟩), h⟩
    · rintro ⟨g, hgm, h⟩
      obtain ⟨y, hy, rfl⟩ := List.mem_map.mp ((hrs g).mp hgm)
      exact ⟨y, hy, h⟩
theorem plain_idem {k m : Nat} {gs : List Gr} (hg : ∀ g ∈ gs, OkG k m g) : plainG (plainG gs) = plainG gs := by
  have okp : ∀ g ∈ plainG gs, OkG k m g := plainG_ok hg
  refine plain_ext fun x => ?_
  rw [plain_line okp, plain_line hg]
  have mem : ∀ l ∈ gs.map (·.l), ∀ y, y ∈ ofL l (plainG gs) ↔ y ∈ plainRow l (ofL l gs) := fun l hl y => by
    rw [mem_ofL, plain_line hg]
    constructor
    · rintro ⟨⟨h1, _⟩, rfl⟩
      exact h1
    · intro h
      have e := (prow_ok (k := k) (m := m) (ofL_ne (mem_setS.mpr hl)) (fun g h => (mem_ofL.mp h).2) (fun g h => hg g (mem_ofL.mp h).1) y h).2
      rw [e]
      exact ⟨⟨h, hl⟩, rfl⟩
  constructor
  · rintro ⟨h, hl⟩
    obtain ⟨y, hy, e⟩ := List.mem_map.mp hl
    have hl2 : x.l ∈ gs.map (·.l) := by rw [← e]; exact ((plain_line hg).mp hy).2
    rw [row_idem (k := k) (m := m) (ofL_ne (mem_setS.mpr hl2)) (fun g h => (mem_ofL.mp h).2) (fun g h => hg g (mem_ofL.mp h).1) (mem _ hl2)] at h
    exact ⟨h, hl2⟩
  · rintro ⟨h, hl2⟩
    rw [row_idem (k := k) (m := m) (ofL_ne (mem_setS.mpr hl2)) (fun g h => (mem_ofL.mp h).2) (fun g h => hg g (mem_ofL.mp h).1) (mem _ hl2)]
    exact ⟨h, List.mem_map.mpr ⟨x, (plain_line hg).mpr ⟨h, hl2⟩, rfl⟩⟩
theorem plainG_norm {k m : Nat} {gs : List Gr} (hg : ∀ g ∈ gs, OkG k m g) (hn : NormG gs) : NormG (plainG gs) := fun x hx => by
  obtain ⟨y, hy, e⟩ := List.mem_map.mp ((plain_line hg).mp hx).2
  rw [← e]
  exact hn y hy
theorem srt_mem (gs : List Gr) (x : Gr) : x ∈ srtG gs ↔ x ∈ gs := (srt_perm _).mem_iff
end Sc

/-! M9 -/
set_option Elab.async false
set_option linter.all false
set_option maxRecDepth 100000
namespace Sc
open PySem
/-! ### turns -/
theorem setS_nodup {α : Type} [DecidableEq α] {le : α → α → Bool} (o : Lo le) : ∀ {xs : List α}, (setS le xs).length = xs.length → xs.Nodup
  | [], _ => List.nodup_nil
  | x :: xs, h => by
    have h1 := insU_len (le := le) x (setS le xs)
    have h2 := setS_len (le := le) xs
    have h : (insU le x (setS le xs)).length = xs.length + 1 := h
    have e : (setS le xs).length = xs.length := by omega
    refine List.nodup_cons.mpr ⟨fun hx => ?_, setS_nodup o e⟩
    have hp : (insU le x (setS le xs)).Perm (setS le xs) := (List.perm_ext_iff_of_nodup (insU_asc o x (setS_asc o xs)).nodup (setS_asc o xs).nodup).mpr fun y => by
      rw [mem_insU]
      constructor
      · rintro (z | z)
        · rw [z]; exact mem_setS.mpr hx
        · exact z
      · exact .inr
    have := hp.length_eq
    omega
theorem turned_iff {a : Rat} {near far : List Gr} (hf : Asc (leD encG) far) (hl : near.length = far.length) : turnedG a near = far ↔ lturnedG a near = far := by
  have ne : (near.map (Gr.turned a)).length = far.length := by rw [List.length_map]; exact hl
  constructor
  · intro h
    have hn : (near.map (Gr.turned a)).Nodup := setS_nodup encOk_G.lo (by rw [ne]; exact congrArg List.length h)
    rw [← h]
    exact srt_set encOk_G.lo hn
  · intro h
    have hp : (near.map (Gr.turned a)).Perm far := by
      rw [← h]
      exact (srt_perm _).symm
    have hn : (near.map (Gr.turned a)).Nodup := hp.nodup_iff.mpr hf.nodup
    rw [← h]
    exact (srt_set encOk_G.lo hn).symm
theorem lturned_len {a : Rat} {near far : List Gr} (h : lturnedG a near = far) : near.length = far.length := by
  have := (srt_perm (le := leD encG) (near.map (Gr.turned a))).length_eq
  rw [← h, show lturnedG a near = srt (leD encG) (near.map (Gr.turned a)) from rfl, this, List.length_map]
theorem lturns_mem {r : Gr} {near far : List Gr} {a : Rat} : a ∈ lturnsOf r near far ↔ (∃ g ∈ far, Ln.same g.l r.l = true ∧ r.l.turnTo g.l = a) ∧ lturnedG a near = far := by
  unfold lturnsOf
  rw [List.mem_filter, decide_eq_true_eq, List.mem_map]
  constructor
  · rintro ⟨⟨g, hg, e⟩, h⟩
    obtain ⟨h1, h2⟩ := List.mem_filter.mp hg
    exact ⟨⟨g, h1, h2, e⟩, h⟩
  · rintro ⟨⟨g, h1, h2, e⟩, h⟩
    exact ⟨⟨g, List.mem_filter.mpr ⟨h1, h2⟩, e⟩, h⟩
theorem turns_mem {r : Gr} {near far : List Gr} {a : Rat} : a ∈ turnsOf r near far ↔ (∃ g ∈ far, g.l.isRing = false ∧ Ln.same g.l r.l = true ∧ (g.s, g.e, g.d) = (r.s, r.e, r.d) ∧ r.l.turnTo g.l = a) ∧ turnedG a near = far := by
  unfold turnsOf
  rw [List.mem_filter, decide_eq_true_eq, List.mem_map]
  constructor
  · rintro ⟨⟨g, hg, e⟩, h⟩
    obtain ⟨h1, h2⟩ := List.mem_filter.mp hg
    rw [Bool.and_eq_true, Bool.and_eq_true, decide_eq_true_eq, Bool.not_eq_true'] at h2
    exact ⟨⟨g, h1, h2.1.1, h2.1.2, h2.2, e⟩, h⟩
  · rintro ⟨⟨g, h1, h2, h3, h4, e⟩, h⟩
    refine ⟨⟨g, List.mem_filter.mpr ⟨h1, ?_⟩, e⟩, h⟩
    rw [Bool.and_eq_true, Bool.and_eq_true, decide_eq_true_eq, Bool.not_eq_true']
    exact ⟨⟨h2, h3⟩, h4⟩
theorem turns_eq {r : Gr} {near far : List Gr} (hr : r.l.isRing = false) (hm : r ∈ near) (hf : Asc (leD encG) far) (hn : NormG far) (hl : near.length = far.length) : setQ (turnsOf r near far) = setQ (lturnsOf r near far) := by
  refine setS_congr encOk_Q.lo fun a => ?_
  rw [turns_mem, lturns_mem, turned_iff hf hl]
  constructor
  · rintro ⟨⟨g, h1, _, h3, _, e⟩, h⟩
    exact ⟨⟨g, h1, h3, e⟩, h⟩
  · rintro ⟨⟨g, h1, h3, e⟩, h⟩
    have hx : r.turned a ∈ far := by
      rw [← h]
      exact (srt_mem _ _).mpr (List.mem_map.mpr ⟨r, hm, rfl⟩)
    have el : (r.turned a).l = g.l := by
      show r.l.moved 0 a = g.l
      rw [← e]
      exact turnTo_moved hr (hn g h1) h3
    refine ⟨⟨r.turned a, hx, ?_, ?_, rfl, ?_⟩, h⟩
    · show (r.l.moved 0 a).isRing = false
      rw [moved_isRing]
      exact hr
    · rw [el]; exact h3
    · rw [el]; exact e
theorem rounds_mem {gs rs : List Gr} {r : Gr} (h : rounds gs = r :: rs) : r ∈ gs ∧ r.l.isRing = false := by
  have : r ∈ rounds gs := by rw [h]; exact List.mem_cons_self
  obtain ⟨h1, h2⟩ := List.mem_filter.mp this
  exact ⟨h1, by simpa using h2⟩
theorem turnsB_eq {k m n k' m' n' : Nat} {b o : Br} (hb : OkB k m n b) (ho : OkB k' m' n' o) (hn : NormG o.gs) : turnsB b o = lturnsB b o := by
  have e1 := lplain_eq hb.g
  have e2 := lplain_eq ho.g
  have hf := plainG_asc o.gs
  have hnf := plainG_norm ho.g hn
  unfold turnsB lturnsB
  rw [e1, e2]
  by_cases hl : b.len = o.len
  · rw [if_neg (fun z : b.len ≠ o.len => z hl)]
    by_cases hc : (plainG b.gs).length = (plainG o.gs).length
    · rw [if_neg (fun z => z.elim (fun y => y hl) (fun y => y hc))]
      cases hr : rounds (plainG b.gs) with
      | nil => rfl
      | cons r rs =>
        obtain ⟨h1, h2⟩ := rounds_mem hr
        show Tr.some _ = Tr.some _
        rw [turns_eq h2 h1 hf hnf hc]
    · rw [if_pos (.inr hc)]
      cases hr : rounds (plainG b.gs) with
      | nil =>
        show _ = if plainG b.gs = plainG o.gs then Tr.all else Tr.some []
        rw [if_neg (fun z => hc (congrArg List.length z))]
      | cons r rs =>
        show Tr.some [] = Tr.some _
        congr 1
        have : lturnsOf r (plainG b.gs) (plainG o.gs) = [] := by
          rw [List.eq_nil_iff_forall_not_mem]
          intro a ha
          exact hc (lturned_len (lturns_mem.mp ha).2)
        rw [this]
        rfl
  · rw [if_pos (.inl hl), if_pos hl]
theorem lturns_congr {b b' o o' : Br} (h1 : b.len = b'.len) (h2 : lplainG b.gs = lplainG b'.gs) (h3 : o.len = o'.len) (h4 : lplainG o.gs = lplainG o'.gs) : lturnsB b o = lturnsB b' o' := by
  unfold lturnsB
  rw [h1, h2, h3, h4]
theorem trLen_le {b o : Br} : trLen (lturnsB b o) ≤ (lplainG o.gs).length := by
  unfold lturnsB
  split
  · exact Nat.zero_le _
  · split
    · split <;> exact Nat.zero_le _
    · rename_i r rs _
      show (setQ _).length ≤ _
      refine Nat.le_trans (setS_len _) ?_
      unfold lturnsOf
      refine Nat.le_trans (List.length_filter_le _ _) ?_
      rw [List.length_map]
      exact List.length_filter_le _ _
/-! ### ends exchanged, mirrored -/
theorem ends_eq {k m n : Nat} {b : Br} (hb : OkB k m n b) (hn : NormG b.gs) : endsB b = lplainB (lendedB b) := by
  unfold endsB lplainB
  congr 1
  rw [lplain_eq hb.lends.g, plain_congr (gs' := b.gs.map (Gr.ended b.len)) hb.lends.g (fun g => srt_mem _ g)]
  exact (plain_ended hb.g hn).symm
theorem mirr_eq {k m n : Nat} {b : Br} (hb : OkB k m n b) (hn : NormG b.gs) : mirrB b = lplainB (lmirrB b) := by
  unfold mirrB lplainB
  congr 1
  rw [lplain_eq hb.lmirr.g, plain_congr (gs' := b.gs.map Gr.mirr) hb.lmirr.g (fun g => srt_mem _ g)]
  exact (plain_mirr hn).symm
theorem lplain_idem {k m : Nat} {gs : List Gr} (hg : ∀ g ∈ gs, OkG k m g) : lplainG (lplainG gs) = lplainG gs := by
  have hg2 : ∀ g ∈ plainG gs, OkG k m g := plainG_ok hg
  rw [lplain_eq hg, lplain_eq hg2, plain_idem hg]
theorem NormG.lended {b : Br} (h : NormG b.gs) : NormG (lendedB b).gs := fun g hg => by
  obtain ⟨x, hx, rfl⟩ := List.mem_map.mp ((srt_mem _ _).mp hg)
  exact (h x hx).ended _
theorem NormG.lmirr {b : Br} (h : NormG b.gs) : NormG (lmirrB b).gs := fun g hg => by
  obtain ⟨x, hx, rfl⟩ := List.mem_map.mp ((srt_mem _ _).mp hg)
  exact (h x hx).mirr
theorem NormG.lturned {b : Br} {a : Rat} (h : NormG b.gs) : NormG (lturnedB a b).gs := fun g hg => by
  obtain ⟨x, hx, rfl⟩ := List.mem_map.mp ((srt_mem _ _).mp hg)
  exact (h x hx).moved _ _
theorem alike_eq {k m n k' m' n' : Nat} {b o : Br} (hb : OkB k m n b) (hnb : NormG b.gs) (ho : OkB k' m' n' o) (hn : NormG o.gs) : alikeB b o = lalikeB b o := by
  unfold alikeB lalikeB
  rw [turnsB_eq hb ho hn, turnsB_eq hb.ends ho hn]
  have e : lturnsB (endsB b) o = lturnsB (lendedB b) o := lturns_congr rfl (by rw [ends_eq hb hnb]; exact lplain_idem hb.lends.g) rfl rfl
  rw [e]
theorem handed_eq {k m n : Nat} {b : Br} (hb : OkB k m n b) (hn : NormG b.gs) : alikeB b (mirrB b) = lalikeB b (lmirrB b) := by
  have hnm : NormG (mirrB b).gs := by
    rw [mirr_eq hb hn]
    show NormG (lplainG (lmirrB b).gs)
    rw [lplain_eq hb.lmirr.g]
    exact plainG_norm hb.lmirr.g hn.lmirr
  rw [alike_eq hb hn hb.mirr hnm]
  have e : ∀ x, lturnsB x (mirrB b) = lturnsB x (lmirrB b) := fun x => lturns_congr rfl rfl rfl (by rw [mirr_eq hb hn]; exact lplain_idem hb.lmirr.g)
  unfold lalikeB
  rw [e, e]
/-! ### the angle by which it was turned is one of the turns -/
theorem turn_found {k m n : Nat} {b : Br} {a : Rat} (hb : OkB k m n b) (hn : NormG b.gs) (ha : Bd 4 a) (h0 : 0 ≤ a) (h1 : a < 1) : ∀ as, lturnsB b (lturnedB a b) = .some as → a ∈ as := by
  have hT := hb.lturned ha
  have ep : plainG (lturnedB a b).gs = turnedG a (plainG b.gs) := by
    rw [plain_congr (gs' := b.gs.map (Gr.turned a)) hT.g (fun g => srt_mem _ g)]
    exact plain_turned hn
  have hnn := plainG_norm hb.g hn
  have hnd : ((plainG b.gs).map (Gr.turned a)).Nodup := by
    rw [List.Nodup, List.pairwise_map]
    refine (plainG_asc b.gs).imp_of_mem fun {x y} hx hy h z => h.2 ?_
    cases x with
    | mk xl xs xe xd =>
    cases y with
    | mk yl ys ye yd =>
    simp only [Gr.turned, Gr.mk.injEq] at z
    obtain ⟨z1, z2, z3, z4⟩ := z
    have zl : xl = yl := moved_inj (hnn _ hx) (hnn _ hy) z1
    rw [zl, z2, z3, z4]
  intro as h
  unfold lturnsB at h
  rw [lplain_eq hb.g, lplain_eq hT.g, ep, if_neg (fun z => z rfl)] at h
  cases hr : rounds (plainG b.gs) with
  | nil =>
    rw [hr] at h
    have h : (if plainG b.gs = turnedG a (plainG b.gs) then Tr.all else Tr.some []) = Tr.some as := h
    have e : (plainG b.gs).map (Gr.turned a) = plainG b.gs := by
      rw [List.map_congr_left (g := id) fun g hg => ?_, List.map_id]
      have hri : g.l.isRing = true := by
        by_cases z : g.l.isRing = true
        · exact z
        · exfalso
          have : g ∈ rounds (plainG b.gs) := List.mem_filter.mpr ⟨hg, by simpa using z⟩
          rw [hr] at this
          cases this
      cases g with
      | mk l s e d =>
        cases l with
        | flute q => cases hri
        | lead l q => cases hri
        | ring q =>
          show Gr.mk (.ring (q + 0)) s e d = Gr.mk (.ring q) s e d
          rw [Rat.add_zero]
    have e2 : turnedG a (plainG b.gs) = plainG b.gs := by
      unfold turnedG
      rw [e]
      exact setS_id encOk_G.lo (plainG_asc _)
    rw [e2, if_pos rfl] at h
    cases h
  | cons r rs =>
    rw [hr] at h
    have h : Tr.some (setQ (lturnsOf r (plainG b.gs) (turnedG a (plainG b.gs)))) = Tr.some as := h
    cases h
    obtain ⟨hm, hrr⟩ := rounds_mem hr
    refine mem_setS.mpr (lturns_mem.mpr ⟨⟨r.turned a, mem_setS.mpr (List.mem_map.mpr ⟨r, hm, rfl⟩), same_moved 0 a, turnTo_self hrr (hnn r hm) h0 h1⟩, ?_⟩)
    exact srt_set encOk_G.lo hnd
end Sc

/-! M10 -/
set_option Elab.async false
set_option linter.all false
set_option maxRecDepth 100000
namespace Sc
open PySem
/-! ### depths at points -/
theorem dfold_le (x a : Rat) {D : Int} : ∀ (gs : List Gr) (f : Int), D ≤ gs.foldl (dStep x a) f ↔ D ≤ f ∨ ∃ g ∈ gs, (g.s ≤ x ∧ x ≤ g.e) ∧ onL x a g.l = true ∧ D ≤ g.d
  | [], f => by simp
  | g :: gs, f => by
    rw [List.foldl_cons, dfold_le x a gs]
    unfold dStep
    by_cases h : (decide (g.s ≤ x) && decide (x ≤ g.e) && onL x a g.l) = true
    · rw [if_pos h]
      have h' := h
      rw [Bool.and_eq_true, Bool.and_eq_true, decide_eq_true_eq, decide_eq_true_eq] at h'
      constructor
      · rintro (z | ⟨u, hu, z⟩)
        · by_cases c : D ≤ f
          · exact .inl c
          · exact .inr ⟨g, List.mem_cons_self, h'.1, h'.2, by omega⟩
        · exact .inr ⟨u, List.mem_cons_of_mem _ hu, z⟩
      · rintro (z | ⟨u, hu, z⟩)
        · exact .inl (by omega)
        · rcases List.mem_cons.mp hu with e | hu
          · subst e
            exact .inl (by have := z.2.2; omega)
          · exact .inr ⟨u, hu, z⟩
    · rw [if_neg h]
      constructor
      · rintro (z | ⟨u, hu, z⟩)
        · exact .inl z
        · exact .inr ⟨u, List.mem_cons_of_mem _ hu, z⟩
      · rintro (z | ⟨u, hu, z⟩)
        · exact .inl z
        · rcases List.mem_cons.mp hu with e | hu
          · subst e
            exfalso
            apply h
            rw [Bool.and_eq_true, Bool.and_eq_true, decide_eq_true_eq, decide_eq_true_eq]
            exact ⟨z.1, z.2.1⟩
          · exact .inr ⟨u, hu, z⟩
theorem depth_eq {gs gs' : List Gr} {x a x' a' : Rat} (h : ∀ D, 0 < D → ((∃ g ∈ gs, (g.s ≤ x ∧ x ≤ g.e) ∧ onL x a g.l = true ∧ D ≤ g.d) ↔ ∃ g ∈ gs', (g.s ≤ x' ∧ x' ≤ g.e) ∧ onL x' a' g.l = true ∧ D ≤ g.d)) : depthV gs x a = depthV gs' x' a' := by
  have n1 : 0 ≤ depthV gs x a := (dfold_le x a gs 0).mpr (.inl (Int.le_refl _))
  have n2 : 0 ≤ depthV gs' x' a' := (dfold_le x' a' gs' 0).mpr (.inl (Int.le_refl _))
  have key : ∀ D : Int, 0 < D → (D ≤ depthV gs x a ↔ D ≤ depthV gs' x' a') := fun D hD => by
    unfold depthV
    rw [dfold_le, dfold_le]
    constructor
    · rintro (z | z)
      · omega
      · exact .inr ((h D hD).mp z)
    · rintro (z | z)
      · omega
      · exact .inr ((h D hD).mpr z)
  refine Int.le_antisymm ?_ ?_
  · by_cases c : 0 < depthV gs x a
    · exact (key _ c).mp (Int.le_refl _)
    · omega
  · by_cases c : 0 < depthV gs' x' a'
    · exact (key _ c).mpr (Int.le_refl _)
    · omega
/-- closed rows over x -/
def CCov (A : List Sg) (x : Rat) (D : Int) : Prop := ∃ y ∈ A, y.1 ≤ x ∧ x ≤ y.2.1 ∧ D ≤ y.2.2
theorem gap_right : ∀ (L : List Rat) (x b : Rat), x < b → ∃ u, x < u ∧ u ≤ b ∧ ∀ q ∈ L, q ≤ x ∨ u ≤ q
  | [], x, b, h => ⟨b, h, Rat.le_refl, fun q hq => (by cases hq)⟩
  | q :: L, x, b, h => by
    obtain ⟨u, h1, h2, h3⟩ := gap_right L x b h
    by_cases c : x < q ∧ q < u
    · refine ⟨q, c.1, by grind, fun r hr => ?_⟩
      rcases List.mem_cons.mp hr with e | hr
      · subst e; exact .inr Rat.le_refl
      · rcases h3 r hr with z | z
        · exact .inl z
        · exact .inr (by grind)
    · refine ⟨u, h1, h2, fun r hr => ?_⟩
      rcases List.mem_cons.mp hr with e | hr
      · subst e
        by_cases c2 : r ≤ x
        · exact .inl c2
        · exact .inr (by grind)
      · exact h3 r hr
theorem gap_left : ∀ (L : List Rat) (x b : Rat), b < x → ∃ u, u < x ∧ b ≤ u ∧ ∀ q ∈ L, x ≤ q ∨ q ≤ u
  | [], x, b, h => ⟨b, h, Rat.le_refl, fun q hq => (by cases hq)⟩
  | q :: L, x, b, h => by
    obtain ⟨u, h1, h2, h3⟩ := gap_left L x b h
    by_cases c : q < x ∧ u < q
    · refine ⟨q, c.1, by grind, fun r hr => ?_⟩
      rcases List.mem_cons.mp hr with e | hr
      · subst e; exact .inr Rat.le_refl
      · rcases h3 r hr with z | z
        · exact .inl z
        · exact .inr (by grind)
    · refine ⟨u, h1, h2, fun r hr => ?_⟩
      rcases List.mem_cons.mp hr with e | hr
      · subst e
        by_cases c2 : x ≤ r
        · exact .inl c2
        · exact .inr (by grind)
      · exact h3 r hr
theorem ccov_of {A B : List Sg} {E : List Rat} (hA : ∀ y ∈ A, y.1 < y.2.1) {D : Int} (h : ∀ x, x ∉ E → Cov A x D → Cov B x D) {x : Rat} (hx : CCov A x D) : CCov B x D := by
  obtain ⟨y, hy, h1, h2, h3⟩ := hx
  have hlt := hA y hy
  have mem : ∀ w ∈ B, w.1 ∈ (B.map (·.1) ++ B.map (·.2.1)) ∧ w.2.1 ∈ (B.map (·.1) ++ B.map (·.2.1)) := fun w hw => ⟨List.mem_append_left _ (List.mem_map.mpr ⟨w, hw, rfl⟩), List.mem_append_right _ (List.mem_map.mpr ⟨w, hw, rfl⟩)⟩
  by_cases c : x < y.2.1
  · obtain ⟨u, u1, u2, u3⟩ := gap_right (B.map (·.1) ++ B.map (·.2.1)) x y.2.1 c
    obtain ⟨z, z1, z2, z3⟩ := between E x u u1
    obtain ⟨w, hw, w1, w2, w3⟩ := h z z3 ⟨y, hy, by grind, by grind, h3⟩
    have := u3 w.1 (mem w hw).1
    exact ⟨w, hw, by grind, by grind, w3⟩
  · have c : y.1 < x := by grind
    obtain ⟨u, u1, u2, u3⟩ := gap_left (B.map (·.1) ++ B.map (·.2.1)) x y.1 c
    obtain ⟨z, z1, z2, z3⟩ := between E u x u1
    obtain ⟨w, hw, w1, w2, w3⟩ := h z z3 ⟨y, hy, by grind, by grind, h3⟩
    have := u3 w.2.1 (mem w hw).2
    exact ⟨w, hw, by grind, by grind, w3⟩
theorem ccov_map {gs : List Gr} {x : Rat} {D : Int} : CCov (gs.map toS) x D ↔ ∃ g ∈ gs, g.s ≤ x ∧ x ≤ g.e ∧ D ≤ g.d := by
  unfold CCov
  constructor
  · rintro ⟨y, hy, h⟩
    obtain ⟨g, hg, rfl⟩ := List.mem_map.mp hy
    exact ⟨g, hg, h⟩
  · rintro ⟨g, hg, h⟩
    exact ⟨toS g, List.mem_map.mpr ⟨g, hg, rfl⟩, h⟩
/-- a line's rows and its plain rows: as deep at every place -/
theorem row_ccov {k m : Nat} {l : Ln} {gs : List Gr} (hne : gs ≠ []) (hl : ∀ g ∈ gs, g.l = l) (hg : ∀ g ∈ gs, OkG k m g) {x : Rat} {D : Int} (hD : 0 < D) : (∃ g ∈ plainRow l gs, g.s ≤ x ∧ x ≤ g.e ∧ D ≤ g.d) ↔ ∃ g ∈ gs, g.s ≤ x ∧ x ≤ g.e ∧ D ≤ g.d := by
  by_cases hr : l.isRing = true
  · cases l with
    | flute q => cases hr
    | lead l q => cases hr
    | ring q =>
      have hw : ∀ g ∈ gs, g.s = q ∧ g.e = q := fun g h => by
        have w := (hg g h).w
        unfold WfG at w
        rw [hl g h] at w
        exact w
      constructor
      · rintro ⟨g, hgm, h1, h2, h3⟩
        rw [List.mem_singleton.mp hgm] at h1 h2 h3
        obtain ⟨y, hy, h4⟩ := (le_maxI hD).mp h3
        obtain ⟨u, hu, rfl⟩ := List.mem_map.mp hy
        obtain ⟨w1, w2⟩ := hw u hu
        exact ⟨u, hu, by rw [w1]; exact h1, by rw [w2]; exact h2, h4⟩
      · rintro ⟨g, hgm, h1, h2, h3⟩
        obtain ⟨w1, w2⟩ := hw g hgm
        exact ⟨_, List.mem_singleton.mpr rfl, by rw [← w1]; exact h1, by rw [← w2]; exact h2, (le_maxI hD).mpr ⟨_, List.mem_map.mpr ⟨g, hgm, rfl⟩, h3⟩⟩
  · have hr : l.isRing = false := by simpa using hr
    have hw : ∀ g ∈ gs, g.s < g.e := fun g h => okg_lt (hg g h) (by rw [hl g h]; exact hr)
    obtain ⟨h1, h2⟩ := pfold_red gs hw
    have e : (∃ g ∈ plainRow l gs, g.s ≤ x ∧ x ≤ g.e ∧ D ≤ g.d) ↔ CCov ((segs (placesG gs)).foldl (pstep gs) []) x D := by
      rw [prow_eq hr]
      unfold CCov
      constructor
      · rintro ⟨g, hgm, h⟩
        obtain ⟨y, hy, rfl⟩ := List.mem_map.mp hgm
        exact ⟨y, hy, h⟩
      · rintro ⟨y, hy, h⟩
        exact ⟨mkG l y, List.mem_map.mpr ⟨y, hy, rfl⟩, h⟩
    rw [e, ← ccov_map]
    constructor
    · exact ccov_of (E := placesG gs) (fun y hy => (h1.o y hy).1) fun x hx => (h2 x hx D hD).mp
    · refine ccov_of (E := placesG gs) (fun y hy => ?_) fun x hx => (h2 x hx D hD).mpr
      obtain ⟨g, hgm, rfl⟩ := List.mem_map.mp hy
      exact hw g hgm
theorem depth_plain {k m : Nat} {gs : List Gr} (hg : ∀ g ∈ gs, OkG k m g) (x a : Rat) : depthV gs x a = depthV (plainG gs) x a := by
  refine depth_eq fun D hD => ?_
  constructor
  · rintro ⟨g, hgm, h1, h2, h3⟩
    have hl : g.l ∈ gs.map (·.l) := List.mem_map.mpr ⟨g, hgm, rfl⟩
    have hne := ofL_ne (mem_setS.mpr hl)
    obtain ⟨u, hu, u1, u2, u3⟩ := (row_ccov (k := k) (m := m) hne (fun g h => (mem_ofL.mp h).2) (fun g h => hg g (mem_ofL.mp h).1) hD).mpr ⟨g, mem_ofL.mpr ⟨hgm, rfl⟩, h1.1, h1.2, h3⟩
    have e := (prow_ok (k := k) (m := m) hne (fun g h => (mem_ofL.mp h).2) (fun g h => hg g (mem_ofL.mp h).1) u hu).2
    exact ⟨u, mem_plain.mpr ⟨g.l, hl, hu⟩, ⟨u1, u2⟩, by rw [e]; exact h2, u3⟩
  · rintro ⟨u, hu, h1, h2, h3⟩
    obtain ⟨l, hl, hu⟩ := mem_plain.mp hu
    have hne := ofL_ne (mem_setS.mpr hl)
    have e := (prow_ok (k := k) (m := m) hne (fun g h => (mem_ofL.mp h).2) (fun g h => hg g (mem_ofL.mp h).1) u hu).2
    obtain ⟨g, hgm, g1, g2, g3⟩ := (row_ccov (k := k) (m := m) hne (fun g h => (mem_ofL.mp h).2) (fun g h => hg g (mem_ofL.mp h).1) hD).mp ⟨u, hu, h1.1, h1.2, h3⟩
    obtain ⟨m1, m2⟩ := mem_ofL.mp hgm
    exact ⟨g, m1, ⟨g1, g2⟩, by rw [m2, ← e]; exact h2, g3⟩
/-! ### points under the moves -/
theorem den_one {q : Rat} : ((q.den : Int) = 1) ↔ ∃ n : Int, q = (n : Rat) := by
  constructor
  · intro h
    refine ⟨q.num, ?_⟩
    have e : q.den = 1 := by omega
    exact Rat.ext (by rw [Rat.num_intCast]) (by rw [Rat.den_intCast, e])
  · rintro ⟨n, rfl⟩
    rw [Rat.den_intCast]
    rfl
theorem onL_iff {l p x a : Rat} (h0 : l ≠ 0) : onL x a (.lead l p) = true ↔ Cg l (x - l * a - p) 0 := by
  show decide ((((x - l * a - p) / l).den : Int) = 1) = true ↔ _
  rw [decide_eq_true_eq, den_one]
  constructor
  · rintro ⟨n, h⟩
    exact ⟨n, by grind⟩
  · rintro ⟨n, h⟩
    exact ⟨n, by grind⟩
theorem frac_neg_iff {a q : Rat} (ha : 0 ≤ a ∧ a < 1) (hq : 0 ≤ q ∧ q < 1) : frac (-a) = frac (-q) ↔ a = q := by
  constructor
  · intro h
    refine cg1_eq ?_ ha hq
    have := (frac_inj h).neg
    rw [Rat.neg_neg, Rat.neg_neg] at this
    exact this
  · intro h
    rw [h]
theorem on_ended {l : Ln} {x a far : Rat} (hl : NormL l) (ha : 0 ≤ a ∧ a < 1) : onL (far - x) (frac (-a)) (l.ended far) = true ↔ onL x a l = true := by
  cases l with
  | ring q =>
    show decide (far - x = far - q) = true ↔ decide (x = q) = true
    rw [decide_eq_true_eq, decide_eq_true_eq]
    constructor <;> intro h <;> grind
  | flute q =>
    show decide (frac (-a) = frac (-q)) = true ↔ decide (a = q) = true
    rw [decide_eq_true_eq, decide_eq_true_eq]
    exact frac_neg_iff ha hl
  | lead l p =>
    have h0 : l ≠ 0 := hl.1
    show onL (far - x) (frac (-a)) (.lead l (rnd (far - p) l)) = true ↔ _
    rw [onL_iff h0, onL_iff h0]
    obtain ⟨i, hi⟩ := frac_int (-a)
    obtain ⟨j, hj⟩ := rnd_cg (far - p) l
    rw [hi, hj]
    constructor
    · rintro ⟨n, h⟩
      exact ⟨-n - i - j, by rw [Rat.intCast_sub, Rat.intCast_sub, Rat.intCast_neg]; grind⟩
    · rintro ⟨n, h⟩
      exact ⟨-n - i - j, by rw [Rat.intCast_sub, Rat.intCast_sub, Rat.intCast_neg]; grind⟩
theorem on_mirr {l : Ln} {x a : Rat} (hl : NormL l) (ha : 0 ≤ a ∧ a < 1) : onL x (frac (-a)) l.mirr = true ↔ onL x a l = true := by
  cases l with
  | ring q => exact Iff.rfl
  | flute q =>
    show decide (frac (-a) = frac (-q)) = true ↔ decide (a = q) = true
    rw [decide_eq_true_eq, decide_eq_true_eq]
    exact frac_neg_iff ha hl
  | lead l p =>
    have h0 : l ≠ 0 := hl.1
    have h0' : -l ≠ 0 := by grind
    show onL x (frac (-a)) (.lead (-l) p) = true ↔ _
    rw [onL_iff h0', onL_iff h0]
    obtain ⟨i, hi⟩ := frac_int (-a)
    rw [hi]
    constructor
    · rintro ⟨n, h⟩
      exact ⟨-n - i, by rw [Rat.intCast_sub, Rat.intCast_neg]; grind⟩
    · rintro ⟨n, h⟩
      exact ⟨-n - i, by rw [Rat.intCast_sub, Rat.intCast_neg]; grind⟩
theorem depth_ended {gs : List Gr} {x a far : Rat} (hn : NormG gs) (ha : 0 ≤ a ∧ a < 1) : depthV gs x a = depthV (gs.map (Gr.ended far)) (far - x) (frac (-a)) := by
  refine depth_eq fun D hD => ?_
  constructor
  · rintro ⟨g, hg, h1, h2, h3⟩
    exact ⟨g.ended far, List.mem_map.mpr ⟨g, hg, rfl⟩, ⟨by show far - g.e ≤ far - x; grind, by show far - x ≤ far - g.s; grind⟩, (on_ended (hn g hg) ha).mpr h2, h3⟩
  · rintro ⟨g', hg', h1, h2, h3⟩
    obtain ⟨g, hg, rfl⟩ := List.mem_map.mp hg'
    have q1 : far - g.e ≤ far - x := h1.1
    have q2 : far - x ≤ far - g.s := h1.2
    exact ⟨g, hg, ⟨by grind, by grind⟩, (on_ended (hn g hg) ha).mp h2, h3⟩
theorem depth_mirr {gs : List Gr} {x a : Rat} (hn : NormG gs) (ha : 0 ≤ a ∧ a < 1) : depthV gs x a = depthV (gs.map Gr.mirr) x (frac (-a)) := by
  refine depth_eq fun D hD => ?_
  constructor
  · rintro ⟨g, hg, h1, h2, h3⟩
    exact ⟨g.mirr, List.mem_map.mpr ⟨g, hg, rfl⟩, h1, (on_mirr (hn g hg) ha).mpr h2, h3⟩
  · rintro ⟨g', hg', h1, h2, h3⟩
    obtain ⟨g, hg, rfl⟩ := List.mem_map.mp hg'
    exact ⟨g, hg, h1, (on_mirr (hn g hg) ha).mp h2, h3⟩
theorem depth_mem {gs gs' : List Gr} {x a : Rat} (h : ∀ g, g ∈ gs ↔ g ∈ gs') : depthV gs x a = depthV gs' x a := depth_eq fun D _ => by
  constructor
  · rintro ⟨g, hg, z⟩; exact ⟨g, (h g).mp hg, z⟩
  · rintro ⟨g, hg, z⟩; exact ⟨g, (h g).mpr hg, z⟩
theorem points_rng {len : Rat} : ∀ x ∈ pointsV len, 0 ≤ x.2 ∧ x.2 < 1 := by
  intro x hx
  unfold pointsV at hx
  obtain ⟨i, hi, hx⟩ := List.mem_flatMap.mp hx
  obtain ⟨j, hj, rfl⟩ := List.mem_map.mp hx
  have hj := List.mem_range.mp hj
  exact ⟨(divInt_rng (a := 0 + (j : Int)) (b := 6) (by decide)).1 (by omega), (divInt_rng (a := 0 + (j : Int)) (b := 6) (by decide)).2 (by omega)⟩
theorem pts_ok {k m n : Nat} {b : Br} (hb : OkB k m n b) (hn : NormG b.gs) : ptsOk b (lplainB (lendedB b)) (lplainB (lmirrB b)) = true := by
  unfold ptsOk
  rw [List.all_eq_true]
  intro x hx
  have ha := points_rng x hx
  rw [Bool.and_eq_true, decide_eq_true_eq, decide_eq_true_eq]
  constructor
  · show _ = depthV (lplainG (lendedB b).gs) _ _
    rw [lplain_eq hb.lends.g, ← depth_plain hb.lends.g, depth_mem (gs := (lendedB b).gs) (gs' := b.gs.map (Gr.ended b.len)) (fun g => srt_mem _ g)]
    exact depth_ended hn ha
  · show _ = depthV (lplainG (lmirrB b).gs) _ _
    rw [lplain_eq hb.lmirr.g, ← depth_plain hb.lmirr.g, depth_mem (gs := (lmirrB b).gs) (gs' := b.gs.map Gr.mirr) (fun g => srt_mem _ g)]
    exact depth_mirr hn ha
/-- all that the law asks of the drawn BARS -/
theorem facts {k m n k' m' n' : Nat} {b o : Br} {a : Rat} (hb : OkB k m n b) (hnb : NormG b.gs) (ho : OkB k' m' n' o) (hno : NormG o.gs) (ha : Bd 4 a) (h0 : 0 ≤ a) (h1 : a < 1) (hn : n ≤ 16) (hn' : n' ≤ 16) : Facts b o a := by
  have hT := hb.lturned ha
  have lb : ∀ {k m n : Nat} {x y : Br}, OkB k m n y → n ≤ 16 → trLen (lturnsB x y) < 1000 := fun {k m n x y} hy h => by
    have := trLen_le (b := x) (o := y)
    rw [lplain_eq hy.g] at this
    have h2 := hy.plain.rows
    have h3 : (plainB y).gs = plainG y.gs := rfl
    rw [h3] at h2
    omega
  exact ⟨ends_eq hb hnb, mirr_eq hb hnb, pts_ok hb hnb, turnsB_eq hb hT hnb.lturned, turnsB_eq hb ho hno, turnsB_eq ho hb hnb, alike_eq hb hnb ho hno, alike_eq ho hno hb hnb, handed_eq hb hnb, turn_found hb hnb ha h0 h1, lb hT hn, lb ho hn', lb hb hn⟩
theorem oV_norm {t : Tn} {n : Nat} (h : Tk n t) : NormG (oV t).gs := by
  have hB : NormG (bV t).gs := fun g hg => ((bV_ok h).2.1 g hg).norm
  have hT : NormG (tuV t).gs := hB.lturned
  unfold oV
  split
  · exact fun g hg => ((barV_ok (t := takeT (t3 t) 6) (tk3 h).take 2).2.1 g hg).norm
  · split
    · exact hT.lended
    · split
      · exact hT.lmirr
      · split
        · exact fun g hg => hT g (List.mem_of_mem_drop hg)
        · split
          · show NormG (lplainG (tuV t).gs)
            rw [lplain_eq (tuV_ok h).g]
            exact plainG_norm (tuV_ok h).g hT
          · exact hT
theorem facts_of {t : Tn} {n : Nat} (h : Tk n t) : Facts (bV t) (oV t) (aV t) :=
  facts (bV_ok h).1 (fun g hg => ((bV_ok h).2.1 g hg).norm) (oV_ok h) (oV_norm h) (angV_bd _) (angV_rng _).1 (angV_rng _).2 (by decide) (by decide)
end Sc

/-! E22 -/
set_option Elab.async false
set_option linter.all false
set_option maxRecDepth 100000
namespace Sc
open PySem PySem.Spec PyProof.Rows L2 Evl
theorem de_callN {S : Sta} {p : Bool} {e : Expr} {Γ : List En} {t t1 t2 : Tn} {d : PD} {pos q : Pos} {ar : Ar} {k : Nat} {x : Str} {i j l : Int} (h : S.df x k ar) (ha : DN S p e Γ t [.int i, .int j, .int l] t1) (hr : ar [.tin] (i, j, l) (.d d) t2) (hg : glb S x) (hk : k ≤ S.k) (hdb : (x == ("__debug__" : Str)) = false := by decide)
    (ns : Ns e := by intro _ _; rfl) : DE S p (.Call (.Name x q) [e] [] pos) Γ t d t1 := fun X hX => by
  obtain ⟨f, fd, ps, h1, h2, h3, h4⟩ := df_in hX h
  obtain ⟨_, a1, a2⟩ := ha X hX
  refine ⟨_, pe_call h4 (hX.room.mono hk) (hg.gl hX) h1 h2 h3 .nil pass0 (pa_cons a1 pa_nil (ns _ _)) hdb (ns _ _) (da_ne ns nss0), fun ta F0 H0 σ F H o Q qq => a2 ta F0 H0 σ F H o _ fun a vs F1 H1 s1 i1 hn hf hl hd => ?_⟩
  have ev : vs = [V.int i, V.int j, V.int l] := dps_ints (ns := [i, j, l]) hd
  subst ev
  refine ⟨true, a, F1, (i, j, l), [.tin], .d d, t2, s1.fh, fun _ => ⟨hf, hl⟩, .cons ⟨rfl, rfl⟩ .nil, hr, fun v F' H' s2 i2 d2 => qq v F' H' ?_ (fun z => ?_) d2⟩
  · have hF : ∀ b, H b ≠ none → H1 b ≠ none := fun b hb => s1.dom b hb
    refine ⟨s1.ff.trans s2.ff, s2.fh, fun b o hb n => s2.old b o (s1.old b o hb n) (fun _ e => ?_), fun b hb => (s2.new b (hF b hb)).trans (s1.new b hb), fun b hb => s2.dom b (hF b hb)⟩
    rw [e, hn] at hb
    cases hb
  · obtain ⟨f1, f2⟩ := i1 z
    have hta : H ta ≠ none := by rw [(o.tin z).2]; exact fun w => nomatch w
    have ne : ta ≠ a := fun w => hta (by rw [w]; exact hn)
    exact ⟨(s2.new ta (by rw [f2]; exact fun w => nomatch w)).trans f1, s2.old ta _ f2 (fun _ => ne)⟩
theorem dn_lst4 {S : Sta} {p : Bool} {Γ : List En} {t t1 t2 t3 t4 : Tn} {a b c e : Expr} {d1 d2 d3 d4 : PD} {pos : Pos} (h1 : DE S p a Γ t d1 t1) (h2 : DE S p b Γ t1 d2 t2) (h3 : DE S p c Γ t2 d3 t3) (h4 : DE S p e Γ t3 d4 t4) (n1 : Ns a := by intro _ _; rfl) (n2 : Ns b := by intro _ _; rfl) (n3 : Ns c := by intro _ _; rfl) (n4 : Ns e := by intro _ _; rfl) : DN S p (.List [a, b, c, e] pos) Γ t [d1, d2, d3, d4] t4 :=
  dn_lst (ds := [d1, d2, d3, d4]) (da_cons h1 (da_cons h2 (da_cons h3 (da_cons h4 da_nil n4) n3) n2) n1) (by show 4 ≤ _; decide)
def qh : Rat := ⟨1, 2, by decide, by decide⟩
def q23 : Rat := ⟨2, 3, by decide, by decide⟩
def q13 : Rat := ⟨1, 3, by decide, by decide⟩
def lnR : Ln := .lead 1 0
def lnL : Ln := .lead 1 qh
def shortB : Br := ⟨3, [⟨lnR, 0, 2, 1⟩]⟩
def bothB : Br := ⟨3, [⟨lnR, 0, 3, 1⟩, ⟨lnL, 0, 3, 1⟩]⟩
def emptyB : Br := ⟨3, []⟩
def oneB : Br := ⟨3, [⟨lnR, 0, 3, 1⟩]⟩
def lateB : Br := ⟨3, [⟨lnL, 0, 3, 1⟩]⟩
def ldB (l p : Rat) : Br := ⟨4, [⟨.lead l p, 0, 4, 1⟩]⟩
theorem hd1 : endsB shortB = ⟨3, [⟨lnR, 1, 3, 1⟩]⟩ := by decide +kernel
theorem hd2 : turnsB bothB bothB = .some [0, qh] := by decide +kernel
theorem hd3 : turnsB shortB (endsB shortB) = .some [] := by decide +kernel
theorem hd4 : alikeB shortB (endsB shortB) = true := by decide +kernel
theorem hd5 : (!alikeB bothB (mirrB bothB)) = true := by decide +kernel
theorem hd6 : turnsB emptyB emptyB = .all := by decide +kernel
theorem hd7 : turnsB (ldB 3 0) (ldB 3 1) = .some [q23] := by decide +kernel
theorem hd8 : turnsB (ldB (-3) 0) (ldB (-3) 1) = .some [q13] := by decide +kernel
theorem hd9 : turnsB oneB lateB = .some [qh] := by decide +kernel
theorem okLead {l p s e : Rat} {d : Int} (h1 : Bd 3 l) (h2 : l ≠ 0) (h3 : Bd 25 p) (h4 : Bd 6 s) (h5 : Bd 6 e) (h6 : 0 < d) (h7 : s < e) : OkG 25 6 ⟨.lead l p, s, e, d⟩ := ⟨⟨⟨h1, h2, h3⟩, h4, h5⟩, h6, h7⟩
theorem okR {s e : Rat} {d : Int} (h4 : Bd 6 s) (h5 : Bd 6 e) (h6 : 0 < d) (h7 : s < e) : OkG 25 6 ⟨lnR, s, e, d⟩ := okLead ⟨by decide, by decide⟩ (by decide +kernel) ⟨by decide, by decide⟩ h4 h5 h6 h7
theorem okLt {s e : Rat} {d : Int} (h4 : Bd 6 s) (h5 : Bd 6 e) (h6 : 0 < d) (h7 : s < e) : OkG 25 6 ⟨lnL, s, e, d⟩ := okLead ⟨by decide, by decide⟩ (by decide +kernel) ⟨by decide, by decide⟩ h4 h5 h6 h7
theorem all1 {g : Gr} (h : OkG 25 6 g) : ∀ x ∈ [g], OkG 25 6 x := fun x hx => by rw [List.mem_singleton.mp hx]; exact h
theorem ok_short : OkB 25 6 1 shortB := ⟨⟨by decide, by decide⟩, Nat.le_refl _, all1 (okR ⟨by decide, by decide⟩ ⟨by decide, by decide⟩ (by decide) (by decide +kernel))⟩
theorem ok_one : OkB 25 6 1 oneB := ⟨⟨by decide, by decide⟩, Nat.le_refl _, all1 (okR ⟨by decide, by decide⟩ ⟨by decide, by decide⟩ (by decide) (by decide +kernel))⟩
theorem ok_late : OkB 25 6 1 lateB := ⟨⟨by decide, by decide⟩, Nat.le_refl _, all1 (okLt ⟨by decide, by decide⟩ ⟨by decide, by decide⟩ (by decide) (by decide +kernel))⟩
theorem ok_empty : OkB 25 6 1 emptyB := ⟨⟨by decide, by decide⟩, Nat.zero_le _, fun x hx => (by cases hx)⟩
theorem ok_both : OkB 25 6 2 bothB := ⟨⟨by decide, by decide⟩, Nat.le_refl _, fun x hx => by
  rcases List.mem_cons.mp hx with z | z
  · rw [z]; exact okR ⟨by decide, by decide⟩ ⟨by decide, by decide⟩ (by decide) (by decide +kernel)
  · rw [List.mem_singleton.mp z]; exact okLt ⟨by decide, by decide⟩ ⟨by decide, by decide⟩ (by decide) (by decide +kernel)⟩
theorem ok_ld {l p : Rat} (h1 : Bd 3 l) (h2 : l ≠ 0) (h3 : Bd 25 p) : OkB 25 6 1 (ldB l p) := ⟨show Bd 5 (4 : Rat) from ⟨by decide, by decide⟩, Nat.le_refl _, all1 (okLead h1 h2 h3 ⟨by decide, by decide⟩ ⟨by decide, by decide⟩ (by decide) (by decide +kernel))⟩
theorem ld_ok : ∀ l ∈ [(3 : Rat), -3], Bd 3 l ∧ l ≠ 0 := by
  intro l hl
  rcases List.mem_cons.mp hl with z | z
  · rw [z]; exact ⟨⟨by decide, by decide⟩, by decide +kernel⟩
  · rw [List.mem_singleton.mp z]; exact ⟨⟨by decide +kernel, by decide +kernel⟩, by decide +kernel⟩
section
variable {P : Program} {w : World} {K : PySem.W.Frag} {mg : Str → Option Value} {base : Heap}
theorem df__law_by_hand_right (G : Ge K mg) : Df P w K mg base "_law_by_hand_right" 11 (fun eS t rS tS => eS = [] ∧ rS = .d (.bool true) ∧ tS = t) := by
  refine mkD G 78 ["_law_right_here", "_law_late", "_law_short", "_law_both", "_law_got", "_law_lead_so"] [] (by decide +kernel) ⟨rfl, rfl, rfl, by decide +kernel, rfl, by decide +kernel, by decide +kernel⟩ (fun f fd F => F.bindsN fun _ _ _ _ _ _ us hl => match us, hl with | [], _ => rfl) (fun es t r t' h => by obtain ⟨rfl, _, _⟩ := h; rfl) ?_
  rintro p _ t0 _ t ⟨rfl, rfl, rfl⟩
  have hsame : Df P w K mg base "_law_same" 7 (arSame 6) := df__law_same G 6
  have he := ok_short.ends
  have heL : (endsB shortB).gs.length < 1000 := by have := he.rows; omega
  refine ds_cons ?_
  refine ds_asg (d := .tuple [encL lnR, encL lnL]) (DE.as (de_tup2 (de_tup3 de_str (de_tup2 de_int de_int) (de_tup2 de_int de_int)) (de_tup3 de_str (de_tup2 de_int de_int) (de_tup2 de_int de_int))) rfl) (dg_tup (dgs_cons (dg_n 0) (dgs_cons (dg_n 1) dgs_nil))) ?_ (by intro env h; cases env; cases h; rfl)
  refine ds_cons ?_
  refine ds_par 2 3 (en := .v (encB shortB)) (em := .v (encB bothB)) (DE.dv (DE.as (de_tup2 (de_tup2 de_int de_int) (de_tup1 (de_tup4 (de_n 0 rfl) (de_tup2 de_int de_int) (de_tup2 de_int de_int) de_int))) rfl)) (DE.dv (DE.as (de_tup2 (de_tup2 de_int de_int) (de_tup2 (de_tup4 (de_n 0 rfl) (de_tup2 de_int de_int) (de_tup2 de_int de_int) de_int) (de_tup4 (de_n 1 rfl) (de_tup2 de_int de_int) (de_tup2 de_int de_int) de_int))) rfl)) ?_ (by intro env h; cases env; cases h; rfl)
  refine ds_cons ?_
  refine ds_setN 4 (dn_lst6 (de_call (df_ends_exchanged G) (da_cons (de_n 2 rfl) da_nil) ⟨shortB, _, 25, 6, 1, ?_, rfl, rfl, rfl⟩ rfl (Nat.le_of_ble_eq_true rfl)) (de_call (df_turns_between G) (da_cons (de_n 3 rfl) (da_cons (de_n 3 rfl) da_nil)) ⟨bothB, bothB, _, _, 25, 6, 2, 25, 6, 2, ?_, rfl, rfl, rfl⟩ rfl (Nat.le_of_ble_eq_true rfl))
    (de_call (df_turns_between G) (da_cons (de_n 2 rfl) (da_cons (de_call (df_ends_exchanged G) (da_cons (de_n 2 rfl) da_nil) ⟨shortB, _, 25, 6, 1, ?_, rfl, rfl, rfl⟩ rfl (Nat.le_of_ble_eq_true rfl)) da_nil)) ⟨shortB, endsB shortB, _, _, 25, 6, 1, 69, 12, 2, ?_, rfl, rfl, rfl⟩ rfl (Nat.le_of_ble_eq_true rfl)) (de_call (df_alike_bars G) (da_cons (de_n 2 rfl) (da_cons (de_call (df_ends_exchanged G) (da_cons (de_n 2 rfl) da_nil) ⟨shortB, _, 25, 6, 1, ?_, rfl, rfl, rfl⟩ rfl (Nat.le_of_ble_eq_true rfl)) da_nil)) ⟨shortB, endsB shortB, _, _, 25, 6, 1, 69, 12, 2, ?_, rfl, rfl, rfl⟩ rfl (Nat.le_of_ble_eq_true rfl))
    (de_call (df_is_handed G) (da_cons (de_n 3 rfl) da_nil) ⟨bothB, _, 25, 6, 2, ?_, rfl, rfl, rfl⟩ rfl (Nat.le_of_ble_eq_true rfl)) (de_call (df_turns_between G) (da_cons (DE.as (de_tup2 (de_tup2 de_int de_int) (de_tup0 )) (d' := encB emptyB) rfl) (da_cons (DE.as (de_tup2 (de_tup2 de_int de_int) (de_tup0 )) (d' := encB emptyB) rfl) da_nil)) ⟨emptyB, emptyB, _, _, 25, 6, 1, 25, 6, 1, ?_, rfl, rfl, rfl⟩ rfl (Nat.le_of_ble_eq_true rfl))) ?_
  · exact ⟨isB_self (by decide), ok_short, by decide, by decide, by decide⟩
  · exact ⟨⟨isB_self (by decide), ok_both, by decide, by decide, by decide⟩, isB_self (by decide), ok_both, by decide, by decide, by decide⟩
  · exact ⟨isB_self (by decide), ok_short, by decide, by decide, by decide⟩
  · exact ⟨⟨isB_self (by decide), ok_short, by decide, by decide, by decide⟩, isB_self heL, he, by decide, by decide, by decide⟩
  · exact ⟨isB_self (by decide), ok_short, by decide, by decide, by decide⟩
  · exact ⟨⟨isB_self (by decide), ok_short, by decide, by decide, by decide⟩, isB_self heL, he, by decide, by decide, by decide⟩
  · exact ⟨isB_self (by decide), ok_both, by decide, by decide, by decide⟩
  · exact ⟨⟨isB_self (by decide), ok_empty, by decide, by decide, by decide⟩, isB_self (by decide), ok_empty, by decide, by decide, by decide⟩
  rw [hd3, hd4, hd1, hd2, hd5, hd6]
  refine ds_cons ?_
  refine ds_for (fun i Γ t' => t' = t ∧ ∃ x : En, Γ = [.v (encL lnR), .v (encL lnL), .v (encB shortB), .v (encB bothB), .own ([encB ⟨3, [⟨lnR, 1, 3, 1⟩]⟩, encT (.some [0, qh]), encT (.some []), .bool true, .bool true, encT .all] ++ (([(3 : Rat), -3].take i).map fun l => encT (turnsB (ldB l 0) (ldB l 1)))), x])
    (di_tup (ds := [(3 : Rat), -3].map encQ) (DE.as (de_tup2 (de_tup2 de_int de_int) (de_tup2 (de_neg de_int) de_int)) rfl)) ⟨rfl, _, rfl⟩ ?_ ?_
  · rintro i d _ t hd ⟨rfl, x, rfl⟩
    rw [List.getElem?_map] at hd
    cases hq : [(3 : Rat), -3][i]? with
    | none => rw [hq] at hd; cases hd
    | some l =>
    rw [hq] at hd
    have hd : encQ l = d := Option.some.inj hd
    subst hd
    obtain ⟨l1, l2⟩ := ld_ok l (List.mem_of_getElem? hq)
    refine ⟨_, _, dg_n 5, ?_⟩
    (refine ds_one ?_; refine ds_app 4 rfl (de_call (df_turns_between G) (da_cons (DE.as (de_tup2 (de_tup2 de_int de_int) (de_tup1 (de_tup4 (de_tup3 de_str (de_n 5 rfl) (de_tup2 de_int de_int)) (de_tup2 de_int de_int) (de_tup2 de_int de_int) de_int))) (d' := encB (ldB l 0)) rfl) (da_cons (DE.as (de_tup2 (de_tup2 de_int de_int) (de_tup1 (de_tup4 (de_tup3 de_str (de_n 5 rfl) (de_tup2 de_int de_int)) (de_tup2 de_int de_int) (de_tup2 de_int de_int) de_int))) (d' := encB (ldB l 1)) rfl) da_nil)) ⟨ldB l 0, ldB l 1, _, _, 25, 6, 1, 25, 6, 1, ?_, rfl, rfl, rfl⟩ rfl (Nat.le_of_ble_eq_true rfl)) ?_ ?_)
    · exact ⟨⟨isB_self (by show 1 < 1000; decide), ok_ld l1 l2 ⟨by decide, by decide⟩, by decide, by decide, by decide⟩, isB_self (by show 1 < 1000; decide), ok_ld l1 l2 ⟨by decide, by decide⟩, by decide, by decide, by decide⟩
    · have hi : i < 2 := (List.getElem?_eq_some_iff.mp hq).1
      rw [List.length_append, List.length_map, List.length_take]
      show 6 + min i 2 < 100000
      omega
    · refine ⟨rfl, .v (encQ l), ?_⟩
      rw [List.take_succ, hq, List.map_append, ← List.append_assoc]
      rfl
  · rintro _ t ⟨rfl, x, rfl⟩
    have e7 : ([(3 : Rat), -3].take ([(3 : Rat), -3].map encQ).length).map (fun l => encT (turnsB (ldB l 0) (ldB l 1))) = [encT (.some [q23]), encT (.some [q13])] := by
      show [encT (turnsB (ldB 3 0) (ldB 3 1)), encT (turnsB (ldB (-3) 0) (ldB (-3) 1))] = _
      rw [hd7, hd8]
    rw [e7]
    refine ds_cons ?_
    refine ds_app 4 rfl (de_call (df_turns_between G) (da_cons (de_tup2 (de_tup2 de_int de_int) (DN.frz (dn_lst1 (DN.frz (dn_lst4 (de_n 0 rfl) (de_tup2 de_int de_int) (DN.frz (dn_lst2 de_int de_int)) de_int))))) (da_cons (DN.frz (dn_lst2 (DN.frz (dn_lst2 de_int de_int)) (de_tup1 (de_tup4 (DN.frz (dn_list (l := false) (ds := [.str "lead", encQ 1, encQ qh]) (DE.tup (de_n 1 rfl)) rfl (G.f _ (by decide)))) (de_tup2 de_int de_int) (de_tup2 de_int de_int) de_int)))) da_nil)) ⟨oneB, lateB, _, _, 25, 6, 1, 25, 6, 1, ?hp, rfl, rfl, rfl⟩ rfl (Nat.le_of_ble_eq_true rfl)) (by decide) ?nx
    case hp => exact ⟨⟨⟨rfl, rfl⟩, ok_one, by decide, by decide, by decide⟩, ⟨rfl, rfl⟩, ok_late, by decide, by decide, by decide⟩
    case nx =>
    rw [hd9]
    refine ds_cool 4 rfl ?_
    refine ds_one ?_
    refine ds_ret (de_call hsame (da_cons (de_n 4 rfl) (da_cons (DN.frz (dn_lst (ds := [encB ⟨3, [⟨lnR, 1, 3, 1⟩]⟩, encT (.some [0, qh]), encT (.some []), .bool true, .bool true, encT .all, encT (.some [q23]), encT (.some [q13]), encT (.some [qh])])
      (da_cons (DE.as (de_tup2 (de_tup2 de_int de_int) (de_tup1 (de_tup4 (de_n 0 rfl) (de_tup2 de_int de_int) (de_tup2 de_int de_int) de_int))) rfl) (da_cons (DE.as (de_tup2 (de_tup2 de_int de_int) (de_tup2 de_int de_int)) rfl) (da_cons (DE.as (de_tup0 ) rfl) (da_cons de_bl (da_cons de_bl (da_cons de_str (da_cons (DE.as (de_tup1 (de_tup2 de_int de_int)) rfl) (da_cons (DE.as (de_tup1 (de_tup2 de_int de_int)) rfl) (da_cons (DE.as (de_tup1 (de_tup2 de_int de_int)) rfl) da_nil))))))))) (Nat.le_of_ble_eq_true rfl))) da_nil)) ⟨_, ?sk, rfl, rfl, rfl⟩ rfl (Nat.le_of_ble_eq_true rfl)) ⟨rfl, rfl⟩
    case sk =>
      show (true && (sk 5 (encB _) && (sk 5 (encT _) && (sk 5 (encT _) && (sk 5 (.bool _) && (sk 5 (.bool _) && (sk 5 (encT _) && (sk 5 (encT _) && (sk 5 (encT _) && (sk 5 (encT _) && true)))))))))) = true
      rw [sk_B (by decide), sk_T (by decide), sk_T (by decide), sk_bool, sk_T (by decide), sk_T (by decide), sk_T (by decide), sk_T (by decide)]
      rfl
theorem df_law (G : Ge K mg) : Df P w K mg base "law" 12 (fun eS t rS tS => ∃ (ns : List Int), eS = [.v (.list (ns.map PyData.int))] ∧ rS = .d (.bool true) ∧ tS = t) := by
  refine mkD G 82 ["_law_script"] ["_law_script"] (by decide +kernel) ⟨rfl, rfl, rfl, by decide +kernel, rfl, by decide +kernel, by decide +kernel⟩ (fun f fd F => F.bindsN fun _ _ _ _ _ _ us hl => match us, hl with | [_], _ => rfl) (fun es t r t' h => by obtain ⟨_, rfl, _, _⟩ := h; rfl) ?_
  rintro p _ t0 _ t ⟨ns, rfl, rfl, rfl⟩
  refine ds_one ?_
  have hTk : Tk 0 (boxA (cellsV ns), boxB (cellsV ns), 0) := ⟨Int.le_refl _, Int.le_refl _⟩
  refine ds_ret (de_and (de_call0 (df__law_by_hand_right G) ⟨rfl, rfl, rfl⟩ rfl (Nat.le_of_ble_eq_true rfl)) (fun _ => rfl) (fun _ => de_one (de_callN (df__law_right G) (dn_call (df__law_box G) (da_cons (DN.frz (dn_call (df__law_cells G) (da_cons (de_n 0 rfl) (da_cons de_int da_nil)) ⟨ns, rfl, rfl, rfl⟩ rfl (Nat.le_of_ble_eq_true rfl))) (da_cons de_int da_nil)) ⟨cellsV ns, rfl, rfl, rfl⟩ rfl (Nat.le_of_ble_eq_true rfl)) ⟨0, ⟨hTk, by decide, facts_of hTk⟩, rfl, rfl, rfl⟩ rfl (Nat.le_of_ble_eq_true rfl)))) ⟨rfl, rfl⟩
end
end Sc

/-! HL -/
set_option Elab.async false
set_option linter.all false
set_option maxRecDepth 100000
set_option maxHeartbeats 0
namespace Sc
open PySem PySem.Spec PyProof.Rows L2 Evl
theorem ge_of {K : PySem.W.Frag} {h : Heap} {mg : Str → Option Value} (X : K.In h) (G : h.Ns mainGlobals mg) (c : He.SaysD factsL defDs K) (x : extra K = true) : Ge K mg := by
  have hfact : ∀ f ∈ factsL, f.ok K = true := fun f hf => by
    obtain ⟨i, hi, e⟩ := List.getElem_of_mem hf
    exact He.SaysD.fact c i (by rw [List.getElem?_eq_getElem hi, e])
  obtain ⟨x1, x2⟩ := He.ba x
  obtain ⟨x3, x4⟩ := He.ba x2
  refine ⟨fun y hy => ?_, fun y hy => ?_, PySem.W.mg_of X G (He.eqO_ok x1), ⟨He.ga K "NONE", PySem.W.mg_of X G (He.eqO_ok x3), fun H => He.tupB_ok x4 H⟩⟩
  · obtain ⟨i, hi, e⟩ := List.getElem_of_mem hy
    have hd : defDs[i]? = some ⟨(y.1, none), y.1, y.1, defArgs (topS y.2), defBody (topS y.2), defScope (topS y.2), [], []⟩ := by
      unfold defDs
      rw [List.getElem?_map, List.getElem?_eq_getElem hi, e]
      rfl
    obtain ⟨fd, F⟩ := He.SaysD.def_ c i hd
    exact ⟨_, fd, F, He.glo_ok X G (hfact (.glo y.1) (List.mem_append_left _ (List.mem_map.mpr ⟨y, hy, rfl⟩)))⟩
  · exact He.free_ok X G (hfact (.free y) (List.mem_append_right _ (List.mem_map.mpr ⟨y, hy, rfl⟩)))
/-- the same rule, said of the function object itself -/
theorem fn_mk {P : Program} {w : World} {K : PySem.W.Frag} {mg : Str → Option Value} {base : Heap} {x : Str} {k : Nat} {ar : Ar} {st : Stmt} {f : Addr} {fd : FuncData} {N ps : List Str}
    (F : FunD K x x (defArgs st) (defBody st) (defScope st) [] [] f fd) (sc : FnScope N ps (defScope st)) (bd : Binds K fd ps []) (hlen : ∀ es t r t', ar es t r t' → es.length = ps.length)
    (body : ∀ (p : Bool) (es : List En) (t : Tn) (r : Rs) (t' : Tn), ar es t r t' → DSs ⟨P, w, K, mg, base, N, defScope st, k, true⟩ p (defBody st) (es ++ List.replicate (N.length - ps.length) .no) t (BodyPost r t')) :
    FnOk P w K mg base CX0 (k + 1) f fd ps (spOf K ar) := by
  refine F.ok sc (fun vs H Q E h => ?_) (fun cdv A outer s H vs Q E hr h => ?_)
  · obtain ⟨p, ta, F, t, es, r, t', h1, h2, h3, h4, h5⟩ := h
    rw [args_len h3]
    exact hlen es t r t' h4
  · obtain ⟨p, ta, Fz, t, es, r, t', h1, h2, h3, h4, h5⟩ := h
    have hl : vs.length = ps.length := by rw [args_len h3]; exact hlen es t r t' h4
    have hle := hlen es t r t' h4
    refine ⟨anySs (cxOf CX0 P w K mg base N x (defScope st) f cdv A outer s H E).nox (defBody st), PSs.nox pss_any, ?_⟩
    have hX : Cxs ⟨P, w, K, mg, base, N, defScope st, k, true⟩ (cxOf CX0 P w K mg base N x (defScope st) f cdv A outer s H E).nox := ⟨rfl, rfl, rfl, rfl, rfl, rfl, rfl, rfl, hr, sc.nd, rfl, fun _ _ => rfl, sc.kind⟩
    refine body p es t r t' h4 _ hX ta Fz H (L2.start N vs) Fz H ⟨Stp.refl h1, fun z => (by rw [(h2 z).2]; exact fun y => (nomatch y)), h2, ?_, ?_, ?_⟩ _ ⟨?_, ?_, ?_, ?_, ?_⟩
    · unfold L2.start
      rw [List.length_append, List.length_append, List.length_map, List.length_replicate, List.length_replicate, hl, hle]
    · intro i e he
      unfold L2.start
      rw [hl]
      exact args_ok (t := t) _ h3 i e he
    · intro i j a ds es' h6
      have nown : ∀ (es : List En) (vs : List V), ArgsOk K p ta Fz vs es → ∀ e ∈ es, ∀ ds, e ≠ En.own ds := by
        intro es
        induction es with
        | nil => intro vs _ e he; cases he
        | cons a es ih =>
          intro vs h e he ds z
          cases h with
          | cons y1 y2 =>
            rcases List.mem_cons.mp he with q | q
            · subst q
              subst z
              exact y1.elim
            · exact ih _ y2 e q ds z
      have hm := List.mem_of_getElem? h6
      rcases List.mem_append.mp hm with q | q
      · exact absurd rfl (nown es vs h3 _ q ds)
      · cases List.eq_of_mem_replicate q
    · intro Γ t2 σ F2 H2 h
      cases r <;> exact h.elim
    · intro Γ t2 σ F2 H2 h
      cases r <;> exact h.elim
    · intro Γ t2 σ F2 H2 h
      cases r <;> exact h.elim
    · intro d t2 v F2 H2 h s2 i2 hd
      cases r with
      | d x =>
        obtain ⟨rfl, rfl⟩ := (show d = x ∧ t2 = t' from h)
        exact h5 v F2 H2 s2 i2 hd
      | l ds => exact h.elim
    · intro ds t2 a ws F2 H2 h s2 i2 hn hf hl2 hd
      cases r with
      | d x => exact h.elim
      | l es2 =>
        obtain ⟨rfl, rfl⟩ := (show ds = es2 ∧ t2 = t' from h)
        exact h5 a ws F2 H2 s2 i2 hn hf hl2 hd
abbrev arLaw : Ar := fun eS t rS tS => ∃ (ns : List Int), eS = [.v (.list (ns.map PyData.int))] ∧ rS = .d (.bool true) ∧ tS = t
theorem law_body {P : Program} {w : World} {K : PySem.W.Frag} {mg : Str → Option Value} {base : Heap} (G : Ge K mg) : ∀ (p : Bool) (es : List En) (t : Tn) (r : Rs) (t' : Tn), arLaw es t r t' → DSs (St0 P w K mg base ["_law_script"] 82 11) p (defBody (topS 82)) (es ++ List.replicate ((["_law_script"] : List Str).length - (["_law_script"] : List Str).length) .no) t (BodyPost r t') := by
  rintro p _ t0 _ t ⟨ns, rfl, rfl, rfl⟩
  refine ds_one ?_
  have hTk : Tk 0 (boxA (cellsV ns), boxB (cellsV ns), 0) := ⟨Int.le_refl _, Int.le_refl _⟩
  refine ds_ret (de_and (de_call0 (df__law_by_hand_right G) ⟨rfl, rfl, rfl⟩ rfl (Nat.le_of_ble_eq_true rfl)) (fun _ => rfl) (fun _ => de_one (de_callN (df__law_right G) (dn_call (df__law_box G) (da_cons (DN.frz (dn_call (df__law_cells G) (da_cons (de_n 0 rfl) (da_cons de_int da_nil)) ⟨ns, rfl, rfl, rfl⟩ rfl (Nat.le_of_ble_eq_true rfl))) (da_cons de_int da_nil)) ⟨cellsV ns, rfl, rfl, rfl⟩ rfl (Nat.le_of_ble_eq_true rfl)) ⟨0, ⟨hTk, by decide, facts_of hTk⟩, rfl, rfl, rfl⟩ rfl (Nat.le_of_ble_eq_true rfl)))) ⟨rfl, rfl⟩
theorem sc_law : FnScope ["_law_script"] ["_law_script"] (defScope (topS 82)) := ⟨rfl, rfl, rfl, by decide +kernel, rfl, by decide +kernel, by decide +kernel⟩
theorem ints_dp {K : PySem.W.Frag} {H : Hp} : ∀ ns : List Int, DpAll K H (ns.map V.int) (ns.map PyData.int)
  | [] => .nil
  | n :: ns => .cons (.int n) (ints_dp ns)
theorem law_facts {P : Program} {w : World} {K : PySem.W.Frag} {h : Heap} {mg : Str → Option Value} {f : Addr} (X : K.In h) (G0 : h.Ns mainGlobals mg) (hfa : mg ("law" : Str) = some (.ref f)) (c : He.SaysD factsL defDs K) (x : extra K = true) :
    ∃ fd : FuncData, (∀ (s : Shared) (v : Value), BindsTo s fd ⟨[v], []⟩ [("_law_script", v)]) ∧ ∀ base : Heap, K.In base → base.Ns mainGlobals mg → FnOk P w K mg base CX0 12 f fd ["_law_script"] (spOf K arLaw) := by
  have G := ge_of X G0 c x
  obtain ⟨f', fd, F, hm⟩ := G.d ("law", 82) (by decide +kernel)
  have e := hfa.symm.trans hm
  cases e
  have b := FunD.bindsA (ps := ["_law_script"]) F fun _ _ _ _ _ _ us hl => match us, hl with | [_], _ => rfl
  refine ⟨fd, fun s v => b s [v] rfl, fun base _ _ => ?_⟩
  have bN : Binds K fd ["_law_script"] [] := F.bindsN fun _ _ _ _ _ _ us hl => match us, hl with | [_], _ => rfl
  exact fn_mk F sc_law bN (fun es t r t' h => by obtain ⟨_, rfl, _, _⟩ := h; rfl) (law_body G)
theorem law_sp {K : PySem.W.Frag} (H : Hp) (a : Addr) (ns : List Int) (hS : SqL K H a (ns.map V.int)) : spOf K arLaw [.ref a] H (fun v _ => v = .bl true) fun _ _ _ => False :=
  ⟨false, a, H, (0, 0, 0), [.v (.list (ns.map PyData.int))], .d (.bool true), (0, 0, 0), Ex.refl H, fun z => (nomatch z), .cons (Dp.lst hS (ints_dp ns)) .nil, ⟨ns, rfl, rfl, rfl⟩, fun v F' H' _ _ hd => by cases hd; rfl⟩
end Sc

/-! FIN -/
set_option Elab.async false
set_option linter.all false
set_option maxRecDepth 100000
set_option maxHeartbeats 0
open PySem PySem.W PySem.Calls PyProof.Rows
theorem PySem.Challenge.cw_screwshop_k27_whole_turned_exchanged_mir_holds : PySem.Challenge.rw_screwshop_k27_whole_turned_exchanged_mir.Holds := by
  w_on; o_law
  refine HandSHeadRun.head_imp (r := OpenLaw.row PySem.Challenge.rw_screwshop_k27_whole_turned_exchanged_mir) (q := view (OpenLaw.row PySem.Challenge.rw_screwshop_k27_whole_turned_exchanged_mir).prog [0, 82]) (H := Sc.hkX) (ob := Sc.obT) (M := 3000) (loose := Sc.looseX) (d := HandSHeadRun.topDef (OpenLaw.row PySem.Challenge.rw_screwshop_k27_whole_turned_exchanged_mir).prog 82) (kwd := []) Sc.obT_eq
    Sc.runX (by kernel_rfl) (by kernel_rfl) (by kernel_rfl) (by rfl) (by first | assumption | decide +kernel) (by decide +kernel) ⟨rfl, rfl, rfl, rfl, rfl, by decide +kernel⟩ ?hw ?hc
  case hw => w_witness2
  case hc =>
    refine L2.walk_ofE (l := PySem.Challenge.rw_screwshop_k27_whole_turned_exchanged_mir) (n := 63) (k := 12) (x := "_law_script") (CX := L2.CX0) rfl (by decide) (by kernel_rfl) ⟨rfl, by decide, by decide⟩ ?F (fun _ _ _ _ z => z)
    intro w mg fa h Y G hmg0
    obtain ⟨K, KX, c, x⟩ := Y
    have hmg : mg ("law" : PySem.Str) = some (.ref fa) := by
      have e : (HandSHeadRun.topDef (OpenLaw.row PySem.Challenge.rw_screwshop_k27_whole_turned_exchanged_mir).prog 82).name = ("law" : PySem.Str) := by kernel_rfl
      rw [← e]
      exact hmg0
    obtain ⟨fd, hb, hF⟩ := Sc.law_facts (P := (PySem.Challenge.rw_screwshop_k27_whole_turned_exchanged_mir).prog) (w := w) KX G hmg c x
    exact ⟨K, fd, Sc.spOf K Sc.arLaw, KX, hb, fun H a ns hl _ hS => Sc.law_sp H a ns hS, hF⟩
