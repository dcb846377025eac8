import PyProof.Rows.All
import Wide.All
import OpenK.AllK
import Wide.FinOn
import KE.KStateDown
import HandS.Words
import HandS.HeadHook1
import HandS.HeadHook2
import HandS.More
import HandS.Defaults
import HandS.Head0
import HandS.Head1
import HandS.Head2
import HandS.Head3
import HandS.Base
import HandS.Call
import HandS.List
import HandS.Comp
import HandS.Ends
import HandS.Evl
import HandS.Wide
import HandS.Dict
import HandS.Iter
import HandS.Walk
import HandS.Text
import HandS.IsInst
import HandS.Gcd
import HandS.Codes
import KE.GoesMore
import HandS.SetFor
import HandS.Strs
import HandS.EndBits
import PySem.Challenge.RW_caskyears_k87_whole_lots_are_where_their
set_option Elab.async false
set_option linter.all false
set_option maxRecDepth 100000
set_option maxHeartbeats 4000000
namespace CK
open PySem PySem.Spec PyProof.Rows L2
/-! ### the text's top -/
def top (i : Nat) : Stmt := PySem.Challenge.pw_caskyears_k87_whole_lots_are_where_their.main.body.getD i (.Pass ⟨0, 0, 0, 0⟩)
/-! ### the head's facts, gcd among them -/
def gcdB (K : PySem.W.Frag) : Bool := He.eqO (PySem.W.nsIn K mainGlobals "gcd") (some (some (.builtin "math.gcd")))
abbrev AlX : Type := He.AlD × Bool
def obsX (fa : List He.Fa) (fn : List He.DefD) (K : PySem.W.Frag) : AlX := (He.obsD fa fn K, gcdB K)
def valX (fn : List He.DefD) : AlX := (He.valD fn, true)
def SaysX (fa : List He.Fa) (fn : List He.DefD) (K : PySem.W.Frag) : Prop := obsX fa fn K = valX fn
def obsXG (n : Nat) (fa : List He.Fa) (fn : List He.DefD) (g : Addr → Option Obj) : AlX := obsX fa fn (He.frG g (He.asD g n))
def hookX (n : Nat) (fa : List He.Fa) (fn : List He.DefD) : PySem.W.Hook where
  α := AlX
  obs := fun s => obsXG n fa fn s.heap.get?
  val := fun _ => valX fn
  says := fun _ h => ∃ K : PySem.W.Frag, K.In h ∧ SaysX fa fn K
  of := fun _ _ e => ⟨_, He.frG_in, e⟩
  keeps := fun _ _ _ ⟨K, hK, c⟩ k => ⟨K, PySem.W.Frag.In.keeps hK k, c⟩
theorem obsXG_eq {n : Nat} {fa : List He.Fa} {fn : List He.DefD} {g : Addr → Option Obj} {s : Shared} (h : ∀ a, g a = s.heap.get? a) : obsXG n fa fn g = (hookX n fa fn).obs s := by
  have e : g = s.heap.get? := funext h
  rw [e] <;> rfl
section
variable {fa : List He.Fa} {fn : List He.DefD} {K : PySem.W.Frag}
theorem SaysX.d (c : SaysX fa fn K) : He.SaysD fa fn K := congrArg (fun z : AlX => z.1) c
theorem SaysX.gcd (c : SaysX fa fn K) {h : Heap} {mg : Str → Option Value} (X : K.In h) (G : h.Ns mainGlobals mg) : mg "gcd" = some (.builtin "math.gcd") := PySem.W.mg_of X G (He.eqO_ok (congrArg (fun z : AlX => z.2) c))
end
end CK
set_option Elab.async false
set_option linter.all false
set_option maxRecDepth 100000
set_option maxHeartbeats 0
namespace CK
open PySem PySem.Spec PyProof.Rows L2
def mkDe (x : Str) (i : Nat) : He.DefD := ⟨(x, none), x, x, defArgs (top i), defBody (top i), defScope (top i), [], []⟩

def fnX : List He.DefD := [mkDe "is_integer" 14, mkDe "is_kind" 15, mkDe "need_kind" 16, mkDe "is_fraction" 18, mkDe "is_share" 19, mkDe "need_fraction" 20, mkDe "need_share" 21, mkDe "fraction" 22, mkDe "plus" 23, mkDe "less" 24, mkDe "times" 25, mkDe "compared" 26, mkDe "is_fill" 28, mkDe "is_cellar" 29, mkDe "need_fill" 30, mkDe "need_cellar" 31, mkDe "amount" 32, mkDe "together" 33, mkDe "part" 34, mkDe "rest" 35, mkDe "is_place" 37, mkDe "is_deed" 38, mkDe "casks_of" 39, mkDe "is_deed_of" 40, mkDe "need_deed_of" 41, mkDe "gone_by" 42, mkDe "done" 43, mkDe "run" 44, mkDe "gone_in" 45, mkDe "drawn" 46, mkDe "need_story" 48, mkDe "is_draw" 49, mkDe "need_draw" 50, mkDe "every_lot" 51, mkDe "need_lot" 52, mkDe "ways_over" 53, mkDe "emptied" 54, mkDe "lots_ahead" 55, mkDe "carried_lots" 56, mkDe "lots" 57, mkDe "touched" 58, mkDe "carried" 59, mkDe "shortest_roads" 60, mkDe "need_road" 61, mkDe "road" 62, mkDe "is_ascending" 63, mkDe "road_holds" 64, mkDe "is_look" 65, mkDe "need_told" 66, mkDe "fitting_lots" 67, mkDe "suspects" 68, mkDe "_law_deck" 70, mkDe "_law_draw" 71, mkDe "_law_fraction" 72, mkDe "_law_share" 73, mkDe "_law_amount" 74, mkDe "_law_kind" 75, mkDe "_law_fill" 76, mkDe "_law_cellar" 77, mkDe "_law_deed" 78, mkDe "_law_story" 79, mkDe "_law_marked" 80, mkDe "_law_lots" 81, mkDe "_law_amount_of" 82, mkDe "_law_kept" 83, mkDe "_law_road_right" 84, mkDe "_law_draw_right" 85, mkDe "law" 86]
def faX : List He.Fa := [.glo "is_integer", .glo "is_kind", .glo "need_kind", .glo "is_fraction", .glo "is_share", .glo "need_fraction", .glo "need_share", .glo "fraction", .glo "plus", .glo "less", .glo "times", .glo "compared", .glo "is_fill", .glo "is_cellar", .glo "need_fill", .glo "need_cellar", .glo "amount", .glo "together", .glo "part", .glo "rest", .glo "is_place", .glo "is_deed", .glo "casks_of", .glo "is_deed_of", .glo "need_deed_of", .glo "gone_by", .glo "done", .glo "run", .glo "gone_in", .glo "drawn", .glo "need_story", .glo "is_draw", .glo "need_draw", .glo "every_lot", .glo "need_lot", .glo "ways_over", .glo "emptied", .glo "lots_ahead", .glo "carried_lots", .glo "lots", .glo "touched", .glo "carried", .glo "shortest_roads", .glo "need_road", .glo "road", .glo "is_ascending", .glo "road_holds", .glo "is_look", .glo "need_told", .glo "fitting_lots", .glo "suspects", .glo "_law_deck", .glo "_law_draw", .glo "_law_fraction", .glo "_law_share", .glo "_law_amount", .glo "_law_kind", .glo "_law_fill", .glo "_law_cellar", .glo "_law_deed", .glo "_law_story", .glo "_law_marked", .glo "_law_lots", .glo "_law_amount_of", .glo "_law_kept", .glo "_law_road_right", .glo "_law_draw_right", .glo "law", .free "isinstance", .free "bool", .free "int", .free "len", .free "all", .free "list", .free "tuple", .free "zip", .free "sorted", .free "enumerate", .free "max", .free "min", .free "range", .free "repr", .free "abs", .free "set", .free "str", .free "any", .free "ValueError"]
abbrev RW : PySem.W.OpenRow := PySem.W.OpenLaw.row PySem.Challenge.rw_caskyears_k87_whole_lots_are_where_their
abbrev hk : PySem.W.Hook := hookX 2 faX fnX
def ob (s : PySem.W.SharedT) : AlX := obsXG 2 faX fnX (HandSHeadRun.getT s)
theorem ob_eq (s : PySem.W.SharedT) : ob s = hk.obs s.abs := obsXG_eq (HandSHeadRun.getT_eq s)
def nm0 : List Str := ["CaskError", "InvalidFraction", "InvalidFill", "InvalidCellar", "InvalidDeed", "InvalidNumber", "Unlike", "BadStory", "BadLot", "BadTold", "anew", "is_integer", "is_kind", "need_kind", "is_fraction", "is_share", "need_fraction", "need_share", "fraction"]
def nm1 : List Str := ["plus", "less", "times", "compared", "is_fill", "is_cellar", "need_fill", "need_cellar", "amount", "together", "part", "rest", "is_place", "is_deed", "casks_of", "is_deed_of", "need_deed_of", "gone_by", "done", "run"]
def nm2 : List Str := ["gone_in", "drawn", "need_story", "is_draw", "need_draw", "every_lot", "need_lot", "ways_over", "emptied", "lots_ahead", "carried_lots", "lots", "touched", "carried", "shortest_roads", "need_road", "road", "is_ascending", "road_holds", "is_look"]
def nm3 : List Str := ["need_told", "fitting_lots", "suspects", "_law_deck", "_law_draw", "_law_fraction", "_law_share", "_law_amount", "_law_kind", "_law_fill", "_law_cellar", "_law_deed", "_law_story", "_law_marked", "_law_lots", "_law_amount_of", "_law_kept", "_law_road_right", "_law_draw_right"]
def loose : List Str := nm0 ++ nm1 ++ nm2 ++ nm3
theorem run_top (w : World) : HandSHeadRun.RunEqI RW (PySem.W.view RW.prog [0, 86]) hk ob 6000 loose w := by
  unfold HandSHeadRun.RunEqI
  kernel_rfl
end CK
namespace CK
open PySem PySem.W PySem.Calls PyProof.Rows
abbrev viewX : Program := view RW.prog [0, 86]
abbrev lawD := HandSHeadRun.topDef RW.prog 86
theorem end_def : defOf viewX RW.name = some (lawD, []) := by kernel_rfl
theorem end_the : RW.prog.theDef RW.name = some (lawD.params, lawD.body, lawD.scope) := by kernel_rfl
theorem end_kw : kwWritten? lawD.params.kwonlyargs lawD.params.kw_defaults = some [] := by kernel_rfl
theorem end_said : RW.wellSaid = true := by decide +kernel
theorem end_ok : (chainsOk viewX && opensWell RW.prog && (frees RW.toRowW && RW.within.isEmpty)) = true := by decide +kernel
theorem end_bare : RW.prog.bare := ⟨rfl, rfl, rfl, rfl, rfl, by decide +kernel⟩
theorem end_name : lawD.name = ("law" : Str) := by kernel_rfl
theorem end_dfl : lawD.params.defaults = [] := by kernel_rfl
theorem end_some : RW.toRowW.promised := by w_witness2
theorem start_law (h : RW.Holds) : PySem.Challenge.rw_caskyears_k87_whole_lots_are_where_their.Holds := by
  w_on; o_law
  exact h
end CK
set_option Elab.async false
set_option linter.all false
set_option maxRecDepth 100000
set_option maxHeartbeats 2000000
namespace CK
open PySem PySem.Spec PyProof.Rows L2
open Evl (Ex ex_l ex_t fresh_back)

/-! ### data in the heap -/
abbrev PD := PyData
mutual
inductive DV (H : Hp) : V → PD → Prop
  | non : DV H .non .none
  | bl (b : Bool) : DV H (.bl b) (.bool b)
  | int (i : Int) : DV H (.int i) (.int i)
  | str (x : Str) : DV H (.str x) (.str x)
  | lst {a : Addr} {xs : List V} {ds : List PD} : H a = some (.lst xs) → DVs H xs ds → DV H (.ref a) (.list ds)
  | tup {a : Addr} {xs : List V} {ds : List PD} : H a = some (.tup xs) → DVs H xs ds → DV H (.ref a) (.tuple ds)
inductive DVs (H : Hp) : List V → List PD → Prop
  | nil : DVs H [] []
  | cons {v : V} {vs : List V} {d : PD} {ds : List PD} : DV H v d → DVs H vs ds → DVs H (v :: vs) (d :: ds)
end
mutual
theorem DV.mono {H H' : Hp} (e : Ex H H') : ∀ (d : PD) (v : V), DV H v d → DV H' v d
  | .none, _, h => by cases h; exact .non
  | .bool b, _, h => by cases h; exact .bl b
  | .int i, _, h => by cases h; exact .int i
  | .str x, _, h => by cases h; exact .str x
  | .list ds, _, h => by
    cases h with
    | lst hs ha => exact .lst (e _ _ hs) (DVs.mono e ds _ ha)
  | .tuple ds, _, h => by
    cases h with
    | tup hs ha => exact .tup (e _ _ hs) (DVs.mono e ds _ ha)
  | .dict _, _, h => by cases h
theorem DVs.mono {H H' : Hp} (e : Ex H H') : ∀ (ds : List PD) (vs : List V), DVs H vs ds → DVs H' vs ds
  | [], _, h => by cases h; exact .nil
  | d :: ds, _, h => by
    cases h with
    | cons h1 h2 => exact .cons (DV.mono e d _ h1) (DVs.mono e ds _ h2)
end
mutual
theorem DV.dp {K : PySem.W.Frag} {H : Hp} : ∀ (d : PD) (v : V), DV H v d → Dp K H v d
  | .none, _, h => by cases h; exact .non
  | .bool b, _, h => by cases h; exact .bl b
  | .int i, _, h => by cases h; exact .int i
  | .str x, _, h => by cases h; exact .str x
  | .list ds, _, h => by
    cases h with
    | lst hs ha => exact .lst (SqL.of hs) (DVs.dp ds _ ha)
  | .tuple ds, _, h => by
    cases h with
    | tup hs ha => exact .tup (SqT.of hs) (DVs.dp ds _ ha)
  | .dict _, _, h => by cases h
theorem DVs.dp {K : PySem.W.Frag} {H : Hp} : ∀ (ds : List PD) (vs : List V), DVs H vs ds → DpAll K H vs ds
  | [], _, h => by cases h; exact .nil
  | d :: ds, _, h => by
    cases h with
    | cons h1 h2 => exact .cons (DV.dp d _ h1) (DVs.dp ds _ h2)
end
theorem DVs.length {H : Hp} : ∀ {vs : List V} {ds : List PD}, DVs H vs ds → vs.length = ds.length
  | [], _, h => by cases h; rfl
  | v :: vs, _, h => by
    cases h with
    | cons h1 h2 => exact congrArg (· + 1) (DVs.length h2)
theorem DVs.get {H : Hp} : ∀ {vs : List V} {ds : List PD} (i : Nat) {d : PD}, DVs H vs ds → ds[i]? = some d → ∃ v, vs[i]? = some v ∧ DV H v d
  | _, _, _, _, .nil, e => by simp at e
  | _, _, 0, _, .cons h _, e => by
    simp at e
    subst e
    exact ⟨_, rfl, h⟩
  | _, _, i + 1, _, .cons _ t, e => by
    obtain ⟨v, h1, h2⟩ := DVs.get i t (by simpa using e)
    exact ⟨v, by simpa using h1, h2⟩
theorem DVs.get' {H : Hp} : ∀ {vs : List V} {ds : List PD} (i : Nat) {v : V}, DVs H vs ds → vs[i]? = some v → ∃ d, ds[i]? = some d ∧ DV H v d
  | _, _, _, _, .nil, e => by simp at e
  | _, _, 0, _, .cons h _, e => by
    simp at e
    subst e
    exact ⟨_, rfl, h⟩
  | _, _, i + 1, _, .cons _ t, e => by
    obtain ⟨v, h1, h2⟩ := DVs.get' i t (by simpa using e)
    exact ⟨v, by simpa using h1, h2⟩
theorem DVs.append {H : Hp} : ∀ {vs ws : List V} {ds es : List PD}, DVs H vs ds → DVs H ws es → DVs H (vs ++ ws) (ds ++ es)
  | _, _, _, _, .nil, h => h
  | _, _, _, _, .cons h t, h2 => .cons h (DVs.append t h2)
theorem DVs.take {H : Hp} : ∀ {vs : List V} {ds : List PD} (n : Nat), DVs H vs ds → DVs H (vs.take n) (ds.take n)
  | _, _, 0, _ => .nil
  | _, _, _ + 1, .nil => .nil
  | _, _, n + 1, .cons h t => .cons h (DVs.take n t)
theorem DVs.drop {H : Hp} : ∀ {vs : List V} {ds : List PD} (n : Nat), DVs H vs ds → DVs H (vs.drop n) (ds.drop n)
  | _, _, 0, h => h
  | _, _, _ + 1, .nil => .nil
  | _, _, n + 1, .cons _ t => DVs.drop n t
theorem DVs.set {H : Hp} {v : V} {d : PD} (h : DV H v d) : ∀ {vs : List V} {ds : List PD} (n : Nat), DVs H vs ds → DVs H (vs.set n v) (ds.set n d)
  | _, _, _, .nil => .nil
  | _, _, 0, .cons _ t => .cons h t
  | _, _, n + 1, .cons h0 t => .cons h0 (DVs.set h n t)
theorem DVs.ints {H : Hp} : ∀ (ns : List Int), DVs H (ns.map V.int) (ns.map PyData.int)
  | [] => .nil
  | n :: ns => .cons (.int n) (DVs.ints ns)
theorem DVs.strs {H : Hp} : ∀ (ns : List Str), DVs H (ns.map V.str) (ns.map PyData.str)
  | [] => .nil
  | n :: ns => .cons (.str n) (DVs.strs ns)
theorem DVs.ints_inv {H : Hp} : ∀ {vs : List V} {ns : List Int}, DVs H vs (ns.map PyData.int) → vs = ns.map V.int
  | _, [], h => by cases h; rfl
  | _, n :: ns, h => by
    cases h with
    | cons h1 h2 =>
      cases h1
      rw [DVs.ints_inv h2]
      rfl
theorem DVs.strs_inv {H : Hp} : ∀ {vs : List V} {ns : List Str}, DVs H vs (ns.map PyData.str) → vs = ns.map V.str
  | _, [], h => by cases h; rfl
  | _, n :: ns, h => by
    cases h with
    | cons h1 h2 =>
      cases h1
      rw [DVs.strs_inv h2]
      rfl
theorem DVs.bools_inv {H : Hp} : ∀ {vs : List V} {ns : List Bool}, DVs H vs (ns.map PyData.bool) → vs = ns.map V.bl
  | _, [], h => by cases h; rfl
  | _, n :: ns, h => by
    cases h with
    | cons h1 h2 =>
      cases h1
      rw [DVs.bools_inv h2]
      rfl
/-- the values of a dict -/
def DKV (H : Hp) : List (Key × V) → List (Key × PD) → Prop := Paired fun p q => p.1 = q.1 ∧ DV H p.2 q.2
theorem DKV.mono {H H' : Hp} (e : Ex H H') : ∀ {vs : List (Key × V)} {ds : List (Key × PD)}, DKV H vs ds → DKV H' vs ds
  | _, _, .nil => .nil
  | _, _, .cons h t => .cons ⟨h.1, DV.mono e _ _ h.2⟩ (DKV.mono e t)

/-! ### what is known of the slots -/
inductive En where
  | unk
  | dat (d : PD)
  | own (ds : List PD)
  | dck (ds : List PD)
  | dic (kvs : List (Key × PD))
abbrev Rho := List En
def rget : Rho → Nat → En
  | [], _ => .unk
  | x :: _, 0 => x
  | _ :: r, n + 1 => rget r n
def rset : Rho → Nat → En → Rho
  | [], _, _ => []
  | _ :: r, 0, e => e :: r
  | x :: r, n + 1, e => x :: rset r n e
theorem rget_set_same : ∀ {ρ : Rho} {i : Nat} {e : En}, rget (rset ρ i e) i = e ∨ ρ.length ≤ i
  | [], _, _ => .inr (Nat.zero_le _)
  | _ :: _, 0, _ => .inl rfl
  | _ :: r, i + 1, e => by
    rcases rget_set_same (ρ := r) (i := i) (e := e) with h | h
    · exact .inl h
    · exact .inr (Nat.succ_le_succ h)
theorem rget_set_ne : ∀ {ρ : Rho} {i j : Nat} {e : En}, j ≠ i → rget (rset ρ i e) j = rget ρ j
  | [], _, _, _, _ => rfl
  | _ :: _, 0, 0, _, h => absurd rfl h
  | _ :: _, 0, j + 1, _, _ => rfl
  | _ :: _, i + 1, 0, _, _ => rfl
  | _ :: r, i + 1, j + 1, e, h => rget_set_ne (ρ := r) fun z => h (congrArg (· + 1) z)
theorem rset_length : ∀ {ρ : Rho} {i : Nat} {e : En}, (rset ρ i e).length = ρ.length
  | [], _, _ => rfl
  | _ :: _, 0, _ => rfl
  | _ :: r, i + 1, _ => congrArg (· + 1) (rset_length (ρ := r))
theorem rget_out : ∀ {ρ : Rho} {i : Nat}, ρ.length ≤ i → rget ρ i = .unk
  | [], _, _ => rfl
  | _ :: _, 0, h => by simp at h
  | _ :: r, i + 1, h => rget_out (ρ := r) (by simpa using h)
/-- from where a def has set out: what stood still, the heap, the list that it may change -/
structure Bs where
  S : Hp
  H : Hp
  dk : Option Addr
/-- behind some steps: S stands still -/
structure Stp (B : Bs) (S H : Hp) : Prop where
  old : ∀ a o, B.H a = some o → B.dk ≠ some a → H a = some o
  s0 : Ex B.S S
  sub : Ex S H
  new : ∀ a o, S a = some o → B.S a = some o ∨ B.H a = none
  dkt : ∀ a, B.dk = some a → ∃ o, H a = some o
theorem Stp.refl {S H : Hp} (h : Ex S H) : Stp ⟨S, H, none⟩ S H := ⟨fun _ _ e _ => e, Ex.refl _, h, fun _ _ e => .inl e, fun _ e => nomatch e⟩
theorem Stp.refld {S H : Hp} {a : Addr} {o : HO} (h : Ex S H) (ha : H a = some o) : Stp ⟨S, H, some a⟩ S H := ⟨fun _ _ e _ => e, Ex.refl _, h, fun _ _ e => .inl e, fun b e => by cases e; exact ⟨o, ha⟩⟩
def EnAt (B : Bs) (S H : Hp) (v : Option V) : En → Prop
  | .unk => True
  | .dat d => ∃ x, v = some x ∧ DV S x d
  | .own ds => ∃ a xs, v = some (.ref a) ∧ S a = none ∧ H a = some (.lst xs) ∧ DVs S xs ds ∧ B.H a = none ∧ B.dk ≠ some a
  | .dck ds => ∃ a xs, v = some (.ref a) ∧ S a = none ∧ H a = some (.lst xs) ∧ DVs S xs ds ∧ B.dk = some a
  | .dic kvs => ∃ a vs, v = some (.ref a) ∧ S a = none ∧ H a = some (.dK vs) ∧ DKV S vs kvs ∧ B.H a = none ∧ B.dk ≠ some a
def En.ow : En → Bool
  | .own _ => true
  | .dck _ => true
  | .dic _ => true
  | _ => false
structure EnvB (B : Bs) (S H : Hp) (σ : L2.St) (ρ : Rho) : Prop where
  len : σ.length = ρ.length
  ent : ∀ i, EnAt B S H (σ[i]?.getD none) (rget ρ i)
  apart : ∀ i j a, i ≠ j → (rget ρ i).ow = true → (rget ρ j).ow = true → σ[i]? = some (some (.ref a)) → σ[j]? = some (some (.ref a)) → False
  stp : Stp B S H
section
variable {B : Bs} {S S' H H' : Hp} {σ : L2.St} {ρ : Rho}
theorem get_some {i : Nat} {x : V} (h : σ[i]?.getD none = some x) : σ[i]? = some (some x) := by
  cases e : σ[i]? with
  | none => rw [e] at h; cases h
  | some o => rw [e] at h; exact congrArg some h
theorem EnvB.dat (E : EnvB B S H σ ρ) {i : Nat} {d : PD} (h : rget ρ i = .dat d) : ∃ x, σ[i]? = some (some x) ∧ DV S x d := by
  have q := E.ent i
  rw [h] at q
  obtain ⟨x, h1, h2⟩ := q
  exact ⟨x, get_some h1, h2⟩
theorem EnvB.own (E : EnvB B S H σ ρ) {i : Nat} {ds : List PD} (h : rget ρ i = .own ds) : ∃ a xs, σ[i]? = some (some (.ref a)) ∧ S a = none ∧ H a = some (.lst xs) ∧ DVs S xs ds ∧ B.H a = none ∧ B.dk ≠ some a := by
  have q := E.ent i
  rw [h] at q
  obtain ⟨a, xs, h1, h2⟩ := q
  exact ⟨a, xs, get_some h1, h2⟩
theorem EnvB.dck (E : EnvB B S H σ ρ) {i : Nat} {ds : List PD} (h : rget ρ i = .dck ds) : ∃ a xs, σ[i]? = some (some (.ref a)) ∧ S a = none ∧ H a = some (.lst xs) ∧ DVs S xs ds ∧ B.dk = some a := by
  have q := E.ent i
  rw [h] at q
  obtain ⟨a, xs, h1, h2⟩ := q
  exact ⟨a, xs, get_some h1, h2⟩
theorem EnvB.dic (E : EnvB B S H σ ρ) {i : Nat} {ds : List (Key × PD)} (h : rget ρ i = .dic ds) : ∃ a vs, σ[i]? = some (some (.ref a)) ∧ S a = none ∧ H a = some (.dK vs) ∧ DKV S vs ds ∧ B.H a = none ∧ B.dk ≠ some a := by
  have q := E.ent i
  rw [h] at q
  obtain ⟨a, xs, h1, h2⟩ := q
  exact ⟨a, xs, get_some h1, h2⟩
theorem EnvB.lt (E : EnvB B S H σ ρ) {i : Nat} (h : rget ρ i ≠ .unk) : i < σ.length := by
  rcases Nat.lt_or_ge i σ.length with q | q
  · exact q
  · exact absurd (rget_out (by rw [← E.len]; exact q)) h
theorem EnvB.sub (E : EnvB B S H σ ρ) : Ex S H := E.stp.sub
/-- new things, all that was stands -/
structure Grow (S H S' H' : Hp) : Prop where
  s : Ex S S'
  h : Ex H H'
  sub : Ex S' H'
  new : ∀ a o, S' a = some o → S a = some o ∨ H a = none
theorem Grow.refl (h : Ex S H) : Grow S H S H := ⟨Ex.refl _, Ex.refl _, h, fun _ _ e => .inl e⟩
theorem Grow.trans {S1 H1 S2 H2 : Hp} (a : Grow S H S1 H1) (b : Grow S1 H1 S2 H2) : Grow S H S2 H2 :=
  ⟨a.s.trans b.s, a.h.trans b.h, b.sub, fun x o e => by
    rcases b.new x o e with q | q
    · exact a.new x o q
    · exact .inr (fresh_back a.h q)⟩
theorem Grow.free (g : Grow S H S' H') {a : Addr} {o : HO} (h : S a = none) (ho : H a = some o) : S' a = none := by
  cases e : S' a with
  | none => rfl
  | some u =>
    rcases g.new a u e with q | q
    · rw [h] at q; cases q
    · rw [ho] at q; cases q
theorem Grow.of (s : Stp ⟨S, H, none⟩ S' H') : Grow S H S' H' := ⟨s.s0, fun a o e => s.old a o e (fun z => by cases z), s.sub, s.new⟩
/-- an object laid, standing still | of one's own -/
theorem Grow.lay {p : Addr} {o : HO} (h : Ex S H) (hp : H p = none) : Grow S H (upd S p o) (upd H p o) := by
  have hs : S p = none := fresh_back h hp
  refine ⟨Ex.new hs, Ex.new hp, fun a u e => ?_, fun a u e => ?_⟩
  · by_cases q : a = p
    · subst q; rw [upd_same] at e ⊢; exact e
    · rw [upd_ne q] at e ⊢; exact h a u e
  · by_cases q : a = p
    · subst q; exact .inr hp
    · rw [upd_ne q] at e; exact .inl e
theorem Grow.lay1 {p : Addr} {o : HO} (h : Ex S H) (hp : H p = none) : Grow S H S (upd H p o) :=
  ⟨Ex.refl _, Ex.new hp, h.trans (Ex.new hp), fun _ _ e => .inl e⟩
theorem Stp.grow (s : Stp B S H) (g : Grow S H S' H') : Stp B S' H' := by
  refine ⟨fun a o e n => g.h a o (s.old a o e n), s.s0.trans g.s, g.sub, fun a o e => ?_, fun a e => ?_⟩
  · rcases g.new a o e with q | q
    · exact s.new a o q
    · refine .inr ?_
      cases e0 : B.H a with
      | none => rfl
      | some u =>
        by_cases hd : B.dk = some a
        · obtain ⟨v, hv⟩ := s.dkt a hd
          rw [hv] at q
          cases q
        · rw [s.old a u e0 hd] at q
          cases q
  · obtain ⟨v, hv⟩ := s.dkt a e
    exact ⟨v, g.h a v hv⟩
/-- what H holds at p stands still from now on -/
theorem Stp.still {p : Addr} {o : HO} (s : Stp B S H) (hS : S p = none) (hp : H p = some o) (h0 : B.H p = none) : Stp B (upd S p o) H := by
  refine ⟨s.old, s.s0.trans (Ex.new hS), fun a u e => ?_, fun a u e => ?_, s.dkt⟩
  · by_cases q : a = p
    · subst q
      rw [upd_same] at e
      cases e
      exact hp
    · rw [upd_ne q] at e
      exact s.sub a u e
  · by_cases q : a = p
    · subst q
      exact .inr h0
    · rw [upd_ne q] at e
      exact s.new a u e
/-- one's own object changes -/
theorem Stp.change {p : Addr} {o : HO} (s : Stp B S H) (hS : S p = none) (h0 : B.H p = none ∨ B.dk = some p) : Stp B S (upd H p o) := by
  refine ⟨fun a u e n => ?_, s.s0, fun a u e => ?_, s.new, fun a e => ?_⟩
  · by_cases q : a = p
    · subst q
      rcases h0 with z | z
      · rw [z] at e
        cases e
      · exact absurd z n
    · rw [upd_ne q]
      exact s.old a u e n
  · by_cases q : a = p
    · subst q
      rw [hS] at e
      cases e
    · rw [upd_ne q]
      exact s.sub a u e
  · by_cases q : a = p
    · subst q
      exact ⟨o, upd_same⟩
    · rw [upd_ne q]
      exact s.dkt a e
theorem EnAt.grow {v : Option V} (g : Grow S H S' H') : ∀ {e : En}, EnAt B S H v e → EnAt B S' H' v e
  | .unk, _ => True.intro
  | .dat _, ⟨x, h1, h2⟩ => ⟨x, h1, DV.mono g.s _ _ h2⟩
  | .own _, ⟨a, xs, h1, h2, h3, h4, h5⟩ => ⟨a, xs, h1, g.free h2 h3, g.h _ _ h3, DVs.mono g.s _ _ h4, h5⟩
  | .dck _, ⟨a, xs, h1, h2, h3, h4, h5⟩ => ⟨a, xs, h1, g.free h2 h3, g.h _ _ h3, DVs.mono g.s _ _ h4, h5⟩
  | .dic _, ⟨a, xs, h1, h2, h3, h4, h5⟩ => ⟨a, xs, h1, g.free h2 h3, g.h _ _ h3, DKV.mono g.s h4, h5⟩
theorem EnvB.grow (E : EnvB B S H σ ρ) (g : Grow S H S' H') : EnvB B S' H' σ ρ :=
  ⟨E.len, fun i => (E.ent i).grow g, E.apart, E.stp.grow g⟩
theorem getD_set {i j : Nat} {v : Option V} (hi : i < σ.length) : ((σ.set i v)[j]?).getD none = if j = i then v else (σ[j]?).getD none := by
  by_cases h : j = i
  · subst h
    rw [List.getElem?_set_self hi, if_pos rfl]
    rfl
  · rw [List.getElem?_set_ne (Ne.symm h), if_neg h]
theorem getq_set {i j : Nat} {v : Option V} (hi : i < σ.length) (h : j ≠ i) : (σ.set i v)[j]? = σ[j]? := List.getElem?_set_ne (Ne.symm h)
/-- a slot is stored: something else than one's own -/
theorem EnvB.put (E : EnvB B S H σ ρ) (i : Nat) {v : Option V} {e : En} (h : EnAt B S H v e) (hn : e.ow = true → ∀ a j, v = some (.ref a) → j ≠ i → (rget ρ j).ow = true → σ[j]? ≠ some (some (.ref a))) : EnvB B S H (σ.set i v) (rset ρ i e) := by
  refine ⟨by rw [List.length_set, rset_length]; exact E.len, fun j => ?_, fun j k a hjk oj ok hj hk => ?_, E.stp⟩
  · by_cases hi : i < σ.length
    · rw [getD_set hi]
      by_cases q : j = i
      · subst q
        rw [if_pos rfl]
        rcases rget_set_same (ρ := ρ) (i := j) (e := e) with z | z
        · rw [z]; exact h
        · rw [← E.len] at z; exact absurd hi (Nat.not_lt.mpr z)
      · rw [if_neg q, rget_set_ne q]
        exact E.ent j
    · have e1 : σ.set i v = σ := List.set_eq_of_length_le (Nat.not_lt.mp hi)
      rw [e1]
      by_cases q : j = i
      · subst q
        rw [rget_out (by rw [rset_length, ← E.len]; exact Nat.not_lt.mp hi)]
        exact True.intro
      · rw [rget_set_ne q]
        exact E.ent j
  · have lt : ∀ m, (rget (rset ρ i e) m).ow = true → m < σ.length := fun m om => by
      rcases Nat.lt_or_ge m σ.length with z | z
      · exact z
      · rw [rget_out (by rw [rset_length, ← E.len]; exact z)] at om
        cases om
    have key : ∀ m n, m ≠ n → m = i → (rget (rset ρ i e) m).ow = true → (rget (rset ρ i e) n).ow = true → (σ.set i v)[m]? = some (some (.ref a)) → (σ.set i v)[n]? = some (some (.ref a)) → False := fun m n hmn hm om on h1 h2 => by
      subst hm
      have hl := lt m om
      rw [List.getElem?_set_self hl] at h1
      rcases rget_set_same (ρ := ρ) (i := m) (e := e) with z | z
      · rw [z] at om
        rw [rget_set_ne (Ne.symm hmn)] at on
        rw [getq_set hl (Ne.symm hmn)] at h2
        exact hn om a n (Option.some.inj h1) (Ne.symm hmn) on h2
      · rw [← E.len] at z; exact absurd hl (Nat.not_lt.mpr z)
    by_cases qj : j = i
    · exact key j k hjk qj oj ok hj hk
    · by_cases qk : k = i
      · exact key k j (Ne.symm hjk) qk ok oj hk hj
      · rw [rget_set_ne qj] at oj
        rw [rget_set_ne qk] at ok
        rw [List.getElem?_set_ne (Ne.symm qj)] at hj
        rw [List.getElem?_set_ne (Ne.symm qk)] at hk
        exact E.apart j k a hjk oj ok hj hk
theorem EnvB.put_dat (E : EnvB B S H σ ρ) (i : Nat) {v : V} {d : PD} (h : DV S v d) : EnvB B S H (σ.set i (some v)) (rset ρ i (.dat d)) :=
  E.put i ⟨v, rfl, h⟩ fun z => nomatch z
/-- an address of one's own is tracked: a new one is another -/
theorem EnvB.ow_at (E : EnvB B S H σ ρ) {j : Nat} {a : Addr} (h : (rget ρ j).ow = true) (ha : σ[j]? = some (some (.ref a))) : S a = none ∧ (∃ o, H a = some o) ∧ (B.H a = none ∨ B.dk = some a) := by
  have q := E.ent j
  rw [ha] at q
  cases e : rget ρ j with
  | unk => rw [e] at h; cases h
  | dat d => rw [e] at h; cases h
  | own ds =>
    rw [e] at q
    obtain ⟨b, xs, h1, h2, h3, _, h5, _⟩ := q
    cases h1
    exact ⟨h2, ⟨_, h3⟩, .inl h5⟩
  | dck ds =>
    rw [e] at q
    obtain ⟨b, xs, h1, h2, h3, _, h5⟩ := q
    cases h1
    exact ⟨h2, ⟨_, h3⟩, .inr h5⟩
  | dic ds =>
    rw [e] at q
    obtain ⟨b, xs, h1, h2, h3, _, h5, _⟩ := q
    cases h1
    exact ⟨h2, ⟨_, h3⟩, .inl h5⟩
/-- the entry at i told anew, the slot as it was -/
theorem EnvB.turn (E : EnvB B S H σ ρ) (i : Nat) {e : En} (st : Stp B S' H') (h : EnAt B S' H' (σ[i]?.getD none) e) (ho : e.ow = true → (rget ρ i).ow = true) (hr : ∀ j, j ≠ i → EnAt B S' H' (σ[j]?.getD none) (rget ρ j)) : EnvB B S' H' σ (rset ρ i e) := by
  refine ⟨by rw [rset_length]; exact E.len, fun j => ?_, fun j k a hjk oj ok hj hk => ?_, st⟩
  · by_cases q : j = i
    · subst q
      rcases rget_set_same (ρ := ρ) (i := j) (e := e) with z | z
      · rw [z]; exact h
      · rw [rget_out (by rw [rset_length]; exact z)]
        exact True.intro
    · rw [rget_set_ne q]
      exact hr j q
  · have key : ∀ m, (rget (rset ρ i e) m).ow = true → (rget ρ m).ow = true := fun m om => by
      by_cases q : m = i
      · subst q
        rcases rget_set_same (ρ := ρ) (i := m) (e := e) with z | z
        · rw [z] at om; exact ho om
        · rw [rget_out (by rw [rset_length]; exact z)] at om; cases om
      · rw [rget_set_ne q] at om; exact om
    exact E.apart j k a hjk (key j oj) (key k ok) hj hk
/-- the others, where one's own object at a changes -/
theorem EnvB.others (E : EnvB B S H σ ρ) {i : Nat} {a : Addr} {o : HO} (hi : (rget ρ i).ow = true) (ha : σ[i]? = some (some (.ref a))) : ∀ j, j ≠ i → EnAt B S (upd H a o) (σ[j]?.getD none) (rget ρ j) := fun j hj => by
  have q := E.ent j
  have ne : ∀ b, (rget ρ j).ow = true → σ[j]?.getD none = some (.ref b) → b ≠ a := fun b oj hb z => by
    subst z
    exact E.apart j i b hj oj hi (get_some hb) ha
  cases e : rget ρ j with
  | unk => exact True.intro
  | dat d => rw [e] at q; exact q
  | own ds =>
    rw [e] at q
    obtain ⟨b, xs, h1, h2, h3, h4⟩ := q
    exact ⟨b, xs, h1, h2, by rw [upd_ne (ne b (by rw [e]; rfl) h1)]; exact h3, h4⟩
  | dck ds =>
    rw [e] at q
    obtain ⟨b, xs, h1, h2, h3, h4⟩ := q
    exact ⟨b, xs, h1, h2, by rw [upd_ne (ne b (by rw [e]; rfl) h1)]; exact h3, h4⟩
  | dic ds =>
    rw [e] at q
    obtain ⟨b, xs, h1, h2, h3, h4⟩ := q
    exact ⟨b, xs, h1, h2, by rw [upd_ne (ne b (by rw [e]; rfl) h1)]; exact h3, h4⟩
/-- .. where it stands still from now on -/
theorem EnvB.others_still (E : EnvB B S H σ ρ) {i : Nat} {a : Addr} {o : HO} (hi : (rget ρ i).ow = true) (ha : σ[i]? = some (some (.ref a))) : ∀ j, j ≠ i → EnAt B (upd S a o) H (σ[j]?.getD none) (rget ρ j) := fun j hj => by
  have q := E.ent j
  have hS := (E.ow_at hi ha).1
  have ne : ∀ b, (rget ρ j).ow = true → σ[j]?.getD none = some (.ref b) → b ≠ a := fun b oj hb z => by
    subst z
    exact E.apart j i b hj oj hi (get_some hb) ha
  have ex : Ex S (upd S a o) := Ex.new hS
  cases e : rget ρ j with
  | unk => exact True.intro
  | dat d =>
    rw [e] at q
    obtain ⟨x, h1, h2⟩ := q
    exact ⟨x, h1, DV.mono ex _ _ h2⟩
  | own ds =>
    rw [e] at q
    obtain ⟨b, xs, h1, h2, h3, h4, h5⟩ := q
    exact ⟨b, xs, h1, by rw [upd_ne (ne b (by rw [e]; rfl) h1)]; exact h2, h3, DVs.mono ex _ _ h4, h5⟩
  | dck ds =>
    rw [e] at q
    obtain ⟨b, xs, h1, h2, h3, h4, h5⟩ := q
    exact ⟨b, xs, h1, by rw [upd_ne (ne b (by rw [e]; rfl) h1)]; exact h2, h3, DVs.mono ex _ _ h4, h5⟩
  | dic ds =>
    rw [e] at q
    obtain ⟨b, xs, h1, h2, h3, h4, h5⟩ := q
    exact ⟨b, xs, h1, by rw [upd_ne (ne b (by rw [e]; rfl) h1)]; exact h2, h3, DKV.mono ex h4, h5⟩
/-- an own list, read as a value: it stands still from now on -/
theorem EnvB.freeze (E : EnvB B S H σ ρ) {i : Nat} {ds : List PD} (h : rget ρ i = .own ds) : ∃ S' v, σ[i]? = some (some v) ∧ Ex S S' ∧ DV S' v (.list ds) ∧ EnvB B S' H σ (rset ρ i (.dat (.list ds))) := by
  obtain ⟨a, xs, h1, h2, h3, h4, h5, h6⟩ := E.own h
  have ex : Ex S (upd S a (.lst xs)) := Ex.new h2
  have dp : DV (upd S a (.lst xs)) (.ref a) (.list ds) := .lst upd_same (DVs.mono ex _ _ h4)
  refine ⟨upd S a (.lst xs), .ref a, h1, ex, dp, E.turn i (E.stp.still h2 h3 h5) ⟨_, by rw [h1]; rfl, dp⟩ (fun z => nomatch z) (E.others_still (by rw [h]; rfl) h1)⟩
/-- an own list changes -/
theorem EnvB.change (E : EnvB B S H σ ρ) {i : Nat} {ds ds' : List PD} {a : Addr} {xs' : List V} (h : rget ρ i = .own ds) (ha : σ[i]? = some (some (.ref a))) (h' : DVs S xs' ds') : EnvB B S (upd H a (.lst xs')) σ (rset ρ i (.own ds')) := by
  obtain ⟨b, xs, h1, h2, h3, h4, h5, h6⟩ := E.own h
  rw [ha] at h1
  cases h1
  exact E.turn i (E.stp.change h2 (.inl h5)) ⟨a, xs', by rw [ha]; rfl, h2, upd_same, h', h5, h6⟩ (fun _ => by rw [h]; rfl) (E.others (by rw [h]; rfl) ha)
theorem EnvB.changed (E : EnvB B S H σ ρ) {i : Nat} {ds ds' : List PD} {a : Addr} {xs' : List V} (h : rget ρ i = .dck ds) (ha : σ[i]? = some (some (.ref a))) (h' : DVs S xs' ds') : EnvB B S (upd H a (.lst xs')) σ (rset ρ i (.dck ds')) := by
  obtain ⟨b, xs, h1, h2, h3, h4, h5⟩ := E.dck h
  rw [ha] at h1
  cases h1
  exact E.turn i (E.stp.change h2 (.inr h5)) ⟨a, xs', by rw [ha]; rfl, h2, upd_same, h', h5⟩ (fun _ => by rw [h]; rfl) (E.others (by rw [h]; rfl) ha)
theorem EnvB.changeD (E : EnvB B S H σ ρ) {i : Nat} {ds ds' : List (Key × PD)} {a : Addr} {xs' : List (Key × V)} (h : rget ρ i = .dic ds) (ha : σ[i]? = some (some (.ref a))) (h' : DKV S xs' ds') : EnvB B S (upd H a (.dK xs')) σ (rset ρ i (.dic ds')) := by
  obtain ⟨b, xs, h1, h2, h3, h4, h5, h6⟩ := E.dic h
  rw [ha] at h1
  cases h1
  exact E.turn i (E.stp.change h2 (.inl h5)) ⟨a, xs', by rw [ha]; rfl, h2, upd_same, h', h5, h6⟩ (fun _ => by rw [h]; rfl) (E.others (by rw [h]; rfl) ha)
end
end CK
set_option Elab.async false
set_option linter.all false
set_option maxRecDepth 100000
set_option maxHeartbeats 2000000
namespace CK
open PySem PySem.Spec PyProof.Rows L2
open Evl (Ex ex_l ex_t fresh_back)

/-! ### readings over data -/
abbrev TED := Rho → (PD → Rho → Prop) → Prop
abbrev TTD := Rho → (Bool → Rho → Prop) → Prop
abbrev TAD := Rho → (List PD → Rho → Prop) → Prop
structure DEnds where
  nx : Rho → Prop
  rt : En → Rho → Prop
  bk : Rho → Prop := fun _ => False
  ct : Rho → Prop := fun _ => False
abbrev TSD := DEnds → Rho → Prop
abbrev TGD := PD → Rho → (Rho → Prop) → Prop

/-! ### what they say of slots and heap -/
def liftE (td : TED) : TE := fun σ H R => ∃ B ρ S Q, EnvB B S H σ ρ ∧ td ρ Q ∧ ∀ v H' d ρ' S', EnvB B S' H' σ ρ' → Ex S S' → DV S' v d → Q d ρ' → R v H'
def liftT (td : TTD) : TT := fun σ H R => ∃ B ρ S Q, EnvB B S H σ ρ ∧ td ρ Q ∧ ∀ b H' ρ' S', EnvB B S' H' σ ρ' → Ex S S' → Q b ρ' → R b H'
def liftA (td : TAD) : TA := fun σ H R => ∃ B ρ S Q, EnvB B S H σ ρ ∧ td ρ Q ∧ ∀ vs H' ds ρ' S', EnvB B S' H' σ ρ' → Ex S S' → DVs S' vs ds → Q ds ρ' → R vs H'
/-- p is new: of one's own, none has it -/
structure New (B : Bs) (σ : L2.St) (ρ : Rho) (p : Addr) : Prop where
  h : B.H p = none
  dk : B.dk ≠ some p
  no : ∀ j, (rget ρ j).ow = true → σ[j]? ≠ some (some (.ref p))
theorem EnvB.new {B : Bs} {S H : Hp} {σ : L2.St} {ρ : Rho} (E : EnvB B S H σ ρ) {p : Addr} (h : H p = none) : New B σ ρ p := by
  have hd : B.dk ≠ some p := fun z => by
    obtain ⟨o, e⟩ := E.stp.dkt p z
    rw [h] at e
    cases e
  refine ⟨?_, hd, fun j oj hj => ?_⟩
  · cases e : B.H p with
    | none => rfl
    | some o =>
      have q := E.stp.old p o e hd
      rw [h] at q
      cases q
  · obtain ⟨_, ⟨o, e⟩, _⟩ := E.ow_at oj hj
    rw [h] at e
    cases e
/-- a new list of one's own -/
def liftO (td : TAD) : TE := fun σ H R => ∃ B ρ S Q, EnvB B S H σ ρ ∧ td ρ Q ∧ ∀ p xs H' ds ρ' S', EnvB B S' H' σ ρ' → Ex S S' → S' p = none → H' p = some (.lst xs) → New B σ ρ' p → DVs S' xs ds → Q ds ρ' → R (.ref p) H'
/-- a new dict of one's own -/
def liftD (td : Rho → (List (Key × PD) → Rho → Prop) → Prop) : TE := fun σ H R => ∃ B ρ S Q, EnvB B S H σ ρ ∧ td ρ Q ∧ ∀ p xs H' ds ρ' S', EnvB B S' H' σ ρ' → Ex S S' → S' p = none → H' p = some (.dK xs) → New B σ ρ' p → DKV S' xs ds → Q ds ρ' → R (.ref p) H'
def liftS (td : TSD) : TS := fun D σ H => ∃ B ρ S DD, EnvB B S H σ ρ ∧ td DD ρ ∧ (∀ σ' H' ρ' S', EnvB B S' H' σ' ρ' → Ex S S' → DD.nx ρ' → D.nx σ' H') ∧ (∀ σ' H' ρ' S', EnvB B S' H' σ' ρ' → Ex S S' → DD.bk ρ' → D.bk σ' H') ∧ (∀ σ' H' ρ' S', EnvB B S' H' σ' ρ' → Ex S S' → DD.ct ρ' → D.ct σ' H') ∧
  (∀ v e σ' H' ρ' S', EnvB B S' H' σ' ρ' → Ex S S' → EnAt B S' H' (some v) e → DD.rt e ρ' → D.rt v H')
def liftG (tg : TGD) : TG := fun v σ H R => ∃ B ρ S Q d, EnvB B S H σ ρ ∧ DV S v d ∧ tg d ρ Q ∧ ∀ σ' H' ρ' S', EnvB B S' H' σ' ρ' → Ex S S' → Q ρ' → R σ' H'

section
variable {X : Cx} {e a b : Expr} {es : List Expr} {pos : Pos}
def PED (X : Cx) (e : Expr) (td : TED) : Prop := PE X e (liftE td)
def PTD (X : Cx) (e : Expr) (td : TTD) : Prop := PT X e (liftT td)
def PWD (X : Cx) (e : Expr) (td : TTD) : Prop := PW X e (liftT td)
def PAD (X : Cx) (es : List Expr) (td : TAD) : Prop := PA X es (liftA td)
def POD (X : Cx) (e : Expr) (td : TAD) : Prop := PE X e (liftO td)
def PDD (X : Cx) (e : Expr) (td : Rho → (List (Key × PD) → Rho → Prop) → Prop) : Prop := PE X e (liftD td)
def PSD (X : Cx) (st : Stmt) (td : TSD) : Prop := PS X st (liftS td)
def PBD (X : Cx) (sts : List Stmt) (td : TSD) : Prop := PSs X sts (liftS td)
def PGD (X : Cx) (tg : Expr) (td : TGD) : Prop := PG X tg (liftG td)
theorem impPE {t t' : TE} (h : PE X e t) (f : ∀ σ H Q, t' σ H Q → t σ H Q) : PE X e t' := ⟨fun pins s σ H Q I hw => h.run pins s σ H Q I (f σ H Q hw)⟩
theorem impPT {t t' : TT} (h : PT X e t) (f : ∀ σ H Q, t' σ H Q → t σ H Q) : PT X e t' := ⟨fun pins s σ H Q I hw => h.run pins s σ H Q I (f σ H Q hw)⟩
theorem impPW {t t' : TT} (h : PW X e t) (f : ∀ σ H Q, t' σ H Q → t σ H Q) : PW X e t' := ⟨fun wh pins s σ H Q I hw => h.run wh pins s σ H Q I (f σ H Q hw)⟩
theorem impPA {t t' : TA} (h : PA X es t) (f : ∀ σ H Q, t' σ H Q → t σ H Q) : PA X es t' := ⟨fun pos pins s σ H Q I hw => h.run pos pins s σ H Q I (f σ H Q hw)⟩
theorem impPS {st : Stmt} {t t' : TS} (h : PS X st t) (f : ∀ D σ H, t' D σ H → t D σ H) : PS X st t' := ⟨fun pins s σ H D I hw => h.run pins s σ H D I (f D σ H hw)⟩
theorem impPSs {st : List Stmt} {t t' : TS} (h : PSs X st t) (f : ∀ D σ H, t' D σ H → t D σ H) : PSs X st t' := ⟨fun pins s σ H D I hw => h.run pins s σ H D I (f D σ H hw)⟩
theorem impPG {tg : Expr} {t t' : TG} (h : PG X tg t) (f : ∀ v σ H Q, t' v σ H Q → t v σ H Q) : PG X tg t' := ⟨fun pins s σ H v u Q I r hw => h.run pins s σ H v u Q I r (f v σ H Q hw)⟩

/-! ### names, constants -/
def dVar (i : Nat) : TED := fun ρ Q => match rget ρ i with
  | .dat d => Q d ρ
  | .own ds => Q (.list ds) (rset ρ i (.dat (.list ds)))
  | _ => False
theorem sim_var {i : Nat} {σ : L2.St} {H : Hp} {R : VK} (h : liftE (dVar i) σ H R) : tVar i σ H R := by
  obtain ⟨B, ρ, S, Q, E, h, k⟩ := h
  unfold dVar at h
  cases e : rget ρ i with
  | dat d =>
    rw [e] at h
    obtain ⟨x, h1, h2⟩ := E.dat e
    exact ⟨x, h1, k x H d ρ S E (Ex.refl _) h2 h⟩
  | own ds =>
    rw [e] at h
    obtain ⟨S', v, h1, h2, h3, h4⟩ := E.freeze e
    exact ⟨v, h1, k v H _ _ S' h4 h2 h3 h⟩
  | unk => rw [e] at h; exact h.elim
  | dck ds => rw [e] at h; exact h.elim
  | dic ds => rw [e] at h; exact h.elim
theorem pv_ (i : Nat) {x : Str} {pos : Pos} (hN : X.N[i]? = some x := by rfl) (hv : Vis X.env.scope x := by first | exact Or.inl rfl | exact Or.inr (Or.inl rfl) | exact Or.inr (Or.inr rfl)) (hd : (x == ("__debug__" : Str)) = false := by decide)
    (hcd : (x == ("__classdict__" : Str)) = false := by decide) : PED X (.Name x pos) (dVar i) := impPE (pe_var hN hv hd hcd) fun _ _ _ h => sim_var h
def dC (d : PD) : TED := fun ρ Q => Q d ρ
theorem sim_c {v : V} {d : PD} {σ : L2.St} {H : Hp} {R : VK} (hd : ∀ S, DV S v d) (h : liftE (dC d) σ H R) : tC v σ H R := by
  obtain ⟨B, ρ, S, Q, E, h, k⟩ := h
  exact k v H d ρ S E (Ex.refl _) (hd S) h
theorem p_int {i j pos} : PED X (.Constant (.int i) j pos) (dC (.int i)) := impPE pe_int fun _ _ _ h => sim_c (fun _ => .int i) h
theorem p_bl {i j pos} : PED X (.Constant (.bool i) j pos) (dC (.bool i)) := impPE pe_bl fun _ _ _ h => sim_c (fun _ => .bl i) h
theorem p_non {j pos} : PED X (.Constant .none j pos) (dC .none) := impPE pe_non fun _ _ _ h => sim_c (fun _ => .non) h
theorem p_str {i j pos} : PED X (.Constant (.str i) j pos) (dC (.str i)) := impPE pe_str fun _ _ _ h => sim_c (fun _ => .str i) h

/-! ### operations on two, on one -/
abbrev WD2 := PD → PD → (PD → Prop) → Prop
abbrev WD1 := PD → (PD → Prop) → Prop
def SOp (r : R2) (w : WD2) : Prop := ∀ {S H : Hp} {x y : V} {dx dy : PD} {k : PD → Prop} {R : VK}, Ex S H → DV S x dx → DV S y dy → w dx dy k → (∀ v H' S' d, Grow S H S' H' → DV S' v d → k d → R v H') → r x y H R
def SUn (r : V → Hp → VK → Prop) (w : WD1) : Prop := ∀ {S H : Hp} {x : V} {dx : PD} {k : PD → Prop} {R : VK}, Ex S H → DV S x dx → w dx k → (∀ v H' S' d, Grow S H S' H' → DV S' v d → k d → R v H') → r x H R
def dOp (w : WD2) (ta tb : TED) : TED := fun ρ Q => ta ρ fun x ρ1 => tb ρ1 fun y ρ2 => w x y fun z => Q z ρ2
def dUn (w : WD1) (ta : TED) : TED := fun ρ Q => ta ρ fun x ρ1 => w x fun z => Q z ρ1
theorem sim_op {r : R2} {w : WD2} {ta tb : TED} {σ : L2.St} {H : Hp} {R : VK} (hs : SOp r w) (h : liftE (dOp w ta tb) σ H R) : tOp r (liftE ta) (liftE tb) σ H R := by
  obtain ⟨B, ρ, S, Q, E, h, k⟩ := h
  refine ⟨B, ρ, S, _, E, h, fun x H1 dx ρ1 S1 E1 e1 hx h1 => ⟨B, ρ1, S1, _, E1, h1, fun y H2 dy ρ2 S2 E2 e2 hy h2 => ?_⟩⟩
  exact hs E2.sub (DV.mono e2 _ _ hx) hy h2 fun v H' S' d g hv q => k v H' d ρ2 S' (E2.grow g) ((e1.trans e2).trans g.s) hv q
theorem sim_un {r : V → Hp → VK → Prop} {w : WD1} {ta : TED} {σ : L2.St} {H : Hp} {R : VK} (hs : SUn r w) (h : liftE (dUn w ta) σ H R) : tUn r (liftE ta) σ H R := by
  obtain ⟨B, ρ, S, Q, E, h, k⟩ := h
  refine ⟨B, ρ, S, _, E, h, fun x H1 dx ρ1 S1 E1 e1 hx h1 => ?_⟩
  exact hs E1.sub hx h1 fun v H' S' d g hv q => k v H' d ρ1 S' (E1.grow g) (e1.trans g.s) hv q
theorem p_op {op : Operator} {r : R2} {w : WD2} {ta tb : TED} (ho : OpR X (binaryOp op) r) (hs : SOp r w) (ha : PED X a ta) (hb : PED X b tb) : PED X (.BinOp a op b pos) (dOp w ta tb) := impPE (pe_op ho ha hb) fun _ _ _ h => sim_op hs h
theorem p_un {op : UnaryOp} {r : V → Hp → VK → Prop} {w : WD1} {ta : TED} (ho : UnR X (unaryOp op) r) (hs : SUn r w) (ha : PED X a ta) : PED X (.UnaryOp op a pos) (dUn w ta) := impPE (pe_un ho ha) fun _ _ _ h => sim_un hs h
theorem p_cmp {op : CmpOp} {r : R2} {w : WD2} {ta tb : TED} (ho : OpR X (compareOp op) r) (hs : SOp r w) (ha : PED X a ta) (hb : PED X b tb) (hm : behindInMarks op b = false) : PED X (.Compare a [op] [b] pos) (dOp w ta tb) := impPE (pe_cmpR ho ha hb hm) fun _ _ _ h => sim_op hs h
def boolK : PD → (Bool → Prop) → Prop
  | .bool b, k => k b
  | _, _ => False
def lstK : PD → (List PD → Prop) → Prop
  | .list ds, k => k ds
  | _, _ => False
def tupK : PD → (List PD → Prop) → Prop
  | .tuple ds, k => k ds
  | _, _ => False
def intK : PD → (Int → Prop) → Prop
  | .int i, k => k i
  | _, _ => False
def strK : PD → (Str → Prop) → Prop
  | .str z, k => k z
  | _, _ => False
def pairK : PD → (PD → PD → Prop) → Prop
  | .tuple [x, y], k => k x y
  | _, _ => False
theorem lstK_of {S : Hp} {v : V} {d : PD} {k : List PD → Prop} (hv : DV S v d) (q : lstK d k) : ∃ a xs ds, v = .ref a ∧ S a = some (.lst xs) ∧ DVs S xs ds ∧ k ds := by
  cases hv with
  | lst ha hd => exact ⟨_, _, _, rfl, ha, hd, q⟩
  | _ => exact q.elim
theorem tupK_of {S : Hp} {v : V} {d : PD} {k : List PD → Prop} (hv : DV S v d) (q : tupK d k) : ∃ a xs ds, v = .ref a ∧ S a = some (.tup xs) ∧ DVs S xs ds ∧ k ds := by
  cases hv with
  | tup ha hd => exact ⟨_, _, _, rfl, ha, hd, q⟩
  | _ => exact q.elim
theorem intK_of {S : Hp} {v : V} {d : PD} {k : Int → Prop} (hv : DV S v d) (q : intK d k) : ∃ i, v = .int i ∧ k i := by
  cases hv with
  | int i => exact ⟨i, rfl, q⟩
  | _ => exact q.elim
theorem strK_of {S : Hp} {v : V} {d : PD} {k : Str → Prop} (hv : DV S v d) (q : strK d k) : ∃ i, v = .str i ∧ k i := by
  cases hv with
  | str i => exact ⟨i, rfl, q⟩
  | _ => exact q.elim
/-- the two ways of a test -/
def br (c : Bool) (P Q : Prop) : Prop := (c = true → P) ∧ (c = false → Q)
theorem br.t {P Q : Prop} (h : br true P Q) : P := h.1 rfl
theorem br.f {P Q : Prop} (h : br false P Q) : Q := h.2 rfl
theorem boolK_of {S : Hp} {v : V} {d : PD} {k : Bool → Prop} (hv : DV S v d) (q : boolK d k) : ∃ c, v = .bl c ∧ k c := by
  cases hv with
  | bl b => exact ⟨b, rfl, q⟩
  | _ => exact q.elim
def dB (t : TED) : TTD := fun ρ Q => t ρ fun d ρ1 => boolK d fun b => Q b ρ1
theorem sim_B {σ : L2.St} {R : Bool → Hp → Prop} {Q : Bool → Rho → Prop} {B : Bs} {S S' H' : Hp} {v : V} {d : PD} {ρ' : Rho} (k : ∀ b H' ρ' S', EnvB B S' H' σ ρ' → Ex S S' → Q b ρ' → R b H') (E' : EnvB B S' H' σ ρ') (e' : Ex S S') (hv : DV S' v d)
    (q : boolK d fun b => Q b ρ') : ∃ c, v = .bl c ∧ R c H' := by
  obtain ⟨c, h1, h2⟩ := boolK_of hv q
  exact ⟨c, h1, k c H' ρ' S' E' e' h2⟩
theorem q_cmp {op : CmpOp} {r : R2} {w : WD2} {ta tb : TED} (ho : OpR X (compareOp op) r) (hs : SOp r w) (ha : PED X a ta) (hb : PED X b tb) (hm : behindInMarks op b = false) : PTD X (.Compare a [op] [b] pos) (dB (dOp w ta tb)) := by
  refine impPT (pt_cmpR ho ha hb hm) fun σ H R h => ?_
  obtain ⟨B, ρ, S, Q, E, h, k⟩ := h
  exact sim_op hs ⟨B, ρ, S, _, E, h, fun v H' d ρ' S' E' e' hv q => sim_B k E' e' hv q⟩
theorem q_val {t : TED} (h : PED X e t) (he : ∀ whole, isTrue e X.env whole = (do let v ← whole; standAt e.pos; holding [v] (truthy v)) := by intro _; rfl) : PTD X e (dB t) := by
  refine impPT (pt_val h he) fun σ H R h => ?_
  obtain ⟨B, ρ, S, Q, E, h, k⟩ := h
  exact ⟨B, ρ, S, _, E, h, fun v H' d ρ' S' E' e' hv q => sim_B k E' e' hv q⟩
/-- a < b < c -/
def dChain (w w' : WD2) (ta tb tc : TED) : TED := fun ρ Q => ta ρ fun x ρ1 => tb ρ1 fun y ρ2 => w x y fun z => boolK z fun c => br c (tc ρ2 fun u ρ3 => w' y u fun z => Q z ρ3) (Q (.bool false) ρ2)
theorem sim_chain {r r' : R2} {w w' : WD2} {ta tb tc : TED} {σ : L2.St} {H : Hp} {R : VK} (hs : SOp r w) (hs' : SOp r' w') (h : liftE (dChain w w' ta tb tc) σ H R) : tChain r r' (liftE ta) (liftE tb) (liftE tc) σ H R := by
  obtain ⟨B, ρ, S, Q, E, h, k⟩ := h
  refine ⟨B, ρ, S, _, E, h, fun x H1 dx ρ1 S1 E1 e1 hx h1 => ⟨B, ρ1, S1, _, E1, h1, fun y H2 dy ρ2 S2 E2 e2 hy h2 => ?_⟩⟩
  refine hs E2.sub (DV.mono e2 _ _ hx) hy h2 fun v H' S' d g hv q => ?_
  have E3 := E2.grow g
  obtain ⟨c, rfl, q⟩ := boolK_of hv q
  refine ⟨c, rfl, ?_⟩
  cases c with
  | true =>
    refine iteT ⟨B, ρ2, S', _, E3, q.t, fun u H4 du ρ4 S4 E4 e4 hu h4 => ?_⟩
    exact hs' E4.sub (DV.mono (g.s.trans e4) _ _ hy) hu h4 fun v H' S' d g' hv q => k v H' d ρ4 S' (E4.grow g') ((((e1.trans e2).trans g.s).trans e4).trans g'.s) hv q
  | false => exact iteF (k _ _ _ ρ2 S' E3 ((e1.trans e2).trans g.s) (.bl false) q.f)
theorem p_chain {op op' : CmpOp} {r r' : R2} {w w' : WD2} {c : Expr} {ta tb tc : TED} (ho : OpR X (compareOp op) r) (hs : SOp r w) (ho' : OpR X (compareOp op') r') (hs' : SOp r' w') (ha : PED X a ta) (hb : PED X b tb) (hc : PED X c tc)
    (hm : lastMarks [op, op'] [b, c] = false := by with_unfolding_all rfl) : PED X (.Compare a [op, op'] [b, c] pos) (dChain w w' ta tb tc) := impPE (pe_chain ho ho' ha hb hc hm) fun _ _ _ h => sim_chain hs hs' h
theorem q_chain {op op' : CmpOp} {r r' : R2} {w w' : WD2} {c : Expr} {ta tb tc : TED} (ho : OpR X (compareOp op) r) (hs : SOp r w) (ho' : OpR X (compareOp op') r') (hs' : SOp r' w') (ha : PED X a ta) (hb : PED X b tb) (hc : PED X c tc)
    (hm : lastMarks [op, op'] [b, c] = false := by with_unfolding_all rfl) : PTD X (.Compare a [op, op'] [b, c] pos) (dB (dChain w w' ta tb tc)) := by
  refine impPT (pt_chain ho ho' ha hb hc hm) fun σ H R h => ?_
  obtain ⟨B, ρ, S, Q, E, h, k⟩ := h
  exact sim_chain hs hs' ⟨B, ρ, S, _, E, h, fun v H' d ρ' S' E' e' hv q => sim_B k E' e' hv q⟩

/-! ### and, or, not -/
variable {rest : List Expr}
def dAnd (t u : TTD) : TTD := fun ρ Q => t ρ fun c ρ1 => br c (u ρ1 Q) (Q false ρ1)
def dOr (t u : TTD) : TTD := fun ρ Q => t ρ fun c ρ1 => br c (Q true ρ1) (u ρ1 Q)
def dNot (t : TTD) : TTD := fun ρ Q => t ρ fun c ρ1 => Q (!c) ρ1
theorem q_and1 {t : TTD} (ha : PTD X a t) : PWD X (.BoolOp .And [a] pos) t := pw_and1 ha
theorem q_or1 {t : TTD} (ha : PTD X a t) : PWD X (.BoolOp .Or [a] pos) t := pw_or1 ha
theorem q_and {t u : TTD} (ha : PTD X a t) (hb : PWD X (.BoolOp .And (b :: rest) pos) u) : PWD X (.BoolOp .And (a :: b :: rest) pos) (dAnd t u) := by
  refine impPW (pw_and ha hb) fun σ H R h => ?_
  obtain ⟨B, ρ, S, Q, E, h, k⟩ := h
  refine ⟨B, ρ, S, _, E, h, fun c H1 ρ1 S1 E1 e1 h1 => ?_⟩
  cases c with
  | true => exact iteT ⟨B, ρ1, S1, Q, E1, h1.t, fun b H' ρ' S' E' e' q => k b H' ρ' S' E' (e1.trans e') q⟩
  | false => exact iteF (k false H1 ρ1 S1 E1 e1 h1.f)
theorem q_or {t u : TTD} (ha : PTD X a t) (hb : PWD X (.BoolOp .Or (b :: rest) pos) u) : PWD X (.BoolOp .Or (a :: b :: rest) pos) (dOr t u) := by
  refine impPW (pw_or ha hb) fun σ H R h => ?_
  obtain ⟨B, ρ, S, Q, E, h, k⟩ := h
  refine ⟨B, ρ, S, _, E, h, fun c H1 ρ1 S1 E1 e1 h1 => ?_⟩
  cases c with
  | true => exact iteT (k true H1 ρ1 S1 E1 e1 h1.t)
  | false => exact iteF ⟨B, ρ1, S1, Q, E1, h1.f, fun b H' ρ' S' E' e' q => k b H' ρ' S' E' (e1.trans e') q⟩
theorem q_pw {t : TTD} (h : PWD X e t) : PTD X e t := PW.pt h
theorem q_not {t : TTD} (h : PTD X a t) : PTD X (.UnaryOp .Not a pos) (dNot t) := by
  refine impPT (pt_not h) fun σ H R h => ?_
  obtain ⟨B, ρ, S, Q, E, h, k⟩ := h
  exact ⟨B, ρ, S, _, E, h, fun c H1 ρ1 S1 E1 e1 h1 => k (!c) H1 ρ1 S1 E1 e1 h1⟩
/-- as values, all bools -/
def dAndV (ta tb : TED) : TED := fun ρ Q => ta ρ fun x ρ1 => boolK x fun c => br c (tb ρ1 Q) (Q (.bool false) ρ1)
def dOrV (ta tb : TED) : TED := fun ρ Q => ta ρ fun x ρ1 => boolK x fun c => br c (Q (.bool true) ρ1) (tb ρ1 Q)
def dNotV (ta : TED) : TED := fun ρ Q => ta ρ fun x ρ1 => boolK x fun b => Q (.bool (!b)) ρ1
theorem p_one {op} {t : TED} (h : PED X a t) : PED X (.BoolOp op [a] pos) t := pe_one h
theorem p_and {t u : TED} (ha : PED X a t) (hb : PED X (.BoolOp .And (b :: rest) pos) u) : PED X (.BoolOp .And (a :: b :: rest) pos) (dAndV t u) := by
  refine impPE (pe_and ha hb) fun σ H R h => ?_
  obtain ⟨B, ρ, S, Q, E, h, k⟩ := h
  refine ⟨B, ρ, S, _, E, h, fun v H1 d ρ1 S1 E1 e1 hv h1 => ?_⟩
  obtain ⟨c, rfl, h1⟩ := boolK_of hv h1
  refine ⟨c, rfl, ?_⟩
  cases c with
  | true => exact iteT ⟨B, ρ1, S1, Q, E1, h1.t, fun v H' d ρ' S' E' e' hv q => k v H' d ρ' S' E' (e1.trans e') hv q⟩
  | false => exact iteF (k _ H1 _ ρ1 S1 E1 e1 (.bl false) h1.f)
theorem p_or {t u : TED} (ha : PED X a t) (hb : PED X (.BoolOp .Or (b :: rest) pos) u) : PED X (.BoolOp .Or (a :: b :: rest) pos) (dOrV t u) := by
  refine impPE (pe_or ha hb) fun σ H R h => ?_
  obtain ⟨B, ρ, S, Q, E, h, k⟩ := h
  refine ⟨B, ρ, S, _, E, h, fun v H1 d ρ1 S1 E1 e1 hv h1 => ?_⟩
  obtain ⟨c, rfl, h1⟩ := boolK_of hv h1
  refine ⟨c, rfl, ?_⟩
  cases c with
  | true => exact iteT (k _ H1 _ ρ1 S1 E1 e1 (.bl true) h1.t)
  | false => exact iteF ⟨B, ρ1, S1, Q, E1, h1.f, fun v H' d ρ' S' E' e' hv q => k v H' d ρ' S' E' (e1.trans e') hv q⟩
theorem p_not {t : TED} (h : PED X a t) : PED X (.UnaryOp .Not a pos) (dNotV t) := by
  refine impPE (pe_not h) fun σ H R h => ?_
  obtain ⟨B, ρ, S, Q, E, h, k⟩ := h
  refine ⟨B, ρ, S, _, E, h, fun v H1 d ρ1 S1 E1 e1 hv h1 => ?_⟩
  obtain ⟨c, rfl, h1⟩ := boolK_of hv h1
  exact ⟨c, rfl, k _ H1 _ ρ1 S1 E1 e1 (.bl _) h1⟩
def dIf (t : TTD) (ta tb : TED) : TED := fun ρ Q => t ρ fun c ρ1 => br c (ta ρ1 Q) (tb ρ1 Q)
theorem p_ife {c : Expr} {t : TTD} {ta tb : TED} (hc : PTD X c t) (ha : PED X a ta) (hb : PED X b tb) : PED X (.IfExp c a b pos) (dIf t ta tb) := by
  refine impPE (pe_ifExp hc ha hb) fun σ H R h => ?_
  obtain ⟨B, ρ, S, Q, E, h, k⟩ := h
  refine ⟨B, ρ, S, _, E, h, fun c H1 ρ1 S1 E1 e1 h1 => ?_⟩
  cases c with
  | true => exact iteT ⟨B, ρ1, S1, Q, E1, h1.t, fun v H' d ρ' S' E' e' hv q => k v H' d ρ' S' E' (e1.trans e') hv q⟩
  | false => exact iteF ⟨B, ρ1, S1, Q, E1, h1.f, fun v H' d ρ' S' E' e' hv q => k v H' d ρ' S' E' (e1.trans e') hv q⟩

/-! ### arguments, displays -/
def dNil : TAD := fun ρ Q => Q [] ρ
def dCons (ta : TED) (tr : TAD) : TAD := fun ρ Q => ta ρ fun x ρ1 => tr ρ1 fun xs ρ2 => Q (x :: xs) ρ2
theorem a_nil : PAD X [] dNil := impPA pa_nil fun σ H R h => by
  obtain ⟨B, ρ, S, Q, E, h, k⟩ := h
  exact k [] H [] ρ S E (Ex.refl _) .nil h
theorem a_cons {te : TED} {t : TAD} (ha : PED X e te) (hr : PAD X es t) (hs : starEach (e :: es) X.env = (false, eval e X.env) :: starEach es X.env := by rfl) : PAD X (e :: es) (dCons te t) := impPA (pa_cons ha hr hs) fun σ H R h => by
  obtain ⟨B, ρ, S, Q, E, h, k⟩ := h
  exact ⟨B, ρ, S, _, E, h, fun x H1 dx ρ1 S1 E1 e1 hx h1 => ⟨B, ρ1, S1, _, E1, h1, fun xs H2 ds ρ2 S2 E2 e2 hxs h2 => k _ H2 _ ρ2 S2 E2 (e1.trans e2) (.cons (DV.mono e2 _ _ hx) hxs) h2⟩⟩
theorem len_small {n : Nat} (h : n ≤ 100000) : n ≤ sizeLine := Evl.sz_of h
def dTup (t : TAD) : TED := fun ρ Q => t ρ fun ds ρ1 => ds.length ≤ 100000 ∧ Q (.tuple ds) ρ1
def dLst (t : TAD) : TED := fun ρ Q => t ρ fun ds ρ1 => ds.length ≤ 100000 ∧ Q (.list ds) ρ1
def oLst (t : TAD) : TAD := fun ρ Q => t ρ fun ds ρ1 => ds.length ≤ 100000 ∧ Q ds ρ1
theorem p_tup {t : TAD} {x1} (h : PAD X es t) : PED X (.Tuple es x1 pos) (dTup t) := impPE (pe_tup h) fun σ H R h => by
  obtain ⟨B, ρ, S, Q, E, h, k⟩ := h
  refine ⟨B, ρ, S, _, E, h, fun xs H1 ds ρ1 S1 E1 e1 hx h1 => ⟨len_small (by rw [hx.length]; exact h1.1), fun p hp => ?_⟩⟩
  have g := Grow.lay (o := .tup xs) E1.sub hp
  exact k _ _ _ ρ1 _ (E1.grow g) (e1.trans g.s) (.tup upd_same (DVs.mono g.s _ _ hx)) h1.2
theorem p_lst {t : TAD} (h : PAD X es t) : PED X (.List es pos) (dLst t) := impPE (pe_lst h) fun σ H R h => by
  obtain ⟨B, ρ, S, Q, E, h, k⟩ := h
  refine ⟨B, ρ, S, _, E, h, fun xs H1 ds ρ1 S1 E1 e1 hx h1 => ⟨len_small (by rw [hx.length]; exact h1.1), fun p hp => ?_⟩⟩
  have g := Grow.lay (o := .lst xs) E1.sub hp
  exact k _ _ _ ρ1 _ (E1.grow g) (e1.trans g.s) (.lst upd_same (DVs.mono g.s _ _ hx)) h1.2
end
end CK
set_option Elab.async false
set_option linter.all false
set_option maxRecDepth 100000
set_option maxHeartbeats 2000000
namespace CK
open PySem PySem.Spec PyProof.Rows L2
open Evl (Ex ex_l ex_t fresh_back)

/-! ### the operations -/
def wAdd : WD2
  | .int i, .int j, k => k (.int (i + j))
  | .str x, .str y, k => x.length + y.length ≤ 100000 ∧ k (.str (x ++ y))
  | .list x, .list y, k => x.length + y.length ≤ 100000 ∧ k (.list (x ++ y))
  | _, _, _ => False
def wInt2 (g : Int → Int → PD) : WD2
  | .int i, .int j, k => k (g i j)
  | _, _, _ => False
def wInt2C (C : Int → Int → Prop) (g : Int → Int → PD) : WD2
  | .int i, .int j, k => C i j ∧ k (g i j)
  | _, _, _ => False
abbrev wSub := wInt2 fun i j => .int (i - j)
abbrev wLt := wInt2 fun i j => .bool (decide (i < j))
abbrev wLe := wInt2 fun i j => .bool (decide (i ≤ j))
abbrev wGt := wInt2 fun i j => .bool (decide (j < i))
abbrev wGe := wInt2 fun i j => .bool (decide (j ≤ i))
abbrev wMul := wInt2C CMulW fun i j => .int (i * j)
abbrev wDiv := wInt2C CDivW fun i j => .int (i / j)
abbrev wMod := wInt2C (fun _ j => 0 < j) fun i j => .int (i % j)
def CPowW (i j : Int) : Prop := 0 ≤ j ∧ (Builtin.Int.intBits i : Int) * j ≤ 2 ^ 27
abbrev wPow := wInt2C CPowW fun i j => .int (i ^ j.toNat)
def wNeg : WD1
  | .int i, k => k (.int (-i))
  | _, _ => False
def wEq : WD2
  | .int i, .int j, k => k (.bool (decide (i = j)))
  | .str x, .str y, k => k (.bool (decide (x = y)))
  | .bool x, .bool y, k => k (.bool (decide (x = y)))
  | x, y, k => SeqAt.shaped x = true ∧ SeqAt.shaped y = true ∧ k (.bool (PyData.eqv x y))
def wNe : WD2
  | .int i, .int j, k => k (.bool (!decide (i = j)))
  | .str x, .str y, k => k (.bool (!decide (x = y)))
  | .bool x, .bool y, k => k (.bool (!decide (x = y)))
  | x, y, k => SeqAt.shaped x = true ∧ SeqAt.shaped y = true ∧ k (.bool (!PyData.eqv x y))
def wLtS : WD2
  | .str x, .str y, k => k (.bool (decide (x.cps.toList < y.cps.toList)))
  | _, _, _ => False
def isNone : PD → Bool
  | .none => true
  | _ => false
def wIsN : WD2
  | x, .none, k => k (.bool (isNone x))
  | _, _, _ => False
def wNotN : WD2
  | x, .none, k => k (.bool (!isNone x))
  | _, _, _ => False
def flatD : PD → Bool
  | .int _ => true
  | .str _ => true
  | _ => false
def eqD : PD → PD → Bool
  | .int a, .int b => a == b
  | .str a, .str b => a == b
  | _, _ => false
def inD (x : PD) (ys : List PD) : Bool := ys.any fun y => eqD y x
def wIn (neg : Bool) : WD2
  | x, .list ys, k => flatD x = true ∧ ys.all flatD = true ∧ k (.bool (if neg then !inD x ys else inD x ys))
  | x, .tuple ys, k => flatD x = true ∧ ys.all flatD = true ∧ k (.bool (if neg then !inD x ys else inD x ys))
  | _, _, _ => False
def wInS : WD2
  | .str x, .str z, k => ∃ c, x = ⟨#[c]⟩ ∧ k (.bool (decide (c ∈ z.cps.toList)))
  | _, _, _ => False
def wIx : WD2
  | .list ds, .int i, k => ∃ d, atI ds i = some d ∧ k d
  | .tuple ds, .int i, k => ∃ d, atI ds i = some d ∧ k d
  | .str z, .int i, k => z.length ≤ 100000 ∧ ∃ c, atI z.cps.toList i = some c ∧ k (.str ⟨#[c]⟩)
  | _, _, _ => False

section
theorem s_int2 {g : Int → Int → V} {gd : Int → Int → PD} (hg : ∀ S i j, DV S (g i j) (gd i j)) : SOp (rI0 g) (wInt2 gd) := by
  intro S H x y dx dy k R hs hx hy h q
  cases hx <;> try exact h.elim
  cases hy <;> try exact h.elim
  exact ⟨_, _, rfl, rfl, q _ H S _ (Grow.refl hs) (hg S _ _) h⟩
theorem s_int2C {C : Int → Int → Prop} {g : Int → Int → V} {gd : Int → Int → PD} (hg : ∀ S i j, DV S (g i j) (gd i j)) : SOp (rI C g) (wInt2C C gd) := by
  intro S H x y dx dy k R hs hx hy h q
  cases hx <;> try exact h.elim
  cases hy <;> try exact h.elim
  exact ⟨_, _, rfl, rfl, h.1, q _ H S _ (Grow.refl hs) (hg S _ _) h.2⟩
theorem s_sub : SOp (rI0 fun i j => .int (i - j)) wSub := s_int2 fun _ _ _ => .int _
theorem s_lt : SOp (rI0 fun i j => .bl (decide (i < j))) wLt := s_int2 fun _ _ _ => .bl _
theorem s_le : SOp (rI0 fun i j => .bl (decide (i ≤ j))) wLe := s_int2 fun _ _ _ => .bl _
theorem s_gt : SOp (rI0 fun i j => .bl (decide (j < i))) wGt := s_int2 fun _ _ _ => .bl _
theorem s_ge : SOp (rI0 fun i j => .bl (decide (j ≤ i))) wGe := s_int2 fun _ _ _ => .bl _
theorem s_mul : SOp (rI CMulW fun i j => .int (i * j)) wMul := s_int2C fun _ _ _ => .int _
theorem s_div : SOp (rI CDivW fun i j => .int (i / j)) wDiv := s_int2C fun _ _ _ => .int _
theorem s_mod : SOp (rI (fun _ j => 0 < j) fun i j => .int (i % j)) wMod := s_int2C fun _ _ _ => .int _
theorem s_pow : SOp (rI CPowW fun i j => .int (i ^ j.toNat)) wPow := s_int2C fun _ _ _ => .int _
theorem op_powW {X : Cx} : OpR X (binaryOp .Pow) (rI CPowW fun i j => .int (i ^ j.toNat)) := opI fun _ _ _ _ _ _ _ hc q => pow_int hc.1 hc.2 q
def rAddA : R2 := fun x y H Q => (∃ i j, x = .int i ∧ y = .int j ∧ Q (.int (i + j)) H) ∨ (∃ i j, x = .str i ∧ y = .str j ∧ i.length + j.length ≤ sizeLine ∧ Q (.str (i ++ j)) H) ∨ rCat x y H Q
theorem op_addA {X : Cx} : OpR X (binaryOp .Add) rAddA := OpR.or op_add (OpR.or op_add_str op_cat)
theorem s_add : SOp rAddA wAdd := by
  intro S H x y dx dy k R hs hx hy h q
  cases hx <;> try exact h.elim
  · cases hy <;> try exact h.elim
    exact .inl ⟨_, _, rfl, rfl, q _ H S _ (Grow.refl hs) (.int _) h⟩
  · cases hy <;> try exact h.elim
    exact .inr (.inl ⟨_, _, rfl, rfl, len_small h.1, q _ H S _ (Grow.refl hs) (.str _) h.2⟩)
  · rename_i a xs ds ha hxs
    cases hy <;> try exact h.elim
    rename_i b ys es hb hys
    refine .inr (.inr ⟨a, b, xs, ys, rfl, rfl, hs _ _ ha, hs _ _ hb, len_small (by rw [hxs.length, hys.length]; exact h.1), fun p hp => ?_⟩)
    have g := Grow.lay (o := .lst (xs ++ ys)) hs hp
    exact q _ _ _ _ g (.lst upd_same (DVs.mono g.s _ _ (hxs.append hys))) h.2
theorem s_neg : SUn (rU fun i => .int (-i)) wNeg := by
  intro S H x dx k R hs hx h q
  cases hx <;> try exact h.elim
  exact ⟨_, rfl, q _ H S _ (Grow.refl hs) (.int _) h⟩
def rEqA (K : PySem.W.Frag) : R2 := fun x y H Q => rEq x y H Q ∨ rEqD K x y H Q
def rNeA (K : PySem.W.Frag) : R2 := fun x y H Q => rNe x y H Q ∨ rNeD K x y H Q
theorem op_eqA {X : Cx} {k : Nat} (hr : Room k X.A) : OpR X (compareOp .Eq) (rEqA X.K) := OpR.or op_eq (op_eqD hr.units)
theorem op_neA {X : Cx} {k : Nat} (hr : Room k X.A) : OpR X (compareOp .NotEq) (rNeA X.K) := OpR.or op_ne (op_neD hr.units)
theorem dint {i j : Int} : decide (V.int i = V.int j) = decide (i = j) := by simp
theorem dstr {i j : Str} : decide (V.str i = V.str j) = decide (i = j) := by simp
theorem dbl {i j : Bool} : decide (V.bl i = V.bl j) = decide (i = j) := by simp
theorem s_eq {K : PySem.W.Frag} : SOp (rEqA K) wEq := by
  intro S H x y dx dy k R hs hx hy h q
  unfold wEq at h
  split at h
  · cases hx
    cases hy
    refine .inl ⟨rfl, ?_⟩
    rw [dint]
    exact q _ H S _ (Grow.refl hs) (.bl _) h
  · cases hx
    cases hy
    refine .inl ⟨rfl, ?_⟩
    rw [dstr]
    exact q _ H S _ (Grow.refl hs) (.bl _) h
  · cases hx
    cases hy
    refine .inl ⟨rfl, ?_⟩
    rw [dbl]
    exact q _ H S _ (Grow.refl hs) (.bl _) h
  · obtain ⟨h1, h2, h3⟩ := h
    exact .inr ⟨dx, dy, DV.dp _ _ (DV.mono hs _ _ hx), DV.dp _ _ (DV.mono hs _ _ hy), h1, h2, q _ H S _ (Grow.refl hs) (.bl _) h3⟩
theorem s_ne {K : PySem.W.Frag} : SOp (rNeA K) wNe := by
  intro S H x y dx dy k R hs hx hy h q
  unfold wNe at h
  split at h
  · cases hx
    cases hy
    refine .inl ⟨rfl, ?_⟩
    rw [dint]
    exact q _ H S _ (Grow.refl hs) (.bl _) h
  · cases hx
    cases hy
    refine .inl ⟨rfl, ?_⟩
    rw [dstr]
    exact q _ H S _ (Grow.refl hs) (.bl _) h
  · cases hx
    cases hy
    refine .inl ⟨rfl, ?_⟩
    rw [dbl]
    exact q _ H S _ (Grow.refl hs) (.bl _) h
  · obtain ⟨h1, h2, h3⟩ := h
    exact .inr ⟨dx, dy, DV.dp _ _ (DV.mono hs _ _ hx), DV.dp _ _ (DV.mono hs _ _ hy), h1, h2, q _ H S _ (Grow.refl hs) (.bl _) h3⟩
theorem s_ltS : SOp (fun x y H Q => ∃ i j, x = .str i ∧ y = .str j ∧ Q (.bl (decide (i.cps.toList < j.cps.toList))) H) wLtS := by
  intro S H x y dx dy k R hs hx hy h q
  cases hx <;> try exact h.elim
  cases hy <;> try exact h.elim
  exact ⟨_, _, rfl, rfl, q _ H S _ (Grow.refl hs) (.bl _) h⟩
theorem isNone_of {S : Hp} {x : V} {d : PD} (h : DV S x d) : decide (x = .non) = isNone d := by
  cases h <;> rfl
theorem s_isN : SOp (fun x y H Q => y = .non ∧ Q (.bl (decide (x = .non))) H) wIsN := by
  intro S H x y dx dy k R hs hx hy h q
  cases hy <;> try exact h.elim
  refine ⟨rfl, ?_⟩
  rw [isNone_of hx]
  exact q _ H S _ (Grow.refl hs) (.bl _) h
theorem s_notN : SOp (fun x y H Q => y = .non ∧ Q (.bl (!decide (x = .non))) H) wNotN := by
  intro S H x y dx dy k R hs hx hy h q
  cases hy <;> try exact h.elim
  refine ⟨rfl, ?_⟩
  rw [isNone_of hx]
  exact q _ H S _ (Grow.refl hs) (.bl _) h
theorem flat_of {S : Hp} {x : V} {d : PD} (h : DV S x d) (hd : flatD d = true) : flatV x = true := by
  cases h <;> first | rfl | cases hd
theorem flats_of {S : Hp} : ∀ {xs : List V} {ds : List PD}, DVs S xs ds → ds.all flatD = true → xs.all flatV = true
  | _, _, .nil, _ => rfl
  | _, _, .cons h t, hd => by
    rw [List.all_cons, Bool.and_eq_true] at hd
    rw [List.all_cons, Bool.and_eq_true]
    exact ⟨flat_of h hd.1, flats_of t hd.2⟩
theorem eqD_of {S : Hp} {x y : V} {d e : PD} (hx : DV S x d) (hy : DV S y e) (fd : flatD d = true) (fe : flatD e = true) : eqV y x = eqD e d := by
  cases hx <;> try cases fd
  all_goals (cases hy <;> try cases fe)
  all_goals rfl
theorem inD_of {S : Hp} {x : V} {d : PD} (hx : DV S x d) (fd : flatD d = true) : ∀ {xs : List V} {ds : List PD}, DVs S xs ds → ds.all flatD = true → inV x xs = inD d ds
  | _, _, .nil, _ => rfl
  | _, _, .cons h t, hd => by
    rw [List.all_cons, Bool.and_eq_true] at hd
    have ih := inD_of hx fd t hd.2
    unfold inV inD at ih ⊢
    rw [List.any_cons, List.any_cons, ih, eqD_of hx h fd hd.1]
theorem s_in {K : PySem.W.Frag} {neg : Bool} : SOp (rIn K neg) (wIn neg) := by
  intro S H x y dx dy k R hs hx hy h q
  cases hy with
  | lst ha hd =>
    refine ⟨_, _, rfl, .inl (SqL.of (hs _ _ ha)), flat_of hx h.1, flats_of hd h.2.1, ?_⟩
    rw [inD_of hx h.1 hd h.2.1]
    exact q _ H S _ (Grow.refl hs) (.bl _) h.2.2
  | tup ha hd =>
    refine ⟨_, _, rfl, .inr (SqT.of (hs _ _ ha)), flat_of hx h.1, flats_of hd h.2.1, ?_⟩
    rw [inD_of hx h.1 hd h.2.1]
    exact q _ H S _ (Grow.refl hs) (.bl _) h.2.2
  | _ => exact h.elim
theorem s_inS : SOp (fun x y H Q => ∃ (c : Nat) (z : Str), x = .str ⟨#[c]⟩ ∧ y = .str z ∧ Q (.bl (decide (c ∈ z.cps.toList))) H) wInS := by
  intro S H x y dx dy k R hs hx hy h q
  cases hx <;> try exact h.elim
  cases hy <;> try exact h.elim
  obtain ⟨c, rfl, h⟩ := h
  exact ⟨c, _, rfl, rfl, q _ H S _ (Grow.refl hs) (.bl _) h⟩
theorem atI_of {S : Hp} {xs : List V} {ds : List PD} {i : Int} {d : PD} (h : DVs S xs ds) (e : atI ds i = some d) : ∃ v, atI xs i = some v ∧ DV S v d := by
  unfold atI at e ⊢
  rw [h.length]
  cases q : ixN ds.length i with
  | none => rw [q] at e; cases e
  | some j =>
    rw [q] at e
    obtain ⟨v, h1, h2⟩ := h.get j e
    exact ⟨v, h1, h2⟩
theorem s_ix {K : PySem.W.Frag} : SOp (rIx K) wIx := by
  intro S H x y dx dy k R hs hx hy h q
  cases hx <;> try exact h.elim
  · rename_i z
    cases hy <;> try exact h.elim
    obtain ⟨h1, c, h2, h3⟩ := h
    exact .inr (.inr ⟨_, _, c, rfl, rfl, len_small h1, h2, q _ H S _ (Grow.refl hs) (.str _) h3⟩)
  · rename_i a xs ds ha hd
    cases hy <;> try exact h.elim
    obtain ⟨d, h1, h2⟩ := h
    obtain ⟨v, h3, h4⟩ := atI_of hd h1
    exact .inl ⟨_, _, _, v, rfl, rfl, SqL.of (hs _ _ ha), h3, q v H S d (Grow.refl hs) h4 h2⟩
  · rename_i a xs ds ha hd
    cases hy <;> try exact h.elim
    obtain ⟨d, h1, h2⟩ := h
    obtain ⟨v, h3, h4⟩ := atI_of hd h1
    exact .inr (.inl ⟨_, _, _, v, rfl, rfl, SqT.of (hs _ _ ha), h3, q v H S d (Grow.refl hs) h4 h2⟩)
end

section
variable {X : Cx} {e a b : Expr} {es : List Expr} {pos : Pos} {ta tb : TED}
/-! ### in short -/
theorem p_add (ha : PED X a ta) (hb : PED X b tb) : PED X (.BinOp a .Add b pos) (dOp wAdd ta tb) := p_op op_addA s_add ha hb
theorem p_sub (ha : PED X a ta) (hb : PED X b tb) : PED X (.BinOp a .Sub b pos) (dOp wSub ta tb) := p_op op_sub s_sub ha hb
theorem p_mul (ha : PED X a ta) (hb : PED X b tb) : PED X (.BinOp a .Mult b pos) (dOp wMul ta tb) := p_op op_mulW s_mul ha hb
theorem p_div (ha : PED X a ta) (hb : PED X b tb) : PED X (.BinOp a .FloorDiv b pos) (dOp wDiv ta tb) := p_op op_fdivW s_div ha hb
theorem p_mod (ha : PED X a ta) (hb : PED X b tb) : PED X (.BinOp a .Mod b pos) (dOp wMod ta tb) := p_op op_mod s_mod ha hb
theorem p_pow (ha : PED X a ta) (hb : PED X b tb) : PED X (.BinOp a .Pow b pos) (dOp wPow ta tb) := p_op op_powW s_pow ha hb
theorem p_neg (ha : PED X a ta) : PED X (.UnaryOp .USub a pos) (dUn wNeg ta) := p_un un_neg s_neg ha
theorem p_eq {k : Nat} (hr : Room k X.A) (ha : PED X a ta) (hb : PED X b tb) : PED X (.Compare a [.Eq] [b] pos) (dOp wEq ta tb) := p_cmp (op_eqA hr) s_eq ha hb (nomark _)
theorem p_ne {k : Nat} (hr : Room k X.A) (ha : PED X a ta) (hb : PED X b tb) : PED X (.Compare a [.NotEq] [b] pos) (dOp wNe ta tb) := p_cmp (op_neA hr) s_ne ha hb (nomark _)
theorem q_eq {k : Nat} (hr : Room k X.A) (ha : PED X a ta) (hb : PED X b tb) : PTD X (.Compare a [.Eq] [b] pos) (dB (dOp wEq ta tb)) := q_cmp (op_eqA hr) s_eq ha hb (nomark _)
theorem q_ne {k : Nat} (hr : Room k X.A) (ha : PED X a ta) (hb : PED X b tb) : PTD X (.Compare a [.NotEq] [b] pos) (dB (dOp wNe ta tb)) := q_cmp (op_neA hr) s_ne ha hb (nomark _)
theorem p_lt (ha : PED X a ta) (hb : PED X b tb) : PED X (.Compare a [.Lt] [b] pos) (dOp wLt ta tb) := p_cmp op_lt s_lt ha hb (nomark _)
theorem p_le (ha : PED X a ta) (hb : PED X b tb) : PED X (.Compare a [.LtE] [b] pos) (dOp wLe ta tb) := p_cmp op_le s_le ha hb (nomark _)
theorem p_gt (ha : PED X a ta) (hb : PED X b tb) : PED X (.Compare a [.Gt] [b] pos) (dOp wGt ta tb) := p_cmp op_gt s_gt ha hb (nomark _)
theorem p_ge (ha : PED X a ta) (hb : PED X b tb) : PED X (.Compare a [.GtE] [b] pos) (dOp wGe ta tb) := p_cmp op_ge s_ge ha hb (nomark _)
theorem p_ltS (ha : PED X a ta) (hb : PED X b tb) : PED X (.Compare a [.Lt] [b] pos) (dOp wLtS ta tb) := p_cmp op_lt_str s_ltS ha hb (nomark _)
theorem q_lt (ha : PED X a ta) (hb : PED X b tb) : PTD X (.Compare a [.Lt] [b] pos) (dB (dOp wLt ta tb)) := q_cmp op_lt s_lt ha hb (nomark _)
theorem q_le (ha : PED X a ta) (hb : PED X b tb) : PTD X (.Compare a [.LtE] [b] pos) (dB (dOp wLe ta tb)) := q_cmp op_le s_le ha hb (nomark _)
theorem q_gt (ha : PED X a ta) (hb : PED X b tb) : PTD X (.Compare a [.Gt] [b] pos) (dB (dOp wGt ta tb)) := q_cmp op_gt s_gt ha hb (nomark _)
theorem q_ge (ha : PED X a ta) (hb : PED X b tb) : PTD X (.Compare a [.GtE] [b] pos) (dB (dOp wGe ta tb)) := q_cmp op_ge s_ge ha hb (nomark _)
theorem p_isN (ha : PED X a ta) (hb : PED X b tb) : PED X (.Compare a [.Is] [b] pos) (dOp wIsN ta tb) := p_cmp op_isN s_isN ha hb (nomark _)
theorem q_isN (ha : PED X a ta) (hb : PED X b tb) : PTD X (.Compare a [.Is] [b] pos) (dB (dOp wIsN ta tb)) := q_cmp op_isN s_isN ha hb (nomark _)
theorem p_notN (ha : PED X a ta) (hb : PED X b tb) : PED X (.Compare a [.IsNot] [b] pos) (dOp wNotN ta tb) := p_cmp op_notN s_notN ha hb (nomark _)
theorem q_notN (ha : PED X a ta) (hb : PED X b tb) : PTD X (.Compare a [.IsNot] [b] pos) (dB (dOp wNotN ta tb)) := q_cmp op_notN s_notN ha hb (nomark _)
theorem p_in (ha : PED X a ta) (hb : PED X b tb) (hm : behindInMarks .In b = false := by with_unfolding_all rfl) : PED X (.Compare a [.In] [b] pos) (dOp (wIn false) ta tb) := p_cmp op_in_seq s_in ha hb hm
theorem q_in (ha : PED X a ta) (hb : PED X b tb) (hm : behindInMarks .In b = false := by with_unfolding_all rfl) : PTD X (.Compare a [.In] [b] pos) (dB (dOp (wIn false) ta tb)) := q_cmp op_in_seq s_in ha hb hm
theorem p_nin (ha : PED X a ta) (hb : PED X b tb) (hm : behindInMarks .NotIn b = false := by with_unfolding_all rfl) : PED X (.Compare a [.NotIn] [b] pos) (dOp (wIn true) ta tb) := p_cmp op_notIn_seq s_in ha hb hm
theorem q_nin (ha : PED X a ta) (hb : PED X b tb) (hm : behindInMarks .NotIn b = false := by with_unfolding_all rfl) : PTD X (.Compare a [.NotIn] [b] pos) (dB (dOp (wIn true) ta tb)) := q_cmp op_notIn_seq s_in ha hb hm
theorem p_inS (ha : PED X a ta) (hb : PED X b tb) (hm : behindInMarks .In b = false := by with_unfolding_all rfl) : PED X (.Compare a [.In] [b] pos) (dOp wInS ta tb) := p_cmp op_in_sign s_inS ha hb hm
theorem p_ix (ha : PED X a ta) (hb : PED X b tb) (hs : PlainIx b := by intro _ _; rfl) : PED X (.Subscript a b pos) (dOp wIx ta tb) := impPE (pe_ix ix_seq ha hb hs) fun _ _ _ h => sim_op s_ix h

/-! ### x[i], x a name (its list may be one's own) -/
def listOf : En → (List PD → Prop) → Prop
  | .own ds, k => k ds
  | .dck ds, k => k ds
  | .dat (.list ds), k => k ds
  | .dat (.tuple ds), k => k ds
  | _, _ => False
theorem EnvB.list_of {B : Bs} {S H : Hp} {σ : L2.St} {ρ : Rho} (E : EnvB B S H σ ρ) {i : Nat} {k : List PD → Prop} (h : listOf (rget ρ i) k) : ∃ a xs ds, σ[i]? = some (some (.ref a)) ∧ (H a = some (.lst xs) ∨ H a = some (.tup xs)) ∧ DVs S xs ds ∧ k ds := by
  cases e : rget ρ i with
  | own ds =>
    rw [e] at h
    obtain ⟨a, xs, h1, _, h3, h4, _⟩ := E.own e
    exact ⟨a, xs, ds, h1, .inl h3, h4, h⟩
  | dck ds =>
    rw [e] at h
    obtain ⟨a, xs, h1, _, h3, h4, _⟩ := E.dck e
    exact ⟨a, xs, ds, h1, .inl h3, h4, h⟩
  | unk => rw [e] at h; exact h.elim
  | dic _ => rw [e] at h; exact h.elim
  | dat d =>
    rw [e] at h
    obtain ⟨x, h1, h2⟩ := E.dat e
    cases h2 with
    | lst ha hd => exact ⟨_, _, _, h1, .inl (E.sub _ _ ha), hd, h⟩
    | tup ha hd => exact ⟨_, _, _, h1, .inr (E.sub _ _ ha), hd, h⟩
    | _ => exact h.elim
def ixK (ds : List PD) (j : Int) (k : PD → Prop) : Prop := ∃ d, atI ds j = some d ∧ k d
def dIxN (i : Nat) (tb : TED) : TED := fun ρ Q => listOf (rget ρ i) (fun _ => True) ∧ tb ρ fun y ρ1 => listOf (rget ρ1 i) fun ds => intK y fun j => ixK ds j fun d => Q d ρ1
theorem p_ixn (i : Nat) {x : Str} {pos' : Pos} (hb : PED X b tb) (hs : PlainIx b := by intro _ _; rfl) (hN : X.N[i]? = some x := by rfl) (hv : Vis X.env.scope x := by first | exact Or.inl rfl | exact Or.inr (Or.inl rfl) | exact Or.inr (Or.inr rfl)) (hd : (x == ("__debug__" : Str)) = false := by decide)
    (hcd : (x == ("__classdict__" : Str)) = false := by decide) : PED X (.Subscript (.Name x pos') b pos) (dIxN i tb) := impPE (pe_ix ix_seq (pe_var hN hv hd hcd) hb hs) fun σ H R h => by
  obtain ⟨B, ρ, S, Q, E, ⟨h0, h⟩, k⟩ := h
  obtain ⟨a, _, _, ha, _⟩ := E.list_of h0
  refine ⟨.ref a, ha, B, ρ, S, _, E, h, fun y H2 dy ρ2 S2 E2 e2 hy h2 => ?_⟩
  obtain ⟨a', xs, ds, ha', hl, hd, h3⟩ := E2.list_of h2
  rw [ha] at ha'
  cases ha'
  obtain ⟨j, rfl, d, h4, h5⟩ := intK_of hy h3
  obtain ⟨v, h6, h7⟩ := atI_of hd h4
  have q := k v H2 d ρ2 S2 E2 e2 h7 h5
  rcases hl with hl | hl
  · exact .inl ⟨_, _, _, v, rfl, rfl, SqL.of hl, h6, q⟩
  · exact .inr (.inl ⟨_, _, _, v, rfl, rfl, SqT.of hl, h6, q⟩)

/-! ### slices -/
def cutD (xs : List PD) (lo hi : Option Int) : List PD := (xs.drop (HT.sIx xs.length 0 lo)).take (HT.sIx xs.length xs.length hi - HT.sIx xs.length 0 lo)
theorem cut_of {S : Hp} {xs : List V} {ds : List PD} (h : DVs S xs ds) (lo hi : Option Int) : DVs S (cutV xs lo hi) (cutD ds lo hi) := by
  unfold cutV cutD
  rw [h.length]
  exact (h.drop _).take _
def dSlF (ta : TED) (lo : Int) : TED := fun ρ Q => ta ρ fun x ρ1 => lstK x fun ds => Q (.list (cutD ds (some lo) none)) ρ1
/-- xs[lo:], a list, lo written -/
theorem p_slF {i : Int} {j c p2} (ha : PED X a ta) : PED X (.Subscript a (.Slice (some (.Constant (.int i) j c)) none none p2) pos) (dSlF ta i) := impPE (pe_slice sl_list ha (po_some pe_int) po_none) fun σ H R h => by
  obtain ⟨B, ρ, S, Q, E, h, k⟩ := h
  refine ⟨B, ρ, S, _, E, h, fun v H1 d ρ1 S1 E1 e1 hv h1 => ⟨i, rfl, ?_⟩⟩
  obtain ⟨a, xs, ds, rfl, ha, hd, h1⟩ := lstK_of hv h1
  refine ⟨_, _, rfl, SqL.of (E1.sub _ _ ha), fun p hp => ?_⟩
  have g := Grow.lay (o := .lst (cutV xs (some i) none)) E1.sub hp
  exact k _ _ _ ρ1 _ (E1.grow g) (e1.trans g.s) (.lst upd_same (DVs.mono g.s _ _ (cut_of hd _ _))) h1
def dSlT (ta : TED) (lo hi : Int) : TED := fun ρ Q => ta ρ fun x ρ1 => tupK x fun ds => ¬ (HT.sIx ds.length 0 (some lo) = 0 ∧ HT.sIx ds.length ds.length (some hi) = ds.length) ∧ Q (.tuple (cutD ds (some lo) (some hi))) ρ1
/-- t[lo:hi], a tuple, lo and hi written -/
theorem p_slT {i i' : Int} {j c j' c' p2} (ha : PED X a ta) : PED X (.Subscript a (.Slice (some (.Constant (.int i) j c)) (some (.Constant (.int i') j' c')) none p2) pos) (dSlT ta i i') := impPE (pe_slice sl_tup ha (po_some pe_int) (po_some pe_int)) fun σ H R h => by
  obtain ⟨B, ρ, S, Q, E, h, k⟩ := h
  refine ⟨B, ρ, S, _, E, h, fun v H1 d ρ1 S1 E1 e1 hv h1 => ⟨i, rfl, i', rfl, ?_⟩⟩
  obtain ⟨a, xs, ds, rfl, ha, hd, h1⟩ := tupK_of hv h1
  refine ⟨_, _, rfl, SqT.of (E1.sub _ _ ha), by rw [hd.length]; exact h1.1, fun p hp => ?_⟩
  have g := Grow.lay (o := .tup (cutV xs (some i) (some i'))) E1.sub hp
  exact k _ _ _ ρ1 _ (E1.grow g) (e1.trans g.s) (.tup upd_same (DVs.mono g.s _ _ (cut_of hd _ _))) h1.2

/-! ### calls of built-ins -/
abbrev WDA := List PD → (PD → Prop) → Prop
def SCall (r : List V → Hp → VK → Prop) (w : WDA) : Prop := ∀ {S H : Hp} {xs : List V} {ds : List PD} {k : PD → Prop} {R : VK}, Ex S H → DVs S xs ds → w ds k → (∀ v H' S' d, Grow S H S' H' → DV S' v d → k d → R v H') → r xs H R
def dCall (w : WDA) (ta : TAD) : TED := fun ρ Q => ta ρ fun ds ρ1 => w ds fun d => Q d ρ1
theorem sim_call {r : List V → Hp → VK → Prop} {w : WDA} {t : TAD} {σ : L2.St} {H : Hp} {R : VK} (hs : SCall r w) (h : liftE (dCall w t) σ H R) : tCB r (liftA t) σ H R := by
  obtain ⟨B, ρ, S, Q, E, h, k⟩ := h
  refine ⟨B, ρ, S, _, E, h, fun xs H1 ds ρ1 S1 E1 e1 hx h1 => ?_⟩
  exact hs E1.sub hx h1 fun v H' S' d g hv q => k v H' d ρ1 S' (E1.grow g) (e1.trans g.s) hv q
variable {x : Str} {p : Pos} {t : TAD} {id T : String} {r : List V → Hp → VK → Prop} {w : WDA}
theorem p_callB (hc : CallR X (.builtin id) r) (hs : SCall r w) (hg : Gl X x) (hm : X.mg x = none) (hv : bootBuiltins x = some (.builtin id)) (ha : PAD X (e :: es) t) (hn : x ≠ "__name__" := by decide) (hdb : (x == ("__debug__" : Str)) = false := by decide)
    (he : starEach (e :: es) X.env = (false, eval e X.env) :: starEach es X.env := by rfl) (hpl : (backTo pos (starEach es X.env)).any (·.1) = false := by rfl) : PED X (.Call (.Name x p) (e :: es) [] pos) (dCall w t) := impPE (pe_callB hc hg hm hv ha hn hdb he hpl) fun _ _ _ h => sim_call hs h
theorem p_callTy (hc : CallR X (.type T) r) (hs : SCall r w) (hg : Gl X x) (hm : X.mg x = none) (hv : bootBuiltins x = some (.type T)) (ha : PAD X (e :: es) t) (hn : x ≠ "__name__" := by decide) (hdb : (x == ("__debug__" : Str)) = false := by decide)
    (he : starEach (e :: es) X.env = (false, eval e X.env) :: starEach es X.env := by rfl) (hpl : (backTo pos (starEach es X.env)).any (·.1) = false := by rfl) : PED X (.Call (.Name x p) (e :: es) [] pos) (dCall w t) := impPE (pe_callTy hc hg hm hv ha hn hdb he hpl) fun _ _ _ h => sim_call hs h
theorem p_callF (hc : CallR X (.builtin id) r) (hs : SCall r w) (hg : Gl X x) (hm : X.mg x = some (.builtin id)) (ha : PAD X (e :: es) t) (hdb : (x == ("__debug__" : Str)) = false := by decide)
    (he : starEach (e :: es) X.env = (false, eval e X.env) :: starEach es X.env := by rfl) (hpl : (backTo pos (starEach es X.env)).any (·.1) = false := by rfl) : PED X (.Call (.Name x p) (e :: es) [] pos) (dCall w t) := impPE (pe_callBfun hc hg hm ha hdb he hpl) fun _ _ _ h => sim_call hs h
end
end CK
set_option Elab.async false
set_option linter.all false
set_option maxRecDepth 100000
set_option maxHeartbeats 2000000
namespace CK
open PySem PySem.Spec PyProof.Rows L2
open C8 (Cal pe_c)
open Evl (Ex ex_l ex_t fresh_back)

/-! ### built-ins -/
def wLen : WDA
  | [.list ds], k => k (.int (ds.length : Int))
  | [.tuple ds], k => k (.int (ds.length : Int))
  | [.str z], k => z.length ≤ 100000 ∧ k (.int (z.length : Int))
  | _, _ => False
def wInt : WDA
  | [.int i], k => k (.int i)
  | [.bool b], k => k (.int (if b then 1 else 0))
  | _, _ => False
def wAbs : WDA
  | [.int i], k => k (.int (if i < 0 then -i else i))
  | _, _ => False
def wMax2 : WDA
  | [.int i, .int j], k => k (.int (if j > i then j else i))
  | _, _ => False
def wMin2 : WDA
  | [.int i, .int j], k => k (.int (if j < i then j else i))
  | _, _ => False
def wGcd : WDA
  | [.int i, .int j], k => k (.int ((Nat.gcd i.natAbs j.natAbs : Nat) : Int))
  | _, _ => False
def wMaxL : WDA
  | [.list ds], k => ∃ ns : List Int, ds = ns.map .int ∧ 0 < ns.length ∧ ∀ m, m ∈ ns → (∀ y, y ∈ ns → y ≤ m) → k (.int m)
  | _, _ => False
def wAll : WDA
  | [.list ds], k => ∃ bs : List Bool, ds = bs.map .bool ∧ k (.bool (bs.all id))
  | _, _ => False
def wAny : WDA
  | [.list ds], k => ∃ bs : List Bool, ds = bs.map .bool ∧ k (.bool (bs.any id))
  | _, _ => False
def wTuple : WDA
  | [.list ds], k => k (.tuple ds)
  | _, _ => False
def wList : WDA
  | [.list ds], k => k (.list ds)
  | [.tuple ds], k => k (.list ds)
  | _, _ => False
def wSorted : WDA
  | [.list ds], k => ∃ ns : List Int, ds = ns.map .int ∧ ns.length < 64 ∧ ∀ ns' : List Int, ns'.Perm ns → ns'.Pairwise (· ≤ ·) → k (.list (ns'.map .int))
  | _, _ => False
section
theorem s_len {K : PySem.W.Frag} : SCall (fun xs H Q => (∃ p ys, xs = [.ref p] ∧ (SqL K H p ys ∨ SqT K H p ys) ∧ Q (.int ys.length) H) ∨ ∃ z, xs = [.str z] ∧ z.length ≤ sizeLine ∧ Q (.int z.length) H) wLen := by
  intro S H xs ds k R hs hx h q
  unfold wLen at h
  split at h
  · rename_i ds k
    cases hx with
    | cons hv ht =>
      cases ht
      cases hv with
      | lst ha hd =>
        refine .inl ⟨_, _, rfl, .inl (SqL.of (hs _ _ ha)), ?_⟩
        rw [hd.length]
        exact q _ H S _ (Grow.refl hs) (.int _) h
  · rename_i ds k
    cases hx with
    | cons hv ht =>
      cases ht
      cases hv with
      | tup ha hd =>
        refine .inl ⟨_, _, rfl, .inr (SqT.of (hs _ _ ha)), ?_⟩
        rw [hd.length]
        exact q _ H S _ (Grow.refl hs) (.int _) h
  · cases hx with
    | cons hv ht =>
      cases ht
      cases hv
      exact .inr ⟨_, rfl, len_small h.1, q _ H S _ (Grow.refl hs) (.int _) h.2⟩
  · exact h.elim
theorem cr_or {X : Cx} {f : Value} {r r' : List V → Hp → VK → Prop} (h : CallR X f r) (h' : CallR X f r') : CallR X f fun xs H Q => r xs H Q ∨ r' xs H Q := fun pins s σ H xs us Q I rv q => by
  rcases q with q | q
  · exact h pins s σ H xs us Q I rv q
  · exact h' pins s σ H xs us Q I rv q
theorem s_int : SCall (fun xs H Q => (∃ i, xs = [.int i] ∧ Q (.int i) H) ∨ ∃ k, xs = [.bl k] ∧ Q (.int (if k then 1 else 0)) H) wInt := by
  intro S H xs ds k R hs hx h q
  unfold wInt at h
  split at h
  · cases hx with
    | cons hv ht =>
      cases ht
      cases hv
      exact .inl ⟨_, rfl, q _ H S _ (Grow.refl hs) (.int _) h⟩
  · cases hx with
    | cons hv ht =>
      cases ht
      cases hv
      exact .inr ⟨_, rfl, q _ H S _ (Grow.refl hs) (.int _) h⟩
  · exact h.elim
theorem s_abs : SCall (fun xs H Q => ∃ i, xs = [.int i] ∧ Q (.int (if i < 0 then -i else i)) H) wAbs := by
  intro S H xs ds k R hs hx h q
  unfold wAbs at h
  split at h
  · cases hx with
    | cons hv ht =>
      cases ht
      cases hv
      exact ⟨_, rfl, q _ H S _ (Grow.refl hs) (.int _) h⟩
  · exact h.elim
theorem s_max2 : SCall (fun xs H Q => ∃ i j, xs = [.int i, .int j] ∧ Q (.int (if j > i then j else i)) H) wMax2 := by
  intro S H xs ds k R hs hx h q
  unfold wMax2 at h
  split at h
  · cases hx with
    | cons hv ht =>
      cases ht with
      | cons hw hn =>
        cases hn
        cases hv
        cases hw
        exact ⟨_, _, rfl, q _ H S _ (Grow.refl hs) (.int _) h⟩
  · exact h.elim
theorem s_min2 : SCall (fun xs H Q => ∃ i j, xs = [.int i, .int j] ∧ Q (.int (if j < i then j else i)) H) wMin2 := by
  intro S H xs ds k R hs hx h q
  unfold wMin2 at h
  split at h
  · cases hx with
    | cons hv ht =>
      cases ht with
      | cons hw hn =>
        cases hn
        cases hv
        cases hw
        exact ⟨_, _, rfl, q _ H S _ (Grow.refl hs) (.int _) h⟩
  · exact h.elim
theorem s_gcd : SCall rGcd wGcd := by
  intro S H xs ds k R hs hx h q
  unfold wGcd at h
  split at h
  · cases hx with
    | cons hv ht =>
      cases ht with
      | cons hw hn =>
        cases hn
        cases hv
        cases hw
        exact ⟨_, _, rfl, q _ H S _ (Grow.refl hs) (.int _) h⟩
  · exact h.elim
theorem one_list {S : Hp} {xs : List V} {ds : List PD} (h : DVs S xs [.list ds]) : ∃ a ys, xs = [.ref a] ∧ S a = some (.lst ys) ∧ DVs S ys ds := by
  cases h with
  | cons hv ht =>
    cases ht
    cases hv with
    | lst ha hd => exact ⟨_, _, rfl, ha, hd⟩
theorem s_maxL {K : PySem.W.Frag} : SCall (rMax K) wMaxL := by
  intro S H xs ds k R hs hx h q
  unfold wMaxL at h
  split at h
  · obtain ⟨ns, rfl, h1, h2⟩ := h
    obtain ⟨a, ys, rfl, ha, hd⟩ := one_list hx
    rw [hd.ints_inv] at ha
    exact ⟨a, ns, rfl, SqL.of (hs _ _ ha), h1, fun m hm hle => q _ H S _ (Grow.refl hs) (.int _) (h2 m hm hle)⟩
  · exact h.elim
theorem s_all {K : PySem.W.Frag} : SCall (rAll K) wAll := by
  intro S H xs ds k R hs hx h q
  unfold wAll at h
  split at h
  · obtain ⟨bs, rfl, h2⟩ := h
    obtain ⟨a, ys, rfl, ha, hd⟩ := one_list hx
    rw [hd.bools_inv] at ha
    exact ⟨a, bs, rfl, SqL.of (hs _ _ ha), q _ H S _ (Grow.refl hs) (.bl _) h2⟩
  · exact h.elim
theorem s_any {K : PySem.W.Frag} : SCall (rAny K) wAny := by
  intro S H xs ds k R hs hx h q
  unfold wAny at h
  split at h
  · obtain ⟨bs, rfl, h2⟩ := h
    obtain ⟨a, ys, rfl, ha, hd⟩ := one_list hx
    rw [hd.bools_inv] at ha
    exact ⟨a, bs, rfl, SqL.of (hs _ _ ha), q _ H S _ (Grow.refl hs) (.bl _) h2⟩
  · exact h.elim
theorem s_tuple {K : PySem.W.Frag} : SCall (fun xs H Q => ∃ p ys, xs = [.ref p] ∧ ((SqL K H p ys ∧ ∀ l, H l = none → Q (.ref l) (upd H l (.tup ys))) ∨ (SqT K H p ys ∧ Q (.ref p) H))) wTuple := by
  intro S H xs ds k R hs hx h q
  unfold wTuple at h
  split at h
  · obtain ⟨a, ys, rfl, ha, hd⟩ := one_list hx
    refine ⟨a, ys, rfl, .inl ⟨SqL.of (hs _ _ ha), fun l hl => ?_⟩⟩
    have g := Grow.lay (o := .tup ys) hs hl
    exact q _ _ _ _ g (.tup upd_same (DVs.mono g.s _ _ hd)) h
  · exact h.elim
theorem list_src {K : PySem.W.Frag} {S H : Hp} {xs : List V} {ds : List PD} {k : PD → Prop} (hs : Ex S H) (hx : DVs S xs ds) (h : wList ds k) : ∃ a ys es, xs = [.ref a] ∧ (SqL K H a ys ∨ SqT K H a ys) ∧ DVs S ys es ∧ k (.list es) := by
  unfold wList at h
  split at h
  · obtain ⟨a, ys, rfl, ha, hd⟩ := one_list hx
    exact ⟨a, ys, _, rfl, .inl (SqL.of (hs _ _ ha)), hd, h⟩
  · cases hx with
    | cons hv ht =>
      cases ht
      cases hv with
      | tup ha hd => exact ⟨_, _, _, rfl, .inr (SqT.of (hs _ _ ha)), hd, h⟩
  · exact h.elim
theorem s_list {K : PySem.W.Frag} : SCall (fun xs H Q => ∃ p ys, xs = [.ref p] ∧ (SqL K H p ys ∨ SqT K H p ys) ∧ ∀ l, H l = none → Q (.ref l) (upd H l (.lst ys))) wList := by
  intro S H xs ds k R hs hx h q
  obtain ⟨a, ys, es, rfl, h1, h2, h3⟩ := list_src (K := K) hs hx h
  refine ⟨a, ys, rfl, h1, fun l hl => ?_⟩
  have g := Grow.lay (o := .lst ys) hs hl
  exact q _ _ _ _ g (.lst upd_same (DVs.mono g.s _ _ h2)) h3
theorem s_sorted {K : PySem.W.Frag} : SCall (rSorted K) wSorted := by
  intro S H xs ds k R hs hx h q
  unfold wSorted at h
  split at h
  · obtain ⟨ns, rfl, h1, h2⟩ := h
    obtain ⟨a, ys, rfl, ha, hd⟩ := one_list hx
    rw [hd.ints_inv] at ha
    refine ⟨a, ns, rfl, SqL.of (hs _ _ ha), h1, fun ns' p hp hq hn => ?_⟩
    have g := Grow.lay (o := .lst (ns'.map V.int)) hs hn
    exact q _ _ _ _ g (.lst upd_same (DVs.ints _)) (h2 ns' hp hq)
  · exact h.elim
end
def tyD : PD → String
  | .none => "NoneType"
  | .bool _ => "bool"
  | .int _ => "int"
  | .str _ => "str"
  | .list _ => "list"
  | .tuple _ => "tuple"
  | .dict _ => "dict"
theorem ty_of {K : PySem.W.Frag} {S H : Hp} {x : V} {d : PD} (hs : Ex S H) (h : DV S x d) : TyX K H x (.type (tyD d)) := by
  cases h with
  | non => exact .base .non
  | bl b => exact .base (.bl b)
  | int i => exact .base (.int i)
  | str z => exact .base (.str z)
  | lst ha hd => exact .base (.lst (hs _ _ ha))
  | tup ha hd => exact .base (.tup (hs _ _ ha))
section
variable {X : Cx} {e a b : Expr} {es : List Expr} {pos p p' : Pos} {t : TAD} {td : TED}
abbrev Fr1 (X : Cx) (x : Str) : Prop := X.mg x = none
theorem p_len (hm : X.mg "len" = none) (ha : PAD X [e] t) (hg : Gl X "len" := by rfl) (he : starEach [e] X.env = (false, eval e X.env) :: starEach [] X.env := by rfl) (hpl : (backTo pos (starEach [] X.env)).any (·.1) = false := by rfl) : PED X (.Call (.Name "len" p) [e] [] pos) (dCall wLen t) := p_callB (cr_or call_len_seq call_len_str) s_len hg hm PySem.boot_len ha (by decide) (by decide) he hpl
theorem p_intc (hm : X.mg "int" = none) (ha : PAD X [e] t) (hg : Gl X "int" := by rfl) (he : starEach [e] X.env = (false, eval e X.env) :: starEach [] X.env := by rfl) (hpl : (backTo pos (starEach [] X.env)).any (·.1) = false := by rfl) : PED X (.Call (.Name "int" p) [e] [] pos) (dCall wInt t) := p_callTy call_int1 s_int hg hm (by decide +kernel) ha (by decide) (by decide) he hpl
theorem p_abs (hm : X.mg "abs" = none) (ha : PAD X [e] t) (hg : Gl X "abs" := by rfl) (he : starEach [e] X.env = (false, eval e X.env) :: starEach [] X.env := by rfl) (hpl : (backTo pos (starEach [] X.env)).any (·.1) = false := by rfl) : PED X (.Call (.Name "abs" p) [e] [] pos) (dCall wAbs t) := p_callB call_abs s_abs hg hm (by decide +kernel) ha (by decide) (by decide) he hpl
theorem p_max2 (hc : X.calm = true) (hm : X.mg "max" = none) (ha : PAD X [e, b] t) (hg : Gl X "max" := by rfl) (he : starEach [e, b] X.env = (false, eval e X.env) :: starEach [b] X.env := by rfl) (hpl : (backTo pos (starEach [b] X.env)).any (·.1) = false := by rfl) : PED X (.Call (.Name "max" p) [e, b] [] pos) (dCall wMax2 t) := p_callB (call_max2 hc) s_max2 hg hm (by decide +kernel) ha (by decide) (by decide) he hpl
theorem p_min2 (hc : X.calm = true) (hm : X.mg "min" = none) (ha : PAD X [e, b] t) (hg : Gl X "min" := by rfl) (he : starEach [e, b] X.env = (false, eval e X.env) :: starEach [b] X.env := by rfl) (hpl : (backTo pos (starEach [b] X.env)).any (·.1) = false := by rfl) : PED X (.Call (.Name "min" p) [e, b] [] pos) (dCall wMin2 t) := p_callB (call_min2 hc) s_min2 hg hm (by decide +kernel) ha (by decide) (by decide) he hpl
theorem p_maxL (hc : X.calm = true) (hm : X.mg "max" = none) (ha : PAD X [e] t) (hg : Gl X "max" := by rfl) (he : starEach [e] X.env = (false, eval e X.env) :: starEach [] X.env := by rfl) (hpl : (backTo pos (starEach [] X.env)).any (·.1) = false := by rfl) : PED X (.Call (.Name "max" p) [e] [] pos) (dCall wMaxL t) := p_callB (cr_max hc) s_maxL hg hm (by decide +kernel) ha (by decide) (by decide) he hpl
theorem p_all (hc : X.calm = true) (hm : X.mg "all" = none) (ha : PAD X [e] t) (hg : Gl X "all" := by rfl) (he : starEach [e] X.env = (false, eval e X.env) :: starEach [] X.env := by rfl) (hpl : (backTo pos (starEach [] X.env)).any (·.1) = false := by rfl) : PED X (.Call (.Name "all" p) [e] [] pos) (dCall wAll t) := p_callB (cr_all hc) s_all hg hm (by decide +kernel) ha (by decide) (by decide) he hpl
theorem p_any (hc : X.calm = true) (hm : X.mg "any" = none) (ha : PAD X [e] t) (hg : Gl X "any" := by rfl) (he : starEach [e] X.env = (false, eval e X.env) :: starEach [] X.env := by rfl) (hpl : (backTo pos (starEach [] X.env)).any (·.1) = false := by rfl) : PED X (.Call (.Name "any" p) [e] [] pos) (dCall wAny t) := p_callB (cr_any hc) s_any hg hm (by decide +kernel) ha (by decide) (by decide) he hpl
theorem p_tuple (hm : X.mg "tuple" = none) (ha : PAD X [e] t) (hg : Gl X "tuple" := by rfl) (he : starEach [e] X.env = (false, eval e X.env) :: starEach [] X.env := by rfl) (hpl : (backTo pos (starEach [] X.env)).any (·.1) = false := by rfl) : PED X (.Call (.Name "tuple" p) [e] [] pos) (dCall wTuple t) := p_callTy call_tuple_of s_tuple hg hm (by decide +kernel) ha (by decide) (by decide) he hpl
theorem p_list (hm : X.mg "list" = none) (ha : PAD X [e] t) (hg : Gl X "list" := by rfl) (he : starEach [e] X.env = (false, eval e X.env) :: starEach [] X.env := by rfl) (hpl : (backTo pos (starEach [] X.env)).any (·.1) = false := by rfl) : PED X (.Call (.Name "list" p) [e] [] pos) (dCall wList t) := p_callTy call_list_of s_list hg hm (by decide +kernel) ha (by decide) (by decide) he hpl
theorem p_sorted (hm : X.mg "sorted" = none) (ha : PAD X [e] t) (hg : Gl X "sorted" := by rfl) (he : starEach [e] X.env = (false, eval e X.env) :: starEach [] X.env := by rfl) (hpl : (backTo pos (starEach [] X.env)).any (·.1) = false := by rfl) : PED X (.Call (.Name "sorted" p) [e] [] pos) (dCall wSorted t) := p_callB cr_sorted s_sorted hg hm (by decide +kernel) ha (by decide) (by decide) he hpl
theorem p_gcd (hm : X.mg "gcd" = some (.builtin "math.gcd")) (ha : PAD X [e, b] t) (hg : Gl X "gcd" := by rfl) (he : starEach [e, b] X.env = (false, eval e X.env) :: starEach [b] X.env := by rfl) (hpl : (backTo pos (starEach [b] X.env)).any (·.1) = false := by rfl) : PED X (.Call (.Name "gcd" p) [e, b] [] pos) (dCall wGcd t) := p_callF cr_gcd s_gcd hg hm ha (by decide) he hpl
/-- isinstance(e, T) -/
def dIs (T : String) (td : TED) : TED := fun ρ Q => td ρ fun d ρ1 => ∃ b, kitB (tyD d) T = some b ∧ Q (.bool b) ρ1
theorem p_is {T : String} {x : Str} (hm : X.mg "isinstance" = none) (hm2 : X.mg x = none) (ha : PED X e td) (hv : bootBuiltins x = some (.type T)) (hn : x ≠ "__name__" := by decide) (hdb : (x == ("__debug__" : Str)) = false := by decide) (hg2 : Gl X x := by rfl) (hg : Gl X "isinstance" := by rfl)
    (h0 : starEach [.Name x p'] X.env = (false, eval (.Name x p') X.env) :: starEach [] X.env := by rfl) (he : starEach [e, .Name x p'] X.env = (false, eval e X.env) :: starEach [.Name x p'] X.env := by rfl) (hpl : (backTo pos (starEach [.Name x p'] X.env)).any (·.1) = false := by rfl) : PED X (.Call (.Name "isinstance" p) [e, .Name x p'] [] pos) (dIs T td) :=
  impPE (pe_callB call_isi hg hm (by decide +kernel) (pa_cons ha (pa_cons (pe_bltn (v := .ty T) hg2 hm2 hv rfl hn hdb) pa_nil h0) he) (by decide) (by decide) he hpl) fun σ H R h => by
    obtain ⟨B, ρ, S, Q, E, h, k⟩ := h
    refine ⟨B, ρ, S, _, E, h, fun v H1 d ρ1 S1 E1 e1 hv h1 => ?_⟩
    obtain ⟨b, h2, h3⟩ := h1
    exact ⟨v, .ty T, .type (tyD d), .type T, b, rfl, .ty T, ty_of E1.sub hv, kit_ty h2, k _ H1 _ ρ1 S1 E1 e1 (.bl b) h3⟩

/-! ### calls of one's own -/
def spF (w : WDA) : Sp := fun vs H Q _ => ∃ S ds k, Ex S H ∧ DVs S vs ds ∧ w ds k ∧ ∀ v H' S' d, Grow S H S' H' → DV S' v d → k d → Q v H'
theorem s_call1 {w : WDA} {E : XK} : SCall (fun vs H Q => spF w (vs ++ []) H Q E) w := by
  intro S H xs ds k R hs hx h q
  exact ⟨S, ds, k, hs, by rw [List.append_nil]; exact hx, h, q⟩
variable {x : Str} {w : WDA} {k j : Nat}
theorem p_c (c : Cal X.prog X.w X.K X.mg X.base k x (spF w) []) (hr : Room j X.A) (hk : k ≤ j) (ha : PAD X (e :: es) t) (hg : Gl X x := by rfl)
    (hdb : (x == ("__debug__" : Str)) = false := by decide) (he : starEach (e :: es) X.env = (false, eval e X.env) :: starEach es X.env := by rfl) (hpl : (backTo pos (starEach es X.env)).any (·.1) = false := by rfl) :
    PED X (.Call (.Name x p) (e :: es) [] pos) (dCall w t) := impPE (pe_c c hr hk hg ha hdb he hpl) fun σ H R h => sim_call (r := fun vs H Q => spF w (vs ++ []) H Q fun _ _ _ => False) s_call1 h
/-- one that hands back a new list of one's own -/
def spO (w : List PD → (List PD → Prop) → Prop) : Sp := fun vs H Q _ => ∃ S ds k, Ex S H ∧ DVs S vs ds ∧ w ds k ∧ ∀ p xs H' S' d, Grow S H S' H' → S' p = none → H' p = some (.lst xs) → H p = none → DVs S' xs d → k d → Q (.ref p) H'
/-- .. a new dict -/
def spC (w : List PD → (List (Key × PD) → Prop) → Prop) : Sp := fun vs H Q _ => ∃ S ds k, Ex S H ∧ DVs S vs ds ∧ w ds k ∧ ∀ p xs H' S' d, Grow S H S' H' → S' p = none → H' p = some (.dK xs) → H p = none → DKV S' xs d → k d → Q (.ref p) H'
def oCall {α : Type} (w : List PD → (α → Prop) → Prop) (ta : TAD) : Rho → (α → Rho → Prop) → Prop := fun ρ Q => ta ρ fun ds ρ1 => w ds fun d => Q d ρ1
theorem o_c {w : List PD → (List PD → Prop) → Prop} (c : Cal X.prog X.w X.K X.mg X.base k x (spO w) []) (hr : Room j X.A) (hk : k ≤ j) (ha : PAD X (e :: es) t) (hg : Gl X x := by rfl)
    (hdb : (x == ("__debug__" : Str)) = false := by decide) (he : starEach (e :: es) X.env = (false, eval e X.env) :: starEach es X.env := by rfl) (hpl : (backTo pos (starEach es X.env)).any (·.1) = false := by rfl) :
    POD X (.Call (.Name x p) (e :: es) [] pos) (oCall w t) := impPE (pe_c c hr hk hg ha hdb he hpl) fun σ H R h => by
  obtain ⟨B, ρ, S, Q, E, h, k⟩ := h
  refine ⟨B, ρ, S, _, E, h, fun vs H1 ds ρ1 S1 E1 e1 hv h1 => ?_⟩
  refine ⟨S1, ds, _, E1.sub, by rw [List.append_nil]; exact hv, h1, fun p xs H' S' d g h2 h3 h4 h5 h6 => ?_⟩
  exact k p xs H' d ρ1 S' (E1.grow g) (e1.trans g.s) h2 h3 (E1.new h4) h5 h6
theorem d_c {w : List PD → (List (Key × PD) → Prop) → Prop} (c : Cal X.prog X.w X.K X.mg X.base k x (spC w) []) (hr : Room j X.A) (hk : k ≤ j) (ha : PAD X (e :: es) t) (hg : Gl X x := by rfl)
    (hdb : (x == ("__debug__" : Str)) = false := by decide) (he : starEach (e :: es) X.env = (false, eval e X.env) :: starEach es X.env := by rfl) (hpl : (backTo pos (starEach es X.env)).any (·.1) = false := by rfl) :
    PDD X (.Call (.Name x p) (e :: es) [] pos) (oCall w t) := impPE (pe_c c hr hk hg ha hdb he hpl) fun σ H R h => by
  obtain ⟨B, ρ, S, Q, E, h, k⟩ := h
  refine ⟨B, ρ, S, _, E, h, fun vs H1 ds ρ1 S1 E1 e1 hv h1 => ?_⟩
  refine ⟨S1, ds, _, E1.sub, by rw [List.append_nil]; exact hv, h1, fun p xs H' S' d g h2 h3 h4 h5 h6 => ?_⟩
  exact k p xs H' d ρ1 S' (E1.grow g) (e1.trans g.s) h2 h3 (E1.new h4) h5 h6

/-! ### one that changes the list that is handed in first -/
def spK (w : List PD → List PD → (List PD → PD → Prop) → Prop) : Sp := fun vs H Q _ => ∃ a S xs dk vs' ds k, vs = .ref a :: vs' ∧ Ex S H ∧ S a = none ∧ H a = some (.lst xs) ∧ DVs S xs dk ∧ DVs S vs' ds ∧ w dk ds k ∧
  ∀ v H' S' d xs' dk', Stp ⟨S, H, some a⟩ S' H' → S' a = none → H' a = some (.lst xs') → DVs S' xs' dk' → DV S' v d → k dk' d → Q v H'
/-- the list at a slot, that may change -/
def dkOf : En → (List PD → (List PD → En) → Prop) → Prop
  | .own ds, k => k ds .own
  | .dck ds, k => k ds .dck
  | _, _ => False
def dCallK (i : Nat) (w : List PD → List PD → (List PD → PD → Prop) → Prop) (ta : TAD) : TED := fun ρ Q => dkOf (rget ρ i) (fun _ _ => True) ∧ ta ρ fun ds ρ1 => dkOf (rget ρ1 i) fun dk c => w dk ds fun dk' d => Q d (rset ρ1 i (c dk'))
theorem EnAt.stp {B : Bs} {S H S' H' : Hp} {a : Addr} {v : Option V} (s : Stp ⟨S, H, some a⟩ S' H') : ∀ {e : En}, (e.ow = true → v ≠ some (.ref a)) → EnAt B S H v e → EnAt B S' H' v e := by
  have nw : ∀ {b o}, S b = none → H b = some o → S' b = none := fun {b o} h1 h2 => by
    cases e : S' b with
    | none => rfl
    | some u =>
      rcases s.new b u e with q | q
      · have q : S b = some u := q
        rw [h1] at q; cases q
      · have q : H b = none := q
        rw [h2] at q; cases q
  intro e hn h
  cases e with
  | unk => exact True.intro
  | dat d =>
    obtain ⟨x, h1, h2⟩ := h
    exact ⟨x, h1, DV.mono s.s0 _ _ h2⟩
  | own ds =>
    obtain ⟨b, xs, h1, h2, h3, h4, h5⟩ := h
    exact ⟨b, xs, h1, nw h2 h3, s.old b _ h3 (fun z => hn rfl (by rw [h1, Option.some.inj z])), DVs.mono s.s0 _ _ h4, h5⟩
  | dck ds =>
    obtain ⟨b, xs, h1, h2, h3, h4, h5⟩ := h
    exact ⟨b, xs, h1, nw h2 h3, s.old b _ h3 (fun z => hn rfl (by rw [h1, Option.some.inj z])), DVs.mono s.s0 _ _ h4, h5⟩
  | dic ds =>
    obtain ⟨b, xs, h1, h2, h3, h4, h5⟩ := h
    exact ⟨b, xs, h1, nw h2 h3, s.old b _ h3 (fun z => hn rfl (by rw [h1, Option.some.inj z])), DKV.mono s.s0 h4, h5⟩
theorem Stp.comp {B : Bs} {S H S' H' : Hp} {a : Addr} {o : HO} (s : Stp B S H) (ha : B.H a = none ∨ B.dk = some a) (t : Stp ⟨S, H, some a⟩ S' H') (h' : H' a = some o) : Stp B S' H' := by
  refine ⟨fun c u e n => ?_, s.s0.trans t.s0, t.sub, fun c u e => ?_, fun c e => ?_⟩
  · by_cases q : c = a
    · subst q
      rcases ha with z | z
      · rw [z] at e; cases e
      · exact absurd z n
    · exact t.old c u (s.old c u e n) (fun z => q (Option.some.inj z).symm)
  · rcases t.new c u e with q | q
    · exact s.new c u q
    · refine .inr ?_
      cases e0 : B.H c with
      | none => rfl
      | some y =>
        have q : H c = none := q
        by_cases hd : B.dk = some c
        · obtain ⟨z, hz⟩ := s.dkt c hd
          rw [hz] at q; cases q
        · rw [s.old c y e0 hd] at q; cases q
  · by_cases q : c = a
    · subst q; exact ⟨o, h'⟩
    · obtain ⟨z, hz⟩ := s.dkt c e
      exact ⟨z, t.old c z hz (fun y => q (Option.some.inj y).symm)⟩
theorem dkOf_at {B : Bs} {S H : Hp} {σ : L2.St} {ρ : Rho} (E : EnvB B S H σ ρ) {i : Nat} {k : List PD → (List PD → En) → Prop} (h : dkOf (rget ρ i) k) : ∃ a xs ds c, σ[i]? = some (some (.ref a)) ∧ S a = none ∧ H a = some (.lst xs) ∧ DVs S xs ds ∧ (rget ρ i).ow = true ∧ k ds c ∧
    ∀ S' H' xs' ds', S' a = none → H' a = some (.lst xs') → DVs S' xs' ds' → EnAt B S' H' (some (.ref a)) (c ds') := by
  cases e : rget ρ i with
  | own ds =>
    rw [e] at h
    obtain ⟨a, xs, h1, h2, h3, h4, h5, h6⟩ := E.own e
    exact ⟨a, xs, ds, .own, h1, h2, h3, h4, rfl, h, fun S' H' xs' ds' q1 q2 q3 => ⟨a, xs', rfl, q1, q2, q3, h5, h6⟩⟩
  | dck ds =>
    rw [e] at h
    obtain ⟨a, xs, h1, h2, h3, h4, h5⟩ := E.dck e
    exact ⟨a, xs, ds, .dck, h1, h2, h3, h4, rfl, h, fun S' H' xs' ds' q1 q2 q3 => ⟨a, xs', rfl, q1, q2, q3, h5⟩⟩
  | unk => rw [e] at h; exact h.elim
  | dic _ => rw [e] at h; exact h.elim
  | dat d => rw [e] at h; exact h.elim
theorem sim_callK {i : Nat} {w : List PD → List PD → (List PD → PD → Prop) → Prop} {t : TAD} {σ : L2.St} {H : Hp} {R : VK} (h : liftE (dCallK i w t) σ H R) : tCall (spK w) [] (fun _ _ _ => False) (tCons (tVar i) (liftA t)) σ H R := by
  obtain ⟨B, ρ, S, Q, E, ⟨h0, h⟩, k⟩ := h
  obtain ⟨a, _, _, _, ha, _⟩ := dkOf_at E h0
  refine ⟨.ref a, ha, B, ρ, S, _, E, h, fun vs H1 ds ρ1 S1 E1 e1 hv h1 => ?_⟩
  obtain ⟨a', xs, dk, c, ha', hS, hH, hd, ow, h2, mk⟩ := dkOf_at E1 h1
  rw [ha] at ha'
  cases ha'
  refine ⟨a, S1, xs, dk, vs, ds, _, by rw [List.append_nil], E1.sub, hS, hH, hd, hv, h2, fun v H' S' d xs' dk' st hS' hH' hd' hv' q => ?_⟩
  have ho := (E1.ow_at ow ha).2.2
  refine k v H' d _ S' (E1.turn i (E1.stp.comp ho st hH') ?_ (fun _ => ow) fun j hj => (E1.ent j).stp st fun oj z => E1.apart j i a hj oj ow (get_some z) ha) (e1.trans st.s0) hv' q
  rw [show σ[i]?.getD none = some (.ref a) by rw [ha]; rfl]
  exact mk S' H' xs' dk' hS' hH' hd'
theorem p_cK (i : Nat) {y : Str} {py : Pos} {w : List PD → List PD → (List PD → PD → Prop) → Prop} (c : Cal X.prog X.w X.K X.mg X.base k x (spK w) []) (hr : Room j X.A) (hk : k ≤ j) (ha : PAD X es t) (hg : Gl X x := by rfl)
    (hN : X.N[i]? = some y := by rfl) (hv : Vis X.env.scope y := by first | exact Or.inl rfl | exact Or.inr (Or.inl rfl) | exact Or.inr (Or.inr rfl)) (hd : (y == ("__debug__" : Str)) = false := by decide) (hcd : (y == ("__classdict__" : Str)) = false := by decide)
    (hdb : (x == ("__debug__" : Str)) = false := by decide) (he : starEach (.Name y py :: es) X.env = (false, eval (.Name y py) X.env) :: starEach es X.env := by rfl) (hpl : (backTo pos (starEach es X.env)).any (·.1) = false := by rfl) :
    PED X (.Call (.Name x p) (.Name y py :: es) [] pos) (dCallK i w t) := impPE (pe_c c hr hk hg (pa_cons (pe_var hN hv hd hcd) ha he) hdb he hpl) fun σ H R h => sim_callK h
end
end CK
set_option Elab.async false
set_option linter.all false
set_option maxRecDepth 100000
set_option maxHeartbeats 2000000
namespace CK
open PySem PySem.Spec PyProof.Rows L2
open Evl (Ex ex_l ex_t fresh_back)

/-! ### a thing beside the slots that stays as it is -/
def Bs.hold (B : Bs) (p : Addr) (o : HO) : Bs := ⟨B.S, upd B.H p o, B.dk⟩
section
variable {B : Bs} {S H : Hp} {σ : L2.St} {ρ : Rho} {p : Addr} {o : HO}
theorem EnvB.hold (E : EnvB B S H σ ρ) (hH : H p = some o) (hS : S p = none) (n : New B σ ρ p) : EnvB (B.hold p o) S H σ ρ := by
  refine ⟨E.len, fun i => ?_, E.apart, ⟨fun a u e d => ?_, E.stp.s0, E.stp.sub, fun a u e => ?_, E.stp.dkt⟩⟩
  · have q := E.ent i
    cases e : rget ρ i with
    | unk => exact True.intro
    | dat d => rw [e] at q; exact q
    | own ds =>
      rw [e] at q
      obtain ⟨a, xs, h1, h2, h3, h4, h5, h6⟩ := q
      have ne : a ≠ p := fun z => n.no i (by rw [e]; rfl) (by rw [get_some h1, z])
      exact ⟨a, xs, h1, h2, h3, h4, by show upd B.H p o a = none; rw [upd_ne ne]; exact h5, h6⟩
    | dck ds => rw [e] at q; exact q
    | dic ds =>
      rw [e] at q
      obtain ⟨a, xs, h1, h2, h3, h4, h5, h6⟩ := q
      have ne : a ≠ p := fun z => n.no i (by rw [e]; rfl) (by rw [get_some h1, z])
      exact ⟨a, xs, h1, h2, h3, h4, by show upd B.H p o a = none; rw [upd_ne ne]; exact h5, h6⟩
  · have e : upd B.H p o a = some u := e
    by_cases q : a = p
    · subst q
      rw [upd_same] at e
      cases e
      exact hH
    · rw [upd_ne q] at e
      exact E.stp.old a u e d
  · rcases E.stp.new a u e with q | q
    · exact .inl q
    · refine .inr ?_
      show upd B.H p o a = none
      by_cases z : a = p
      · subst z
        rw [hS] at e
        cases e
      · rw [upd_ne z]
        exact q
theorem EnvB.held (E : EnvB (B.hold p o) S H σ ρ) (hd : B.dk ≠ some p) : H p = some o := E.stp.old p o upd_same hd
theorem EnvB.letgo (E : EnvB (B.hold p o) S H σ ρ) (hd : B.dk ≠ some p) (hB : B.H p = none) (hS : B.S p = none) : EnvB B S H σ ρ ∧ S p = none ∧ New B σ ρ p := by
  have ne : ∀ a, upd B.H p o a = none → a ≠ p ∧ B.H a = none := fun a h => by
    by_cases z : a = p
    · subst z
      rw [upd_same] at h
      cases h
    · rw [upd_ne z] at h
      exact ⟨z, h⟩
  refine ⟨⟨E.len, fun i => ?_, E.apart, ⟨fun a u e d => ?_, E.stp.s0, E.stp.sub, fun a u e => ?_, E.stp.dkt⟩⟩, ?_, hB, hd, fun j oj hj => ?_⟩
  · have q := E.ent i
    cases e : rget ρ i with
    | unk => exact True.intro
    | dat d => rw [e] at q; exact q
    | own ds =>
      rw [e] at q
      obtain ⟨a, xs, h1, h2, h3, h4, h5, h6⟩ := q
      exact ⟨a, xs, h1, h2, h3, h4, (ne a h5).2, h6⟩
    | dck ds => rw [e] at q; exact q
    | dic ds =>
      rw [e] at q
      obtain ⟨a, xs, h1, h2, h3, h4, h5, h6⟩ := q
      exact ⟨a, xs, h1, h2, h3, h4, (ne a h5).2, h6⟩
  · refine E.stp.old a u ?_ d
    show upd B.H p o a = some u
    rw [upd_ne (fun z => by subst z; rw [hB] at e; cases e)]
    exact e
  · rcases E.stp.new a u e with q | q
    · exact .inl q
    · exact .inr (ne a q).2
  · cases e : S p with
    | none => rfl
    | some u =>
      rcases E.stp.new p u e with q | q
      · rw [show B.S p = some u from q] at hS
        cases hS
      · exact absurd rfl (ne p q).1
  · have q := E.ent j
    rw [hj] at q
    cases e : rget ρ j with
    | unk => rw [e] at oj; cases oj
    | dat d => rw [e] at oj; cases oj
    | own ds =>
      rw [e] at q
      obtain ⟨a, xs, h1, h2, h3, h4, h5, h6⟩ := q
      cases h1
      exact (ne p h5).1 rfl
    | dck ds =>
      rw [e] at q
      obtain ⟨a, xs, h1, h2, h3, h4, h5⟩ := q
      cases h1
      exact hd h5
    | dic ds =>
      rw [e] at q
      obtain ⟨a, xs, h1, h2, h3, h4, h5, h6⟩ := q
      cases h1
      exact (ne p h5).1 rfl
/-- a new thing stands still from now on -/
theorem EnvB.stand (E : EnvB B S H σ ρ) (hH : H p = some o) (hS : S p = none) (n : New B σ ρ p) : EnvB B (upd S p o) H σ ρ := by
  have ex : Ex S (upd S p o) := Ex.new hS
  refine ⟨E.len, fun i => ?_, E.apart, E.stp.still hS hH n.h⟩
  have q := E.ent i
  cases e : rget ρ i with
  | unk => exact True.intro
  | dat d =>
    rw [e] at q
    obtain ⟨x, h1, h2⟩ := q
    exact ⟨x, h1, DV.mono ex _ _ h2⟩
  | own ds =>
    rw [e] at q
    obtain ⟨a, xs, h1, h2, h3, h4, h5⟩ := q
    have ne : a ≠ p := fun z => n.no i (by rw [e]; rfl) (by rw [get_some h1, z])
    exact ⟨a, xs, h1, by rw [upd_ne ne]; exact h2, h3, DVs.mono ex _ _ h4, h5⟩
  | dck ds =>
    rw [e] at q
    obtain ⟨a, xs, h1, h2, h3, h4, h5⟩ := q
    have ne : a ≠ p := fun z => n.no i (by rw [e]; rfl) (by rw [get_some h1, z])
    exact ⟨a, xs, h1, by rw [upd_ne ne]; exact h2, h3, DVs.mono ex _ _ h4, h5⟩
  | dic ds =>
    rw [e] at q
    obtain ⟨a, xs, h1, h2, h3, h4, h5⟩ := q
    have ne : a ≠ p := fun z => n.no i (by rw [e]; rfl) (by rw [get_some h1, z])
    exact ⟨a, xs, h1, by rw [upd_ne ne]; exact h2, h3, DKV.mono ex h4, h5⟩
/-- a thing beside the slots changes -/
theorem EnvB.beside (E : EnvB B S H σ ρ) (hS : S p = none) (n : New B σ ρ p) : EnvB B S (upd H p o) σ ρ := by
  refine ⟨E.len, fun i => ?_, E.apart, E.stp.change hS (.inl n.h)⟩
  have q := E.ent i
  cases e : rget ρ i with
  | unk => exact True.intro
  | dat d => rw [e] at q; exact q
  | own ds =>
    rw [e] at q
    obtain ⟨a, xs, h1, h2, h3, h4⟩ := q
    have ne : a ≠ p := fun z => n.no i (by rw [e]; rfl) (by rw [get_some h1, z])
    exact ⟨a, xs, h1, h2, by rw [upd_ne ne]; exact h3, h4⟩
  | dck ds =>
    rw [e] at q
    obtain ⟨a, xs, h1, h2, h3, h4⟩ := q
    have ne : a ≠ p := fun z => n.no i (by rw [e]; rfl) (by rw [get_some h1, z])
    exact ⟨a, xs, h1, h2, by rw [upd_ne ne]; exact h3, h4⟩
  | dic ds =>
    rw [e] at q
    obtain ⟨a, xs, h1, h2, h3, h4⟩ := q
    have ne : a ≠ p := fun z => n.no i (by rw [e]; rfl) (by rw [get_some h1, z])
    exact ⟨a, xs, h1, h2, by rw [upd_ne ne]; exact h3, h4⟩
end
/-! ### slots forgotten -/
def wipeR (ρ : Rho) : List Nat → Rho
  | [] => ρ
  | v :: vs => rset (wipeR ρ vs) v .unk
theorem EnvB.wipe {B : Bs} {S H : Hp} {σ : L2.St} {ρ : Rho} (E : EnvB B S H σ ρ) : ∀ vs : List Nat, EnvB B S H (wipe σ vs) (wipeR ρ vs)
  | [] => E
  | v :: vs => (EnvB.wipe E vs).put v True.intro fun z => nomatch z
theorem wipeR_unk {ρ : Rho} {i : Nat} : ∀ {vs : List Nat}, i ∈ vs → rget (wipeR ρ vs) i = .unk
  | [], h => by cases h
  | v :: vs, h => by
    show rget (rset (wipeR ρ vs) v .unk) i = .unk
    by_cases q : i = v
    · subst q
      rcases rget_set_same (ρ := wipeR ρ vs) (i := i) (e := .unk) with z | z
      · exact z
      · exact rget_out (by rw [rset_length]; exact z)
    · rw [rget_set_ne q]
      exact wipeR_unk (List.mem_of_ne_of_mem q h)
theorem wipe_out {σ : L2.St} {i : Nat} : ∀ {vs : List Nat}, i ∉ vs → (L2.wipe σ vs)[i]? = σ[i]?
  | [], _ => rfl
  | v :: vs, h => by
    show ((L2.wipe σ vs).set v none)[i]? = σ[i]?
    rw [List.getElem?_set_ne (fun z => h (by rw [z]; exact List.mem_cons_self))]
    exact wipe_out fun z => h (List.mem_cons_of_mem _ z)
theorem EnvB.unwipe {B : Bs} {S H : Hp} {σ : L2.St} {ρ : Rho} {vs : List Nat} (E : EnvB B S H (L2.wipe σ vs) ρ) (h : ∀ i, i ∈ vs → rget ρ i = .unk) : EnvB B S H σ ρ := by
  have out : ∀ i, (rget ρ i).ow = true → i ∉ vs := fun i oi z => by
    rw [h i z] at oi
    cases oi
  refine ⟨by rw [← wipe_length σ vs]; exact E.len, fun i => ?_, fun i j a hij oi oj hi hj => ?_, E.stp⟩
  · by_cases q : i ∈ vs
    · rw [h i q]
      exact True.intro
    · have z := E.ent i
      rw [wipe_out q] at z
      exact z
  · refine E.apart i j a hij oi oj ?_ ?_
    · rw [wipe_out (out i oi)]; exact hi
    · rw [wipe_out (out j oj)]; exact hj

/-! ### what is walked -/
def Yields (S : Hp) (J : It) (items : List PD) : Prop :=
  (∀ i H, i < items.length → Ex S H → J.go i H) ∧ (∀ H, Ex S H → J.stop items.length H) ∧
  ∀ i H v H', i < items.length → Ex S H → J.yld i H v H' → ∃ d, items[i]? = some d ∧ ((H' = H ∧ DV S v d) ∨ ∃ T xs ds, v = .ref T ∧ H T = none ∧ H' = upd H T (.tup xs) ∧ d = .tuple ds ∧ DVs S xs ds)
def liftI (wd : TAD) : TI := fun σ H R => ∃ B ρ S Q, EnvB B S H σ ρ ∧ wd ρ Q ∧ ∀ J H' ρ' S' items, EnvB B S' H' σ ρ' → Ex S S' → Yields S' J items → Q items ρ' → R J H'
def PID (X : Cx) (tg iter : Expr) (wd : TAD) : Prop := PI X tg iter (liftI wd)
theorem impPI {X : Cx} {tg iter : Expr} {t t' : TI} (h : PI X tg iter t) (f : ∀ σ H R, t' σ H R → t σ H R) : PI X tg iter t' := ⟨fun pins s σ H R I hw => h.run pins s σ H R I (f σ H R hw)⟩
/-- targets: vs its slots -/
def liftGv (vs : List Nat) (tg : TGD) : TG := fun v σ H R => ∃ B ρ S Q d, EnvB B S H σ ρ ∧ DV S v d ∧ tg d ρ Q ∧ ∀ σ' H' ρ' S', EnvB B S' H' σ' ρ' → Ex S S' → L2.wipe σ' vs = L2.wipe σ vs → Q ρ' → R σ' H'
def PVD (X : Cx) (tg : Expr) (vs : List Nat) (td : TGD) : Prop := PG X tg (liftGv vs td)
section
variable {X : Cx} {tg e a b iter elt : Expr} {es : List Expr} {pos p p' tpos : Pos}
def gN (i : Nat) : TGD := fun d ρ Q => Q (rset ρ i (.dat d))
def gP (i j : Nat) : TGD := fun d ρ Q => pairK d fun x y => Q (rset (rset ρ i (.dat x)) j (.dat y))
theorem wipe_set1 {σ : L2.St} {i : Nat} {x : Option V} : L2.wipe (σ.set i x) [i] = L2.wipe σ [i] := by
  show (σ.set i x).set i none = σ.set i none
  rw [List.set_set]
theorem wipe_set2 {σ : L2.St} {i j : Nat} {x y : Option V} : L2.wipe ((σ.set i x).set j y) [i, j] = L2.wipe σ [i, j] := by
  show (((σ.set i x).set j y).set j none).set i none = (σ.set j none).set i none
  rw [List.set_set]
  by_cases q : i = j
  · subst q
    rw [List.set_set, List.set_set, List.set_set]
  · rw [List.set_comm _ _ q, List.set_set]
theorem v_name (i : Nat) {x : Str} (hN : X.N.Nodup) (hi : X.N[i]? = some x := by rfl) (hx : Loc X.env.scope x := by first | exact Or.inl rfl | exact Or.inr rfl) (hf : X.fn x = true ∨ X.env.scope.names.lookup x = some .local := by first | exact .inl rfl | exact .inr rfl | assumption) : PVD X (.Name x pos) [i] (gN i) := impPG (pg_name hN hi hx hf) fun v σ H R h => by
  obtain ⟨B, ρ, S, Q, d, E, hv, h, k⟩ := h
  exact k _ H _ S (E.put_dat i hv) (Ex.refl _) wipe_set1 h
theorem v_pair (i j : Nat) {x y : Str} {kk : Nat} {px py : Pos} (hc : X.calm = true) (hN : X.N.Nodup) (hi : X.N[i]? = some x := by rfl) (hj : X.N[j]? = some y := by rfl) (hx : Loc X.env.scope x := by first | exact Or.inl rfl | exact Or.inr rfl) (hy : Loc X.env.scope y := by first | exact Or.inl rfl | exact Or.inr rfl)
    (hf : X.fn x = true ∨ X.env.scope.names.lookup x = some .local := by first | exact .inl rfl | exact .inr rfl | assumption) (hf2 : X.fn y = true ∨ X.env.scope.names.lookup y = some .local := by first | exact .inl rfl | exact .inr rfl | assumption)
    (hn : (assignEach [.Name x px, .Name y py] X.env).length = 2 := by rfl) (hst : (assignEach [.Name x px, .Name y py] X.env).findIdx? (·.1) = none := by rfl)
    (h1 : (assignEach [.Name x px, .Name y py] X.env).map (·.2) = assign (.Name x px) X.env :: (assignEach [.Name y py] X.env).map (·.2) := by rfl) (h2 : (assignEach [.Name y py] X.env).map (·.2) = assign (.Name y py) X.env :: (assignEach [] X.env).map (·.2) := by rfl) :
    PVD X (.Tuple [.Name x px, .Name y py] kk pos) [i, j] (gP i j) := impPG (pg_tup hc (pgs_cons (pg_name hN hi hx hf) (pgs_cons (pg_name hN hj hy hf2) pgs_nil h2) h1) hn hst) fun v σ H R h => by
  obtain ⟨B, ρ, S, Q, d, E, hv, h, k⟩ := h
  unfold gP pairK at h
  split at h
  · cases hv with
    | tup ha hd =>
      cases hd with
      | cons d1 hd =>
        cases hd with
        | cons d2 hd =>
          cases hd
          exact ⟨_, _, rfl, SqT.of (E.sub _ _ ha), rfl, _, _, rfl, _, _, rfl, rfl, k _ H _ S ((E.put_dat i d1).put_dat j d2) (Ex.refl _) wipe_set2 h⟩
  · exact h.elim
/-! ### iterators -/
def dItL (td : TED) : TAD := fun ρ Q => td ρ fun d ρ1 => lstK d fun ds => Q ds ρ1
def dItT (td : TED) : TAD := fun ρ Q => td ρ fun d ρ1 => tupK d fun ds => Q ds ρ1
theorem yld_list {K : PySem.W.Frag} {S : Hp} {a : Addr} {xs : List V} {ds : List PD} (ha : S a = some (.lst xs)) (hd : DVs S xs ds) : Yields S (Itl K a) ds := by
  have w := walk_list (K := K) (a := a) (xs := xs)
  rw [hd.length] at w
  refine ⟨fun i H hi e => w.goes i H hi (SqL.of (e _ _ ha)), fun H e => w.stops H (SqL.of (e _ _ ha)), fun i H v H' hi e y => ?_⟩
  obtain ⟨h1, h2⟩ := w.yields i H v H' hi (SqL.of (e _ _ ha)) y
  obtain ⟨d, h3, h4⟩ := hd.get' i h2
  exact ⟨d, h3, .inl ⟨h1, h4⟩⟩
theorem yld_tup {K : PySem.W.Frag} {S : Hp} {a : Addr} {xs : List V} {ds : List PD} (ha : S a = some (.tup xs)) (hd : DVs S xs ds) : Yields S (Itt K a) ds := by
  have w := walk_tup (K := K) (a := a) (xs := xs)
  rw [hd.length] at w
  refine ⟨fun i H hi e => w.goes i H hi (SqT.of (e _ _ ha)), fun H e => w.stops H (SqT.of (e _ _ ha)), fun i H v H' hi e y => ?_⟩
  obtain ⟨h1, h2⟩ := w.yields i H v H' hi (SqT.of (e _ _ ha)) y
  obtain ⟨d, h3, h4⟩ := hd.get' i h2
  exact ⟨d, h3, .inl ⟨h1, h4⟩⟩
theorem i_list {td : TED} (h : PED X e td) : PID X tg e (dItL td) := impPI (pi_list h) fun σ H R h => by
  obtain ⟨B, ρ, S, Q, E, h, k⟩ := h
  refine ⟨B, ρ, S, _, E, h, fun v H1 d ρ1 S1 E1 e1 hv h1 => ?_⟩
  obtain ⟨a, xs, ds, rfl, ha, hd, h1⟩ := lstK_of hv h1
  exact ⟨_, rfl, ⟨_, SqL.of (E1.sub _ _ ha)⟩, k _ H1 ρ1 S1 _ E1 e1 (yld_list ha hd) h1⟩
theorem i_tup {td : TED} (h : PED X e td) : PID X tg e (dItT td) := impPI (pi_tup h) fun σ H R h => by
  obtain ⟨B, ρ, S, Q, E, h, k⟩ := h
  refine ⟨B, ρ, S, _, E, h, fun v H1 d ρ1 S1 E1 e1 hv h1 => ?_⟩
  obtain ⟨a, xs, ds, rfl, ha, hd, h1⟩ := tupK_of hv h1
  exact ⟨_, rfl, ⟨_, SqT.of (E1.sub _ _ ha)⟩, k _ H1 ρ1 S1 _ E1 e1 (yld_tup ha hd) h1⟩
/-- pairs of the place and the item -/
def enumD (ds : List PD) : List PD := ds.mapIdx fun i d => .tuple [.int (i : Int), d]
theorem enumD_length (ds : List PD) : (enumD ds).length = ds.length := by simp [enumD]
theorem enumD_get {ds : List PD} {i : Nat} {d : PD} (h : ds[i]? = some d) : (enumD ds)[i]? = some (.tuple [.int (i : Int), d]) := by simp [enumD, h]
theorem yld_enum {K : PySem.W.Frag} {S : Hp} {a : Addr} {xs : List V} {ds : List PD} (ha : S a = some (.lst xs)) (hd : DVs S xs ds) : Yields S (Ite K a) (enumD ds) := by
  have w := walk_enum (K := K) (a := a) (xs := xs)
  rw [hd.length, ← enumD_length] at w
  refine ⟨fun i H hi e => w.goes i H hi (SqL.of (e _ _ ha)), fun H e => w.stops H (SqL.of (e _ _ ha)), fun i H v H' hi e y => ?_⟩
  obtain ⟨T, x, z, h1, h2, h3, h4, h5⟩ := w.yields i H v H' hi (SqL.of (e _ _ ha)) y
  obtain ⟨d, h6, h7⟩ := hd.get' i h5
  have h4 : V.int (i : Nat) = x := Option.some.inj h4
  subst h4
  exact ⟨_, enumD_get h6, .inr ⟨T, _, _, h1, h2, h3, rfl, .cons (.int _) (.cons h7 .nil)⟩⟩
theorem one_arg {S : Hp} {xs : List V} {d : PD} (h : DVs S xs [d]) : ∃ v, xs = [v] ∧ DV S v d := by
  cases h with
  | cons hv ht =>
    cases ht
    exact ⟨_, rfl, hv⟩
def dEnL (td : TED) : TAD := fun ρ Q => td ρ fun d ρ1 => lstK d fun ds => Q (enumD ds) ρ1
theorem i_enumL {td : TED} {elts : List Expr} {kk : Nat} (hm : X.mg "enumerate" = none) (h : PED X e td) (hg : Gl X "enumerate" := by rfl) (hs : starEach [e] X.env = [(false, eval e X.env)] := by rfl) : PID X (.Tuple elts kk tpos) (.Call (.Name "enumerate" p) [e] [] pos) (dEnL td) :=
  impPI (pi_enum hg hm (pa_cons h pa_nil hs) hs) fun σ H R h => by
    obtain ⟨B, ρ, S, Q, E, h, k⟩ := h
    refine ⟨B, ρ, S, _, E, h, fun v H1 d ρ1 S1 E1 e1 hv h1 => ?_⟩
    obtain ⟨a, xs, ds, rfl, ha, hd, h1⟩ := lstK_of hv h1
    exact ⟨_, _, rfl, SqL.of (E1.sub _ _ ha), k _ H1 ρ1 S1 _ E1 e1 (yld_enum ha hd) h1⟩
def zipD (xs ys : List PD) : List PD := List.zipWith (fun x y => .tuple [x, y]) xs ys
theorem yld_zip {K : PySem.W.Frag} {S : Hp} {a b : Addr} {xs ys : List V} {ds es : List PD} (ha : S a = some (.lst xs)) (hd : DVs S xs ds) (hb : S b = some (.lst ys)) (he : DVs S ys es) : Yields S (Itz K a b) (zipD ds es) := by
  have hl : (zipD ds es).length = min xs.length ys.length := by unfold zipD; rw [List.length_zipWith, hd.length, he.length]
  have w := walk_zip (K := K) (a := a) (b := b) (xs := xs) (ys := ys) hl
  have G : ∀ H, Ex S H → SqL K H a xs ∧ SqL K H b ys := fun H e => ⟨SqL.of (e _ _ ha), SqL.of (e _ _ hb)⟩
  refine ⟨fun i H hi e => w.goes i H hi (G H e), fun H e => w.stops H (G H e), fun i H v H' hi e y => ?_⟩
  obtain ⟨T, x, z, h1, h2, h3, h4, h5⟩ := w.yields i H v H' hi (G H e) y
  obtain ⟨d, h6, h7⟩ := hd.get' i h4
  obtain ⟨d', h8, h9⟩ := he.get' i h5
  exact ⟨_, by unfold zipD; rw [List.getElem?_zipWith, h6, h8] <;> rfl, .inr ⟨T, _, _, h1, h2, h3, rfl, .cons h7 (.cons h9 .nil)⟩⟩
def dZip (ta tb : TED) : TAD := fun ρ Q => ta ρ fun x ρ1 => tb ρ1 fun y ρ2 => lstK x fun xs => lstK y fun ys => Q (zipD xs ys) ρ2
theorem i_zip {ta tb : TED} {elts : List Expr} {kk : Nat} (hm : X.mg "zip" = none) (ha : PED X a ta) (hb : PED X b tb) (hg : Gl X "zip" := by rfl) (hs : starEach [a, b] X.env = (false, eval a X.env) :: starEach [b] X.env := by rfl) (hs2 : starEach [b] X.env = [(false, eval b X.env)] := by rfl) (hpl : (backTo pos (starEach [b] X.env)).any (·.1) = false := by rfl) :
    PID X (.Tuple elts kk tpos) (.Call (.Name "zip" p) [a, b] [] pos) (dZip ta tb) := impPI (pi_zip hg hm (pa_cons ha (pa_cons hb pa_nil hs2) hs) hs hpl) fun σ H R h => by
    obtain ⟨B, ρ, S, Q, E, h, k⟩ := h
    refine ⟨B, ρ, S, _, E, h, fun v H1 d ρ1 S1 E1 e1 hv h1 => ⟨B, ρ1, S1, _, E1, h1, fun u H2 d' ρ2 S2 E2 e2 hu h2 => ?_⟩⟩
    obtain ⟨a, xs, ds, rfl, ha, hd, h2⟩ := lstK_of hv h2
    obtain ⟨b, ys, es, rfl, hb, he, h2⟩ := lstK_of hu h2
    exact ⟨_, _, _, _, rfl, SqL.of (E2.sub _ _ (e2 _ _ ha)), SqL.of (E2.sub _ _ hb), k _ H2 ρ2 S2 _ E2 (e1.trans e2) (yld_zip (e2 _ _ ha) (DVs.mono e2 _ _ hd) hb he) h2⟩
def rngD (lo : Int) (n : Nat) : List PD := (List.range n).map fun i : Nat => .int (lo + (i : Int))
theorem yld_rng {S : Hp} {lo : Int} {n : Nat} : Yields S (Itr lo n) (rngD lo n) := by
  have hl : (rngD lo n).length = n := by simp [rngD]
  refine ⟨fun i H hi _ => by rw [hl] at hi; exact hi, fun H _ => by rw [hl]; exact Nat.le_refl _, fun i H v H' hi _ y => ?_⟩
  rw [hl] at hi
  obtain ⟨h1, h2⟩ := y
  exact ⟨.int (lo + (i : Int)), by simp [rngD, hi], .inl ⟨h1, by rw [h2]; exact .int _⟩⟩
def dRng1 (td : TED) : TAD := fun ρ Q => td ρ fun d ρ1 => intK d fun n => (-1000000 ≤ n ∧ n ≤ 1000000) ∧ Q (rngD 0 n.toNat) ρ1
theorem i_rng1 {td : TED} (hm : X.mg "range" = none) (h : PED X e td) (hg : Gl X "range" := by rfl) (hs : starEach [e] X.env = [(false, eval e X.env)] := by rfl) : PID X tg (.Call (.Name "range" p) [e] [] pos) (dRng1 td) :=
  impPI (pi_range1 hg hm (pa_cons h pa_nil hs) hs) fun σ H R h => by
    obtain ⟨B, ρ, S, Q, E, h, k⟩ := h
    refine ⟨B, ρ, S, _, E, h, fun v H1 d ρ1 S1 E1 e1 hv h1 => ?_⟩
    obtain ⟨n, rfl, h1⟩ := intK_of hv h1
    exact ⟨n, rfl, by have := h1.1; omega, by have := h1.1; omega, k _ H1 ρ1 S1 _ E1 e1 yld_rng h1.2⟩
def dRng2 (ta tb : TED) : TAD := fun ρ Q => ta ρ fun x ρ1 => tb ρ1 fun y ρ2 => intK x fun lo => intK y fun hi => (-1000000 ≤ lo ∧ lo ≤ 1000000 ∧ -1000000 ≤ hi ∧ hi ≤ 1000000) ∧ Q (rngD lo (hi - lo).toNat) ρ2
theorem i_rng2 {ta tb : TED} (hm : X.mg "range" = none) (ha : PED X a ta) (hb : PED X b tb) (hg : Gl X "range" := by rfl) (hs : starEach [a, b] X.env = [(false, eval a X.env), (false, eval b X.env)] := by rfl) (hs2 : starEach [b] X.env = [(false, eval b X.env)] := by rfl) : PID X tg (.Call (.Name "range" p) [a, b] [] pos) (dRng2 ta tb) :=
  impPI (pi_range2 hg hm (pa_cons ha (pa_cons hb pa_nil hs2) (by rw [hs, hs2])) hs hs2) fun σ H R h => by
    obtain ⟨B, ρ, S, Q, E, h, k⟩ := h
    refine ⟨B, ρ, S, _, E, h, fun v H1 d ρ1 S1 E1 e1 hv h1 => ⟨B, ρ1, S1, _, E1, h1, fun u H2 d' ρ2 S2 E2 e2 hu h2 => ?_⟩⟩
    obtain ⟨n, rfl, h2⟩ := intK_of hv h2
    obtain ⟨m, rfl, h2⟩ := intK_of hu h2
    exact ⟨n, m, rfl, by have := h2.1; omega, k _ H2 ρ2 S2 _ E2 (e1.trans e2) yld_rng h2.2⟩
def signsD (z : Str) : List PD := z.cps.toList.map fun c => .str ⟨#[c]⟩
theorem yld_str {S : Hp} {z : Str} : Yields S (Its z) (signsD z) := by
  have hl : (signsD z).length = z.cps.size := by simp [signsD]
  have w := walk_str (z := z)
  rw [← hl] at w
  refine ⟨fun i H hi _ => w.goes i H hi True.intro, fun H _ => w.stops H True.intro, fun i H v H' hi _ y => ?_⟩
  obtain ⟨h1, c, h2, h3⟩ := w.yields i H v H' hi True.intro y
  have h4 : z.cps.toList[i]? = some c := by rw [Array.getElem?_toList]; exact h2
  exact ⟨.str ⟨#[c]⟩, by simp [signsD, h2], .inl ⟨h1, by rw [h3]; exact .str _⟩⟩
def dSgn (td : TED) : TAD := fun ρ Q => td ρ fun d ρ1 => strK d fun z => Q (signsD z) ρ1
theorem i_str {td : TED} (h : PED X e td) : PID X tg e (dSgn td) := impPI (pi_str h) fun σ H R h => by
  obtain ⟨B, ρ, S, Q, E, h, k⟩ := h
  refine ⟨B, ρ, S, _, E, h, fun v H1 d ρ1 S1 E1 e1 hv h1 => ?_⟩
  obtain ⟨z, rfl, h1⟩ := strK_of hv h1
  exact ⟨z, rfl, k _ H1 ρ1 S1 _ E1 e1 yld_str h1⟩
end
end CK
set_option Elab.async false
set_option linter.all false
set_option maxRecDepth 100000
set_option maxHeartbeats 2000000
namespace CK
open PySem PySem.Spec PyProof.Rows L2
open Evl (Ex ex_l ex_t fresh_back)
open C8 (Cal pe_c)

theorem wipe_in {σ : L2.St} {i : Nat} (hi : i < σ.length) : ∀ {vs : List Nat}, i ∈ vs → (L2.wipe σ vs)[i]? = some none
  | [], h => by cases h
  | v :: vs, h => by
    show ((L2.wipe σ vs).set v none)[i]? = some none
    by_cases q : v = i
    · subst q
      rw [List.getElem?_set_self (by rw [wipe_length]; exact hi)]
    · rw [List.getElem?_set_ne q]
      exact wipe_in hi (List.mem_of_ne_of_mem (Ne.symm q) h)
theorem wipe_idem (σ : L2.St) (vs : List Nat) : L2.wipe (L2.wipe σ vs) vs = L2.wipe σ vs := by
  refine List.ext_getElem? fun i => ?_
  by_cases h : i ∈ vs
  · by_cases hi : i < σ.length
    · rw [wipe_in (by rw [wipe_length]; exact hi) h, wipe_in hi h]
    · rw [List.getElem?_eq_none (by rw [wipe_length, wipe_length]; exact Nat.not_lt.mp hi), List.getElem?_eq_none (by rw [wipe_length]; exact Nat.not_lt.mp hi)]
  · rw [wipe_out h]
section
variable {X : Cx} {tg e a b iter elt : Expr} {es ifs : List Expr} {pos p p' tpos : Pos} {st : Stmt} {rest body : List Stmt}
/-! ### comprehensions -/
def lcW (g : TGD) (tt : TTD) (te : TED) (vs : List Nat) (fin : List PD → Rho → Prop) : List PD → List PD → Rho → Prop
  | [], acc, ρ => fin acc ρ
  | x :: xs, acc, ρ => g x ρ fun ρ1 => tt ρ1 fun b ρ2 => br b (te ρ2 fun y ρ3 => acc.length < 100000 ∧ lcW g tt te vs fin xs (acc ++ [y]) (wipeR ρ3 vs)) (lcW g tt te vs fin xs acc (wipeR ρ2 vs))
def dLc (wd : TAD) (g : TGD) (tt : TTD) (te : TED) (vs : List Nat) : TAD := fun ρ Q => wd ρ fun items ρ1 => lcW g tt te vs Q items [] (wipeR ρ1 vs)
/-- the turn's end -/
theorem lc_ind {g : TGD} {tt : TTD} {te : TED} {vs : List Nat} {fin : List PD → Rho → Prop} {B : Bs} {S1 H1 : Hp} {σ : L2.St} {ρ1 : Rho} {D : Addr} {J : It} {items : List PD} {Q : VK}
    (E1 : EnvB B S1 H1 σ ρ1) (hD : H1 D = none) (Y : Yields S1 J items) (hf : lcW g tt te vs fin items [] (wipeR ρ1 vs))
    (k : ∀ H ρ S acc ys, EnvB B S H σ ρ → Ex S1 S → H D = some (.lst ys) → S D = none → New B σ ρ D → DVs S ys acc → fin acc ρ → Q (.ref D) H) :
    ∃ W : Nat → Nat → Hp → Prop, (∃ m, W 0 m (upd H1 D (.lst []))) ∧ ∀ i m H, W i m H →
      (J.stop i H ∧ Q (.ref D) H) ∨ (J.go i H ∧ ∃ Nx : Hp → Prop, (∀ H', Nx H' → ∃ m', m' < m ∧ W (i + 1) m' H') ∧ ∀ x H', J.yld i H x H' → liftGv vs g x (L2.wipe σ vs) H' fun σ2 H2 => L2.wipe σ2 vs = L2.wipe σ vs ∧ liftT tt σ2 H2 fun b H3 =>
        if b = true then liftE te σ2 H3 fun y H4 => ∃ acc, H4 D = some (.lst acc) ∧ acc.length < sizeLine ∧ Nx (upd H4 D (.lst (acc ++ [y]))) else Nx H3) := by
  -- what holds between two turns
  let In : Nat → Hp → Prop := fun i H => ∃ ρ S acc ys, EnvB B S H (L2.wipe σ vs) ρ ∧ Ex S1 S ∧ H D = some (.lst ys) ∧ S D = none ∧ New B (L2.wipe σ vs) ρ D ∧ DVs S ys acc ∧ (∀ j, j ∈ vs → rget ρ j = .unk) ∧ lcW g tt te vs fin (items.drop i) acc ρ
  have hS : S1 D = none := fresh_back E1.sub hD
  have n1 := E1.new hD
  refine ⟨fun i m H => m = items.length - i ∧ i ≤ items.length ∧ In i H, ⟨items.length, by simp, Nat.zero_le _, ?_⟩, ?_⟩
  · have w := (E1.grow (Grow.lay1 (o := .lst []) E1.sub hD)).wipe vs
    have hH : upd H1 D (.lst []) D = some (.lst []) := upd_same
    refine ⟨_, S1, [], [], w, Ex.refl _, hH, hS, ?_, .nil, fun j hj => wipeR_unk hj, hf⟩
    refine ⟨n1.h, n1.dk, fun j oj hj => ?_⟩
    have q := (E1.wipe vs).ow_at oj hj
    obtain ⟨o, e⟩ := q.2.1
    rw [hD] at e
    cases e
  · rintro i m H ⟨rfl, hi, ρ, S, acc, ys, E, es, hH, hSD, n, hd, hu, hl⟩
    by_cases hlt : i < items.length
    · refine .inr ⟨Y.1 i H hlt (es.trans E.sub), In (i + 1), fun H' q => ⟨items.length - (i + 1), by omega, rfl, hlt, q⟩, fun x H' y => ?_⟩
      obtain ⟨d, h1, h2⟩ := Y.2.2 i H x H' hlt (es.trans E.sub) y
      have e0 : items.drop i = d :: items.drop (i + 1) := by
        rw [List.drop_eq_getElem_cons hlt]
        have := List.getElem?_eq_getElem hlt
        rw [h1] at this
        rw [← Option.some.inj this]
      rw [e0] at hl
      -- the item, the state with the new pair
      have key : ∃ S', EnvB B S' H' (L2.wipe σ vs) ρ ∧ Ex S S' ∧ DV S' x d ∧ H' D = some (.lst ys) ∧ S' D = none := by
        rcases h2 with ⟨rfl, hv⟩ | ⟨T, xs, ds, rfl, hT, rfl, rfl, hds⟩
        · exact ⟨S, E, Ex.refl _, DV.mono es _ _ hv, hH, hSD⟩
        · have gr := Grow.lay (o := .tup xs) E.sub hT
          have ne : D ≠ T := ne_of_none hH hT
          exact ⟨_, E.grow gr, gr.s, .tup upd_same (DVs.mono (es.trans gr.s) _ _ hds), by rw [upd_ne ne]; exact hH, by rw [upd_ne ne]; exact hSD⟩
      obtain ⟨S', E', es', hx, hH', hSD'⟩ := key
      have hBS : B.S D = none := fresh_back E.stp.s0 hSD
      have Eh := E'.hold hH' hSD' n
      refine ⟨B.hold D (.lst ys), ρ, S', _, d, Eh, hx, hl, fun σ2 H2 ρ2 S2 E2 e2 hw q2 => ⟨hw.trans (wipe_idem σ vs), B.hold D (.lst ys), ρ2, S2, _, E2, q2, fun c H3 ρ3 S3 E3 e3 q3 => ?_⟩⟩
      have again : ∀ {H ρ S acc zs}, EnvB B S H σ2 ρ → Ex S1 S → H D = some (.lst zs) → S D = none → New B σ2 ρ D → DVs S zs acc → lcW g tt te vs fin (items.drop (i + 1)) acc (wipeR ρ vs) → In (i + 1) H := fun {H ρ S acc zs} E es hH hS n hd hl => by
        have w := E.wipe vs
        rw [hw, wipe_idem] at w
        refine ⟨_, S, acc, zs, w, es, hH, hS, ⟨n.h, n.dk, fun j oj hj => ?_⟩, hd, fun j hj => wipeR_unk hj, hl⟩
        have out : j ∉ vs := fun z => by
          rw [wipeR_unk z] at oj
          cases oj
        have e1 : σ2[j]? = some (some (.ref D)) := by
          rw [← wipe_out out, hw, wipe_idem]
          exact hj
        have e2 : ∀ {us : List Nat}, j ∉ us → rget (wipeR ρ us) j = rget ρ j := fun {us} h => by
          induction us with
          | nil => rfl
          | cons u us ih =>
            show rget (rset (wipeR ρ us) u .unk) j = _
            rw [rget_set_ne (fun z => h (by rw [z]; exact List.mem_cons_self))]
            exact ih fun z => h (List.mem_cons_of_mem _ z)
        rw [e2 out] at oj
        exact n.no j oj e1
      cases c with
      | true =>
        refine iteT ⟨B.hold D (.lst ys), ρ3, S3, _, E3, q3.t, fun y H4 dy ρ4 S4 E4 e4 hy q4 => ?_⟩
        have hH4 := E4.held n.dk
        obtain ⟨E5, hS5, n5⟩ := E4.letgo n.dk n.h hBS
        refine ⟨ys, hH4, Nat.lt_of_lt_of_le (by rw [hd.length]; exact q4.1) (Evl.sz_of (Nat.le_refl _)), ?_⟩
        have ex : Ex S S4 := ((es'.trans e2).trans e3).trans e4
        exact again (E5.beside (o := .lst (ys ++ [y])) hS5 n5) (es.trans ex) upd_same hS5 n5 ((DVs.mono ex _ _ hd).append (.cons hy .nil)) q4.2
      | false =>
        have hH4 := E3.held n.dk
        obtain ⟨E5, hS5, n5⟩ := E3.letgo n.dk n.h hBS
        have ex : Ex S S3 := (es'.trans e2).trans e3
        exact iteF (again E5 (es.trans ex) hH4 hS5 n5 (DVs.mono ex _ _ hd) q3.f)
    · have e : i = items.length := by omega
      subst e
      rw [List.drop_length] at hl
      have E' := E.unwipe hu
      refine .inl ⟨Y.2.1 H (es.trans E.sub), k H ρ S acc ys E' es hH hSD ⟨n.h, n.dk, fun j oj hj => ?_⟩ hd hl⟩
      have out : j ∉ vs := fun z => by
        rw [hu j z] at oj
        cases oj
      exact n.no j oj (by rw [wipe_out out]; exact hj)
def PTsD (X : Cx) (ifs : List Expr) (td : TTD) : Prop := PTs X ifs (liftT td)
def dYes : TTD := fun ρ Q => Q true ρ
theorem ts_nil : PTsD X [] dYes := ⟨fun pins s σ H R I h => by
  obtain ⟨B, ρ, S, Q, E, h, k⟩ := h
  exact pts_nil.run pins s σ H R I (k true H ρ S E (Ex.refl _) h)⟩
theorem ts_one {t : TTD} (h : PTD X a t) : PTsD X [a] t := pts_one h
variable {scope : Scope} {own : List (Str × Nat)} {wd : TAD} {g : TGD} {tt : TTD} {te : TED} {vs : List Nat}
theorem o_lc (hc : X.calm = true) (hN : X.N.Nodup) (hi : PID X tg iter wd) (ok : BlkOk X.N X.env.scope scope own) (hv : own.map (·.2) = vs)
    (hg : ∀ (s : Shared) (H : Hp) (C : Addr) (cl : List (Str × Addr)) (fp : List Addr), PVD (X.blk s H scope (compEnvC scope cl C X.env) fp) tg vs g) (ht : ∀ (s : Shared) (H : Hp) (C : Addr) (cl : List (Str × Addr)) (fp : List Addr), PTsD (X.blk s H scope (compEnvC scope cl C X.env) fp) ifs tt)
    (he : ∀ (s : Shared) (H : Hp) (C : Addr) (cl : List (Str × Addr)) (fp : List Addr), PED (X.blk s H scope (compEnvC scope cl C X.env) fp) elt te) (hs : ∀ x, foldedSetIterable iter X.env x = pure x := by intro _; rfl) :
    POD X (.ListComp elt [⟨tg, iter, ifs, 0⟩] scope pos) (dLc wd g tt te vs) := impPE (pe_lc hc hN hi ok hg ht he hs) fun σ H R h => by
  obtain ⟨B, ρ, S, Q, E, h, k⟩ := h
  rw [hv]
  refine ⟨B, ρ, S, _, E, h, fun J H1 ρ1 S1 items E1 e1 Y hf D hD => ?_⟩
  exact lc_ind E1 hD Y hf fun H ρ' S' acc ys E' e' hH hS n hd q => k D ys H acc ρ' S' E' (e1.trans e') hS hH n hd q
/-- a new list of one's own, as a value -/
theorem p_own {t : TAD} (h : POD X e t) : PED X e (fun ρ Q => t ρ fun ds ρ1 => Q (.list ds) ρ1) := impPE h fun σ H R h => by
  obtain ⟨B, ρ, S, Q, E, h, k⟩ := h
  refine ⟨B, ρ, S, _, E, h, fun p xs H' ds ρ' S' E' e' hS hH n hd q => ?_⟩
  have ex : Ex S' (upd S' p (.lst xs)) := Ex.new hS
  exact k _ H' _ ρ' _ (E'.stand hH hS n) (e'.trans ex) (.lst upd_same (DVs.mono ex _ _ hd)) q
def dLcV (wd : TAD) (g : TGD) (tt : TTD) (te : TED) (vs : List Nat) : TED := fun ρ Q => dLc wd g tt te vs ρ fun ds ρ1 => Q (.list ds) ρ1
theorem p_lc (hc : X.calm = true) (hN : X.N.Nodup) (hi : PID X tg iter wd) (ok : BlkOk X.N X.env.scope scope own) (hv : own.map (·.2) = vs)
    (hg : ∀ (s : Shared) (H : Hp) (C : Addr) (cl : List (Str × Addr)) (fp : List Addr), PVD (X.blk s H scope (compEnvC scope cl C X.env) fp) tg vs g) (ht : ∀ (s : Shared) (H : Hp) (C : Addr) (cl : List (Str × Addr)) (fp : List Addr), PTsD (X.blk s H scope (compEnvC scope cl C X.env) fp) ifs tt)
    (he : ∀ (s : Shared) (H : Hp) (C : Addr) (cl : List (Str × Addr)) (fp : List Addr), PED (X.blk s H scope (compEnvC scope cl C X.env) fp) elt te) (hs : ∀ x, foldedSetIterable iter X.env x = pure x := by intro _; rfl) :
    PED X (.ListComp elt [⟨tg, iter, ifs, 0⟩] scope pos) (dLcV wd g tt te vs) := p_own (o_lc hc hN hi ok hv hg ht he hs)

/-! ### statements -/
theorem DEnds.eta (D : DEnds) : D = { nx := D.nx, rt := D.rt, bk := D.bk, ct := D.ct } := rfl
def dNext : TSD := fun D ρ => D.nx ρ
def dSeq (t u : TSD) : TSD := fun D ρ => t { D with nx := u D } ρ
theorem b_nil : PBD X [] dNext := impPSs pss_nil fun D σ H h => by
  obtain ⟨B, ρ, S, DD, E, h, kn, kb, kc, kr⟩ := h
  exact kn σ H ρ S E (Ex.refl _) h
theorem b_cons {t u : TSD} (h1 : PSD X st t) (h2 : PBD X rest u) : PBD X (st :: rest) (dSeq t u) := impPSs (pss_cons h1 h2) fun D σ H h => by
  obtain ⟨B, ρ, S, DD, E, h, kn, kb, kc, kr⟩ := h
  exact ⟨B, ρ, S, { DD with nx := u DD }, E, h, fun σ' H' ρ' S' E' e' q => ⟨B, ρ', S', DD, E', q, fun _ _ _ _ E2 e2 => kn _ _ _ _ E2 (e'.trans e2), fun _ _ _ _ E2 e2 => kb _ _ _ _ E2 (e'.trans e2), fun _ _ _ _ E2 e2 => kc _ _ _ _ E2 (e'.trans e2), fun _ _ _ _ _ _ E2 e2 => kr _ _ _ _ _ _ E2 (e'.trans e2)⟩, kb, kc, kr⟩
theorem b_one {t : TSD} (h1 : PSD X st t) : PBD X [st] t := pss_one h1
def dNever : TSD := fun _ _ => False
theorem b_never : PBD X rest dNever := impPSs pss_never fun D σ H h => by
  obtain ⟨B, ρ, S, DD, E, h, _⟩ := h
  exact h.elim
theorem t_never : PSD X st dNever := impPS ps_never fun D σ H h => by
  obtain ⟨B, ρ, S, DD, E, h, _⟩ := h
  exact h.elim
def dDrop (td : TED) : TSD := fun D ρ => td ρ fun _ ρ1 => D.nx ρ1
theorem t_expr {td : TED} (h : PED X e td) (hs : swapsWith e none pos.line X.env = pure false := by rfl) : PSD X (.Expr e pos) (dDrop td) := impPS (ps_expr h hs) fun D σ H h => by
  obtain ⟨B, ρ, S, DD, E, h, kn, kb, kc, kr⟩ := h
  exact ⟨B, ρ, S, _, E, h, fun v H' d ρ' S' E' e' hv q => kn σ H' ρ' S' E' e' q⟩
def dRet (td : TED) : TSD := fun D ρ => td ρ fun d ρ1 => D.rt (.dat d) ρ1
theorem t_ret {td : TED} (h : PED X e td) : PSD X (.Return (some e) pos) (dRet td) := impPS (ps_ret h) fun D σ H h => by
  obtain ⟨B, ρ, S, DD, E, h, kn, kb, kc, kr⟩ := h
  exact ⟨B, ρ, S, _, E, h, fun v H' d ρ' S' E' e' hv q => kr v (.dat d) σ H' ρ' S' E' e' ⟨v, rfl, hv⟩ q⟩
/-- a new list of one's own is handed back -/
def dRetO (td : TAD) : TSD := fun D ρ => td ρ fun d ρ1 => D.rt (.own d) ρ1
theorem t_retO {td : TAD} (h : POD X e td) : PSD X (.Return (some e) pos) (dRetO td) := impPS (ps_ret h) fun D σ H h => by
  obtain ⟨B, ρ, S, DD, E, h, kn, kb, kc, kr⟩ := h
  exact ⟨B, ρ, S, _, E, h, fun p xs H' d ρ' S' E' e' hS hH n hd q => kr (.ref p) (.own d) σ H' ρ' S' E' e' ⟨p, xs, rfl, hS, hH, hd, n.h, n.dk⟩ q⟩
/-- a dict at a slot is handed back -/
def dicOf : En → (List (Key × PD) → Prop) → Prop
  | .dic kvs, k => k kvs
  | _, _ => False
def dRetC (i : Nat) : TSD := fun D ρ => dicOf (rget ρ i) fun kvs => D.rt (.dic kvs) ρ
theorem t_retC (i : Nat) {x : Str} {px : Pos} (hN : X.N[i]? = some x := by rfl) (hv : Vis X.env.scope x := by first | exact Or.inl rfl | exact Or.inr (Or.inl rfl) | exact Or.inr (Or.inr rfl)) (hd : (x == ("__debug__" : Str)) = false := by decide)
    (hcd : (x == ("__classdict__" : Str)) = false := by decide) : PSD X (.Return (some (.Name x px)) pos) (dRetC i) := impPS (ps_ret (pe_var hN hv hd hcd)) fun D σ H h => by
  obtain ⟨B, ρ, S, DD, E, h, kn, kb, kc, kr⟩ := h
  unfold dRetC dicOf at h
  split at h
  · rename_i kvs e
    have q := E.ent i
    rw [e] at q
    obtain ⟨a, vs, h1, _⟩ := E.dic e
    rw [h1] at q
    exact ⟨_, h1, kr _ (.dic _) σ H ρ S E (Ex.refl _) q h⟩
  · exact h.elim
def dIfS (c : TTD) (t u : TSD) : TSD := fun D ρ => c ρ fun b ρ1 => br b (t D ρ1) (u D ρ1)
theorem t_if {c : Expr} {sa sb : List Stmt} {tc : TTD} {t u : TSD} (hc : PTD X c tc) (ha : PBD X sa t) (hb : PBD X sb u) : PSD X (.If c sa sb pos) (dIfS tc t u) := impPS (ps_if hc ha hb) fun D σ H h => by
  obtain ⟨B, ρ, S, DD, E, h, kn, kb, kc, kr⟩ := h
  refine ⟨B, ρ, S, _, E, h, fun c H1 ρ1 S1 E1 e1 q => ?_⟩
  cases c with
  | true => exact iteT ⟨B, ρ1, S1, DD, E1, q.t, fun _ _ _ _ E2 e2 => kn _ _ _ _ E2 (e1.trans e2), fun _ _ _ _ E2 e2 => kb _ _ _ _ E2 (e1.trans e2), fun _ _ _ _ E2 e2 => kc _ _ _ _ E2 (e1.trans e2), fun _ _ _ _ _ _ E2 e2 => kr _ _ _ _ _ _ E2 (e1.trans e2)⟩
  | false => exact iteF ⟨B, ρ1, S1, DD, E1, q.f, fun _ _ _ _ E2 e2 => kn _ _ _ _ E2 (e1.trans e2), fun _ _ _ _ E2 e2 => kb _ _ _ _ E2 (e1.trans e2), fun _ _ _ _ E2 e2 => kc _ _ _ _ E2 (e1.trans e2), fun _ _ _ _ _ _ E2 e2 => kr _ _ _ _ _ _ E2 (e1.trans e2)⟩
def dSet (td : TED) (i : Nat) : TSD := fun D ρ => td ρ fun d ρ1 => D.nx (rset ρ1 i (.dat d))
theorem t_set (i : Nat) {x : Str} {px : Pos} {td : TED} (hN : X.N.Nodup) (h : PED X e td) (hi : X.N[i]? = some x := by rfl) (hx : Loc X.env.scope x := by first | exact Or.inl rfl | exact Or.inr rfl) (hs : swapsWith e (some (.Name x px)) pos.line X.env = pure false := by rfl)
    (hf : X.fn x = true ∨ X.env.scope.names.lookup x = some .local := by first | exact .inl rfl | exact .inr rfl | assumption) : PSD X (.Assign [.Name x px] e pos) (dSet td i) := impPS (ps_set hN hi hx h hs hf) fun D σ H h => by
  obtain ⟨B, ρ, S, DD, E, h, kn, kb, kc, kr⟩ := h
  exact ⟨B, ρ, S, _, E, h, fun v H' d ρ' S' E' e' hv q => kn _ H' _ S' (E'.put_dat i hv) e' q⟩
def dSetO (td : TAD) (i : Nat) : TSD := fun D ρ => td ρ fun d ρ1 => D.nx (rset ρ1 i (.own d))
theorem put_own {B : Bs} {S H : Hp} {σ : L2.St} {ρ : Rho} {p : Addr} {xs : List V} {ds : List PD} (E : EnvB B S H σ ρ) (i : Nat) (hS : S p = none) (hH : H p = some (.lst xs)) (n : New B σ ρ p) (hd : DVs S xs ds) : EnvB B S H (σ.set i (some (.ref p))) (rset ρ i (.own ds)) :=
  E.put i ⟨p, xs, rfl, hS, hH, hd, n.h, n.dk⟩ fun _ a j ha hj oj hσ => by
    cases ha
    exact n.no j oj hσ
theorem put_dic {B : Bs} {S H : Hp} {σ : L2.St} {ρ : Rho} {p : Addr} {xs : List (Key × V)} {ds : List (Key × PD)} (E : EnvB B S H σ ρ) (i : Nat) (hS : S p = none) (hH : H p = some (.dK xs)) (n : New B σ ρ p) (hd : DKV S xs ds) : EnvB B S H (σ.set i (some (.ref p))) (rset ρ i (.dic ds)) :=
  E.put i ⟨p, xs, rfl, hS, hH, hd, n.h, n.dk⟩ fun _ a j ha hj oj hσ => by
    cases ha
    exact n.no j oj hσ
theorem t_setO (i : Nat) {x : Str} {px : Pos} {td : TAD} (hN : X.N.Nodup) (h : POD X e td) (hi : X.N[i]? = some x := by rfl) (hx : Loc X.env.scope x := by first | exact Or.inl rfl | exact Or.inr rfl) (hs : swapsWith e (some (.Name x px)) pos.line X.env = pure false := by rfl)
    (hf : X.fn x = true ∨ X.env.scope.names.lookup x = some .local := by first | exact .inl rfl | exact .inr rfl | assumption) : PSD X (.Assign [.Name x px] e pos) (dSetO td i) := impPS (ps_set hN hi hx h hs hf) fun D σ H h => by
  obtain ⟨B, ρ, S, DD, E, h, kn, kb, kc, kr⟩ := h
  exact ⟨B, ρ, S, _, E, h, fun p xs H' d ρ' S' E' e' hS hH n hd q => kn _ H' _ S' (put_own E' i hS hH n hd) e' q⟩
def dSetD (td : Rho → (List (Key × PD) → Rho → Prop) → Prop) (i : Nat) : TSD := fun D ρ => td ρ fun d ρ1 => D.nx (rset ρ1 i (.dic d))
theorem t_setD (i : Nat) {x : Str} {px : Pos} {td : Rho → (List (Key × PD) → Rho → Prop) → Prop} (hN : X.N.Nodup) (h : PDD X e td) (hi : X.N[i]? = some x := by rfl) (hx : Loc X.env.scope x := by first | exact Or.inl rfl | exact Or.inr rfl) (hs : swapsWith e (some (.Name x px)) pos.line X.env = pure false := by rfl)
    (hf : X.fn x = true ∨ X.env.scope.names.lookup x = some .local := by first | exact .inl rfl | exact .inr rfl | assumption) : PSD X (.Assign [.Name x px] e pos) (dSetD td i) := impPS (ps_set hN hi hx h hs hf) fun D σ H h => by
  obtain ⟨B, ρ, S, DD, E, h, kn, kb, kc, kr⟩ := h
  exact ⟨B, ρ, S, _, E, h, fun p xs H' d ρ' S' E' e' hS hH n hd q => kn _ H' _ S' (put_dic E' i hS hH n hd) e' q⟩
/-- x = [.. for ..], x a plain local -/
theorem sim_lc {B : Bs} {S1 H1 : Hp} {σ : L2.St} {ρ1 : Rho} {D : Addr} {xs : List V} {acc : List PD} {ρ' : Rho} {S' H' : Hp} (E' : EnvB B S' H' σ ρ') (hS : S' D = none) (hH : H' D = some (.lst xs)) (n : New B σ ρ' D) (hd : DVs S' xs acc) (i : Nat) : EnvB B (upd S' D (.lst xs)) H' (σ.set i (some (.ref D))) (rset ρ' i (.dat (.list acc))) := by
  have ex : Ex S' (upd S' D (.lst xs)) := Ex.new hS
  exact (E'.stand hH hS n).put_dat i (.lst upd_same (DVs.mono ex _ _ hd))
theorem t_setLc (i : Nat) {y : Str} {py spos : Pos} (hc : X.calm = true) (hN : X.N.Nodup) (hi : PID X tg iter wd) (ok : BlkOk X.N X.env.scope scope own) (hv : own.map (·.2) = vs)
    (hg : ∀ (s : Shared) (H : Hp) (C : Addr) (cl : List (Str × Addr)) (fp : List Addr), PVD (X.blk s H scope (compEnvC scope cl C X.env) fp) tg vs g) (ht : ∀ (s : Shared) (H : Hp) (C : Addr) (cl : List (Str × Addr)) (fp : List Addr), PTsD (X.blk s H scope (compEnvC scope cl C X.env) fp) ifs tt)
    (he : ∀ (s : Shared) (H : Hp) (C : Addr) (cl : List (Str × Addr)) (fp : List Addr), PED (X.blk s H scope (compEnvC scope cl C X.env) fp) elt te)
    (hsw : swapsWith (.ListComp elt [⟨tg, iter, ifs, 0⟩] scope pos) (some (.Name y py)) spos.line X.env = pure true := by exact sw_true rfl rfl rfl (by decide +kernel)) (hy : X.N[i]? = some y := by rfl) (hyl : X.env.scope.names.lookup y = some .local := by rfl) (hs : ∀ x, foldedSetIterable iter X.env x = pure x := by intro _; rfl) :
    PSD X (.Assign [.Name y py] (.ListComp elt [⟨tg, iter, ifs, 0⟩] scope pos) spos) (dSet (dLcV wd g tt te vs) i) := impPS (ps_setLc hc hN hy hyl hsw hi ok hg ht he hs) fun D σ H h => by
  obtain ⟨B, ρ, S, DD, E, h, kn, kb, kc, kr⟩ := h
  rw [hv]
  refine ⟨B, ρ, S, _, E, h, fun J H1 ρ1 S1 items E1 e1 Y hf L hL => ?_⟩
  exact lc_ind (Q := fun v H1 => gName i v σ H1 D.nx) E1 hL Y hf fun H ρ' S' acc ys E' e' hH hS n hd q => kn _ H _ _ (sim_lc (S1 := S1) (H1 := H1) (ρ1 := ρ1) E' hS hH n hd i) ((e1.trans e').trans (Ex.new hS)) q
theorem t_setLcO (i : Nat) {y : Str} {py spos : Pos} (hc : X.calm = true) (hN : X.N.Nodup) (hi : PID X tg iter wd) (ok : BlkOk X.N X.env.scope scope own) (hv : own.map (·.2) = vs)
    (hg : ∀ (s : Shared) (H : Hp) (C : Addr) (cl : List (Str × Addr)) (fp : List Addr), PVD (X.blk s H scope (compEnvC scope cl C X.env) fp) tg vs g) (ht : ∀ (s : Shared) (H : Hp) (C : Addr) (cl : List (Str × Addr)) (fp : List Addr), PTsD (X.blk s H scope (compEnvC scope cl C X.env) fp) ifs tt)
    (he : ∀ (s : Shared) (H : Hp) (C : Addr) (cl : List (Str × Addr)) (fp : List Addr), PED (X.blk s H scope (compEnvC scope cl C X.env) fp) elt te)
    (hsw : swapsWith (.ListComp elt [⟨tg, iter, ifs, 0⟩] scope pos) (some (.Name y py)) spos.line X.env = pure true := by exact sw_true rfl rfl rfl (by decide +kernel)) (hy : X.N[i]? = some y := by rfl) (hyl : X.env.scope.names.lookup y = some .local := by rfl) (hs : ∀ x, foldedSetIterable iter X.env x = pure x := by intro _; rfl) :
    PSD X (.Assign [.Name y py] (.ListComp elt [⟨tg, iter, ifs, 0⟩] scope pos) spos) (dSetO (dLc wd g tt te vs) i) := impPS (ps_setLc hc hN hy hyl hsw hi ok hg ht he hs) fun D σ H h => by
  obtain ⟨B, ρ, S, DD, E, h, kn, kb, kc, kr⟩ := h
  rw [hv]
  refine ⟨B, ρ, S, _, E, h, fun J H1 ρ1 S1 items E1 e1 Y hf L hL => ?_⟩
  exact lc_ind (Q := fun v H1 => gName i v σ H1 D.nx) E1 hL Y hf fun H ρ' S' acc ys E' e' hH hS n hd q => kn _ H _ _ (put_own E' i hS hH n hd) (e1.trans e') q
/-- own lists and dicts as they are made -/
theorem o_lst {t : TAD} (h : PAD X es t) : POD X (.List es pos) (oLst t) := impPE (pe_lst h) fun σ H R h => by
  obtain ⟨B, ρ, S, Q, E, h, k⟩ := h
  refine ⟨B, ρ, S, _, E, h, fun xs H1 ds ρ1 S1 E1 e1 hx h1 => ⟨len_small (by rw [hx.length]; exact h1.1), fun p hp => ?_⟩⟩
  exact k p xs _ ds ρ1 S1 (E1.grow (Grow.lay1 E1.sub hp)) e1 (fresh_back E1.sub hp) upd_same (E1.new hp) hx h1.2
theorem d_new : PDD X (.Dict [] [] pos) (fun ρ Q => Q [] ρ) := impPE pe_dnewK fun σ H R h => by
  obtain ⟨B, ρ, S, Q, E, h, k⟩ := h
  intro p hp
  exact k p [] _ [] ρ S (E.grow (Grow.lay1 E.sub hp)) (Ex.refl _) (fresh_back E.sub hp) upd_same (E.new hp) .nil h
def wListO : List PD → (List PD → Prop) → Prop
  | [.list xs], k => k xs
  | [.tuple xs], k => k xs
  | _, _ => False
def oList (t : TAD) : TAD := fun ρ Q => t ρ fun ds ρ1 => wListO ds fun xs => Q xs ρ1
theorem o_list {t : TAD} (hm : X.mg "list" = none) (ha : PAD X [e] t) (hg : Gl X "list" := by rfl) (he : starEach [e] X.env = (false, eval e X.env) :: starEach [] X.env := by rfl) (hpl : (backTo pos (starEach [] X.env)).any (·.1) = false := by rfl) : POD X (.Call (.Name "list" p) [e] [] pos) (oList t) :=
  impPE (pe_callTy call_list_of hg hm (by decide +kernel) ha (by decide) (by decide) he hpl) fun σ H R h => by
    obtain ⟨B, ρ, S, Q, E, h, k⟩ := h
    refine ⟨B, ρ, S, _, E, h, fun xs H1 ds ρ1 S1 E1 e1 hx h1 => ?_⟩
    have h2 : wList ds fun d => ∃ es, d = .list es ∧ Q es ρ1 := by
      unfold wList
      unfold wListO at h1
      split at h1
      · exact ⟨_, rfl, h1⟩
      · exact ⟨_, rfl, h1⟩
      · exact h1.elim
    obtain ⟨a, ys, es, rfl, q1, q2, es', e3, q3⟩ := list_src (K := X.K) E1.sub hx h2
    cases e3
    refine ⟨a, ys, rfl, q1, fun l hl => ?_⟩
    exact k l ys _ es ρ1 S1 (E1.grow (Grow.lay1 E1.sub hl)) e1 (fresh_back E1.sub hl) upd_same (E1.new hl) q2 q3
/-! ### loops -/
def forW (g : TGD) (tb : TSD) (D : DEnds) : List PD → Rho → Prop
  | [], ρ => D.nx ρ
  | x :: xs, ρ => g x ρ fun ρ1 => tb { D with nx := forW g tb D xs, ct := forW g tb D xs, bk := D.nx } ρ1
def dFor (wd : TAD) (g : TGD) (tb : TSD) : TSD := fun D ρ => wd ρ fun items ρ1 => forW g tb D items ρ1
theorem t_for {tb : TSD} (hp : PassesOwn (model X.prog X.w) X.A X.env X.xe) (hc : X.calm = true) (hi : PID X tg iter wd) (hg : PVD X tg vs g) (hb : PBD X body tb)
    (hs : ∀ x, foldedSetIterable iter X.env x = pure x := by intro _; rfl) : PSD X (.For tg iter body [] pos) (dFor wd g tb) := impPS (ps_for hp hc hi hg hb hs) fun D σ H h => by
  obtain ⟨B, ρ, S, DD, E, h, kn, kb, kc, kr⟩ := h
  refine ⟨B, ρ, S, _, E, h, fun J H1 ρ1 S1 items E1 e1 Y hf => ?_⟩
  let In : Nat → L2.St → Hp → Prop := fun i σ H => ∃ ρ S, EnvB B S H σ ρ ∧ Ex S1 S ∧ forW g tb DD (items.drop i) ρ
  refine ⟨fun i m σ H => m = items.length - i ∧ i ≤ items.length ∧ In i σ H, ⟨items.length, by simp, Nat.zero_le _, ρ1, S1, E1, Ex.refl _, hf⟩, ?_⟩
  rintro i m σ H ⟨rfl, hi, ρ, S, E, es, hl⟩
  by_cases hlt : i < items.length
  · refine .inr ⟨Y.1 i H hlt (es.trans E.sub), In (i + 1), fun σ' H' q => ⟨items.length - (i + 1), by omega, rfl, hlt, q⟩, fun x H' y => ?_⟩
    obtain ⟨d, h1, h2⟩ := Y.2.2 i H x H' hlt (es.trans E.sub) y
    have e0 : items.drop i = d :: items.drop (i + 1) := by
      rw [List.drop_eq_getElem_cons hlt]
      have := List.getElem?_eq_getElem hlt
      rw [h1] at this
      rw [← Option.some.inj this]
    rw [e0] at hl
    have key : ∃ S', EnvB B S' H' σ ρ ∧ Ex S S' ∧ DV S' x d := by
      rcases h2 with ⟨rfl, hv⟩ | ⟨T, xs, ds, rfl, hT, rfl, rfl, hds⟩
      · exact ⟨S, E, Ex.refl _, DV.mono es _ _ hv⟩
      · have gr := Grow.lay (o := .tup xs) E.sub hT
        exact ⟨_, E.grow gr, gr.s, .tup upd_same (DVs.mono (es.trans gr.s) _ _ hds)⟩
    obtain ⟨S', E', es', hx⟩ := key
    refine ⟨B, ρ, S', _, d, E', hx, hl, fun σ2 H2 ρ2 S2 E2 e2 _ q2 => ?_⟩
    have ex : Ex S1 S2 := (es.trans es').trans e2
    have nxt : ∀ σ' H' ρ' S', EnvB B S' H' σ' ρ' → Ex S2 S' → forW g tb DD (items.drop (i + 1)) ρ' → In (i + 1) σ' H' := fun σ' H' ρ' S3 E3 e3 q3 => ⟨ρ', S3, E3, ex.trans e3, q3⟩
    exact ⟨B, ρ2, S2, _, E2, q2, nxt, fun σ' H' ρ' S' E' e3 q => kn σ' H' ρ' S' E' ((e1.trans ex).trans e3) q, nxt, fun v e σ' H' ρ' S' E' e3 => kr v e σ' H' ρ' S' E' ((e1.trans ex).trans e3)⟩
  · have e : i = items.length := by omega
    subst e
    rw [List.drop_length] at hl
    exact .inl ⟨Y.2.1 H (es.trans E.sub), kn σ H ρ S E (e1.trans es) hl⟩
end
end CK
set_option Elab.async false
set_option linter.all false
set_option maxRecDepth 100000
set_option maxHeartbeats 2000000
namespace CK
open PySem PySem.Spec PyProof.Rows L2
open Evl (Ex ex_l ex_t fresh_back)
open C8 (Cal pe_c)

section
variable {X : Cx} {tg e a b iter elt : Expr} {es ifs : List Expr} {pos p p' tpos : Pos} {st : Stmt} {rest body : List Stmt}
/-- while, by a word with a measure -/
def dWhile (c : TTD) (tb : TSD) : TSD := fun D ρ => ∃ W : Nat → Rho → Prop, (∃ m, W m ρ) ∧ ∀ m ρ, W m ρ → c ρ fun b ρ1 => br b (tb { D with nx := fun ρ' => ∃ m', m' < m ∧ W m' ρ', ct := fun ρ' => ∃ m', m' < m ∧ W m' ρ', bk := D.nx } ρ1) (D.nx ρ1)
theorem t_while {c : Expr} {tc : TTD} {tb : TSD} (hp : PassesOwn (model X.prog X.w) X.A X.env X.xe) (hc : PTD X c tc) (hb : PBD X body tb) : PSD X (.While c body [] pos) (dWhile tc tb) := impPS (ps_while hp hc hb) fun D σ H h => by
  obtain ⟨B, ρ, S, DD, E, ⟨W, ⟨m0, w0⟩, turn⟩, kn, kb, kc, kr⟩ := h
  refine ⟨fun m σ' H' => ∃ ρ' S', EnvB B S' H' σ' ρ' ∧ Ex S S' ∧ W m ρ', ⟨m0, ρ, S, E, Ex.refl _, w0⟩, ?_⟩
  rintro m σ1 H1 ⟨ρ1, S1, E1, e1, w1⟩
  refine ⟨B, ρ1, S1, _, E1, turn m ρ1 w1, fun c H2 ρ2 S2 E2 e2 q => ?_⟩
  cases c with
  | true =>
    refine iteT ⟨fun σ' H' => ∃ m', m' < m ∧ ∃ ρ' S', EnvB B S' H' σ' ρ' ∧ Ex S S' ∧ W m' ρ', fun σ' H' q => q, ?_⟩
    exact ⟨B, ρ2, S2, _, E2, q.t, fun σ' H' ρ' S' E' e' ⟨m', hm, w'⟩ => ⟨m', hm, ρ', S', E', (e1.trans e2).trans e', w'⟩, fun σ' H' ρ' S' E' e' q => kn σ' H' ρ' S' E' ((e1.trans e2).trans e') q,
      fun σ' H' ρ' S' E' e' ⟨m', hm, w'⟩ => ⟨m', hm, ρ', S', E', (e1.trans e2).trans e', w'⟩, fun v e σ' H' ρ' S' E' e' => kr v e σ' H' ρ' S' E' ((e1.trans e2).trans e')⟩
  | false => exact iteF (kn σ1 H2 ρ2 S2 E2 (e1.trans e2) q.f)
/-- xs.append(e), xs one's own -/
def dApp (i : Nat) (te : TED) : TSD := fun D ρ => dkOf (rget ρ i) (fun _ _ => True) ∧ te ρ fun d ρ1 => dkOf (rget ρ1 i) fun ds c => ds.length < 100000 ∧ D.nx (rset ρ1 i (c (ds ++ [d])))
theorem t_app (i : Nat) {x : Str} {px apos cpos : Pos} {te : TED} (he : PED X e te) (hN : X.N[i]? = some x := by rfl) (hv : Vis X.env.scope x := by first | exact Or.inl rfl | exact Or.inr (Or.inl rfl) | exact Or.inr (Or.inr rfl)) (hd : (x == ("__debug__" : Str)) = false := by decide)
    (hcd : (x == ("__classdict__" : Str)) = false := by decide) (hbase : attributeBase (.Name x px) "append" X.env (eval (.Name x px) X.env) = eval (.Name x px) X.env := by rfl)
    (hfew : ((backTo cpos (starEach [e] X.env)).all (fun x => !x.1) && (backToKw cpos (keywordEach [] X.env)).all (fun x => x.1.isSome)
      && decide (([e] : List Expr).length + ([] : List Keyword).length + (if ([] : List Keyword).isEmpty then 0 else 1) < 30)) = true := by rfl)
    (hline : (apos.endLine == cpos.line) = true := by rfl) (hs : starEach [e] X.env = (false, eval e X.env) :: starEach [] X.env := by rfl) (hplain : (backTo cpos (starEach [] X.env)).any (·.1) = false := by rfl)
    (hsw : swapsWith (.Call (.Attribute (.Name x px) "append" apos) [e] [] cpos) none pos.line X.env = pure false := by rfl) : PSD X (.Expr (.Call (.Attribute (.Name x px) "append" apos) [e] [] cpos) pos) (dApp i te) :=
  impPS (ps_expr (pe_bm PySem.F.plainAttrs_list PySem.F.slot_list_append PySem.F.type_list_append mt_append (pe_var hN hv hd hcd) (pa_cons he pa_nil hs) hbase hfew hline hs hplain) hsw) fun D σ H h => by
    obtain ⟨B, ρ, S, DD, E, ⟨h0, h⟩, kn, kb, kc, kr⟩ := h
    obtain ⟨a, xs0, _, _, ha, _, hH0, _⟩ := dkOf_at E h0
    refine ⟨.ref a, ha, .inl ⟨rfl, xs0, SqL.of hH0⟩, B, ρ, S, _, E, h, fun v H1 d ρ1 S1 E1 e1 hv h1 => ?_⟩
    obtain ⟨a', xs, ds, c, ha', hS, hH, hds, ow, ⟨hl, h2⟩, mk⟩ := dkOf_at E1 h1
    rw [ha] at ha'
    cases ha'
    refine ⟨a, xs, v, rfl, rfl, hH, Nat.lt_of_lt_of_le (by rw [hds.length]; exact hl) (Evl.sz_of (Nat.le_refl _)), ?_⟩
    have ho := (E1.ow_at ow ha).2.2
    refine kn σ _ _ S1 (E1.turn i (E1.stp.change hS ho) ?_ (fun _ => ow) (E1.others ow ha)) e1 h2
    rw [show σ[i]?.getD none = some (.ref a) by rw [ha]; rfl]
    exact mk S1 _ _ _ hS upd_same (hds.append (.cons hv .nil))
/-- xs[j] = e, xs one's own -/
def dSetI (i : Nat) (tj te : TED) : TSD := fun D ρ => te ρ fun d ρ1 => dkOf (rget ρ1 i) (fun _ _ => True) ∧ tj ρ1 fun y ρ2 => dkOf (rget ρ2 i) fun ds c => intK y fun k => ∃ j, ixN ds.length k = some j ∧ D.nx (rset ρ2 i (c (ds.set j d)))
theorem t_setI (i : Nat) {x : Str} {px spos : Pos} {ej : Expr} {tj te : TED} (he : PED X e te) (hj : PED X ej tj) (hN : X.N[i]? = some x := by rfl) (hv : Vis X.env.scope x := by first | exact Or.inl rfl | exact Or.inr (Or.inl rfl) | exact Or.inr (Or.inr rfl)) (hd : (x == ("__debug__" : Str)) = false := by decide)
    (hcd : (x == ("__classdict__" : Str)) = false := by decide) (ha : ∀ v, assign (.Subscript (.Name x px) ej spos) X.env v = (do
      let ov ← holding [v] (eval (.Name x px) X.env)
      let iv ← holding [v, ov] (eval ej X.env)
      standAt spos
      holding [v, ov, iv] (setItem ov iv v)
      release [v, ov, iv] []) := by intro _; rfl)
    (hs : swapsWithSole [.Subscript (.Name x px) ej spos] e pos.line X.env = pure false := by rfl) (hw : swappedStores [.Subscript (.Name x px) ej spos] e X.env = pure none := by rfl)
    (h1 : (assignEach [.Subscript (.Name x px) ej spos] X.env).map (·.2) = [assign (.Subscript (.Name x px) ej spos) X.env] := by rfl) : PSD X (.Assign [.Subscript (.Name x px) ej spos] e pos) (dSetI i tj te) :=
  impPS (ps_asg he (pg_sub (pe_var hN hv hd hcd) hj set_list ha) hs hw h1) fun D σ H h => by
    obtain ⟨B, ρ, S, DD, E, h, kn, kb, kc, kr⟩ := h
    refine ⟨B, ρ, S, _, E, h, fun v H1 d ρ1 S1 E1 e1 hv ⟨h0, h1⟩ => ?_⟩
    obtain ⟨a, _, _, _, ha, _⟩ := dkOf_at E1 h0
    refine ⟨.ref a, ha, B, ρ1, S1, _, E1, h1, fun y H2 dy ρ2 S2 E2 e2 hy h2 => ?_⟩
    obtain ⟨a', xs, ds, c, ha', hS, hH, hds, ow, h3, mk⟩ := dkOf_at E2 h2
    rw [ha] at ha'
    cases ha'
    obtain ⟨k, rfl, j, h4, h5⟩ := intK_of hy h3
    refine ⟨a, xs, k, j, rfl, rfl, hH, by rw [hds.length]; exact h4, ?_⟩
    have ho := (E2.ow_at ow ha).2.2
    refine kn σ _ _ S2 (E2.turn i (E2.stp.change hS ho) ?_ (fun _ => ow) (E2.others ow ha)) (e1.trans e2) h5
    rw [show σ[i]?.getD none = some (.ref a) by rw [ha]; rfl]
    exact mk S2 _ _ _ hS upd_same (DVs.set (DV.mono e2 _ _ hv) j hds)
/-- a, b = e1, e2 -/
def dPar (i j : Nat) (ta tb : TED) : TSD := fun D ρ => ta ρ fun x ρ1 => tb ρ1 fun y ρ2 => D.nx (rset (rset ρ2 i (.dat x)) j (.dat y))
theorem t_par (i j : Nat) {x y : Str} {px py pt pt2 : Pos} {kt k2} {ta tb : TED} (hc : X.calm = true) (hN : X.N.Nodup) (ha : PED X a ta) (hb : PED X b tb) (hi : X.N[i]? = some x := by rfl) (hj : X.N[j]? = some y := by rfl) (hij : i ≠ j := by decide)
    (hx : X.env.scope.names.lookup x = some .local := by rfl) (hy : X.env.scope.names.lookup y = some .local := by rfl) (hw : swappedStores [.Tuple [.Name x px, .Name y py] kt pt] (.Tuple [a, b] k2 pt2) X.env = pure (some [x, y]) := by rfl)
    (hs : swapsWithSole [.Tuple [.Name x px, .Name y py] kt pt] (.Tuple [a, b] k2 pt2) pos.line X.env = pure false := by rfl) (h1 : starEach [a, b] X.env = (false, eval a X.env) :: starEach [b] X.env := by rfl) (h2 : starEach [b] X.env = (false, eval b X.env) :: starEach [] X.env := by rfl) :
    PSD X (.Assign [.Tuple [.Name x px, .Name y py] kt pt] (.Tuple [a, b] k2 pt2) pos) (dPar i j ta tb) := impPS (ps_par hc hN hi hj hij hx hy (pa_cons ha (pa_cons hb pa_nil h2) h1) hw hs) fun D σ H h => by
  obtain ⟨B, ρ, S, DD, E, h, kn, kb, kc, kr⟩ := h
  refine ⟨B, ρ, S, _, E, h, fun v H1 d ρ1 S1 E1 e1 hv h1 => ⟨B, ρ1, S1, _, E1, h1, fun u H2 d' ρ2 S2 E2 e2 hu h2 => ?_⟩⟩
  exact ⟨v, u, rfl, kn _ H2 _ S2 ((E2.put_dat i (DV.mono e2 _ _ hv)).put_dat j hu) (e1.trans e2) h2⟩
/-- a, b = e, a tuple -/
def dUnp (i j : Nat) (te : TED) : TSD := fun D ρ => te ρ fun d ρ1 => gP i j d ρ1 D.nx
theorem t_unp {vs : List Nat} {g : TGD} {te : TED} (he : PED X e te) (hg : PVD X tg vs g) (hs : swapsWithSole [tg] e pos.line X.env = pure false := by rfl) (hw : swappedStores [tg] e X.env = pure none := by rfl)
    (h1 : (assignEach [tg] X.env).map (·.2) = [assign tg X.env] := by rfl) : PSD X (.Assign [tg] e pos) (fun D ρ => te ρ fun d ρ1 => g d ρ1 D.nx) := impPS (ps_asg he hg hs hw h1) fun D σ H h => by
  obtain ⟨B, ρ, S, DD, E, h, kn, kb, kc, kr⟩ := h
  refine ⟨B, ρ, S, _, E, h, fun v H1 d ρ1 S1 E1 e1 hv h1 => ?_⟩
  exact ⟨B, ρ1, S1, _, d, E1, hv, h1, fun σ' H' ρ' S' E' e' _ q => kn σ' H' ρ' S' E' (e1.trans e') q⟩

/-! ### dicts of one's own -/
def keyD : PD → Option Key
  | .int i => some (.inl i)
  | .str x => some (.inr x)
  | _ => none
def valD (kvs : List (Key × PD)) (k : Key) : Option PD := (kvs.find? fun kv => decide (kv.1 = k)).map (·.2)
def putD (kvs : List (Key × PD)) (k : Key) (v : PD) : List (Key × PD) :=
  if (kvs.any fun kv => decide (kv.1 = k)) = true then kvs.map (fun kv => if kv.1 = k then (kv.1, v) else kv) else kvs ++ [(k, v)]
theorem keyD_of {S : Hp} {v : V} {d : PD} {k : Key} (h : DV S v d) (e : keyD d = some k) : v = kV k := by
  cases h <;> first | cases e; rfl | cases e
theorem valD_of {S : Hp} {k : Key} : ∀ {vs : List (Key × V)} {kvs : List (Key × PD)} {d : PD}, DKV S vs kvs → valD kvs k = some d → ∃ v, valV vs k = some v ∧ DV S v d
  | _, _, _, .nil, e => by cases e
  | (k1, v) :: vs, (k2, d2) :: kvs, d, .cons h t, e => by
    have h1 : k1 = k2 := h.1
    subst h1
    by_cases q : k1 = k
    · subst q
      have e2 : valD ((k1, d2) :: kvs) k1 = some d2 := by simp [valD]
      rw [e2] at e
      cases e
      exact ⟨v, valV_pos rfl, h.2⟩
    · have e2 : valD ((k1, d2) :: kvs) k = valD kvs k := by simp [valD, List.find?_cons, q]
      rw [e2] at e
      obtain ⟨u, h3, h4⟩ := valD_of t e
      exact ⟨u, by rw [valV_neg (by exact q)]; exact h3, h4⟩
theorem valD_none {S : Hp} {k : Key} : ∀ {vs : List (Key × V)} {kvs : List (Key × PD)}, DKV S vs kvs → valD kvs k = none → valV vs k = none
  | _, _, .nil, e => rfl
  | (k1, v) :: vs, (k2, d2) :: kvs, .cons h t, e => by
    have h1 : k1 = k2 := h.1
    subst h1
    by_cases q : k1 = k
    · subst q
      have e2 : valD ((k1, d2) :: kvs) k1 = some d2 := by simp [valD]
      rw [e2] at e
      cases e
    · have e2 : valD ((k1, d2) :: kvs) k = valD kvs k := by simp [valD, List.find?_cons, q]
      rw [e2] at e
      rw [valV_neg (by exact q)]
      exact valD_none t e
theorem DKV.length {S : Hp} : ∀ {vs : List (Key × V)} {kvs : List (Key × PD)}, DKV S vs kvs → vs.length = kvs.length
  | _, _, .nil => rfl
  | _, _, .cons _ t => congrArg (· + 1) (DKV.length t)
theorem DKV.keys {S : Hp} : ∀ {vs : List (Key × V)} {kvs : List (Key × PD)}, DKV S vs kvs → vs.map (·.1) = kvs.map (·.1)
  | _, _, .nil => rfl
  | _, _, .cons h t => by rw [List.map_cons, List.map_cons, h.1, DKV.keys t]
theorem DKV.app {S : Hp} {k : Key} {v : V} {d : PD} (hv : DV S v d) : ∀ {vs : List (Key × V)} {kvs : List (Key × PD)}, DKV S vs kvs → DKV S (vs ++ [(k, v)]) (kvs ++ [(k, d)])
  | _, _, .nil => .cons ⟨rfl, hv⟩ .nil
  | _, _, .cons h t => .cons h (DKV.app hv t)
theorem DKV.rep {S : Hp} {k : Key} {v : V} {d : PD} (hv : DV S v d) : ∀ {vs : List (Key × V)} {kvs : List (Key × PD)}, DKV S vs kvs → DKV S (vs.map fun kv => if kv.1 = k then (kv.1, v) else kv) (kvs.map fun kv => if kv.1 = k then (kv.1, d) else kv)
  | _, _, .nil => .nil
  | (k1, w) :: _, (k2, d2) :: _, .cons h t => by
    have h1 : k1 = k2 := h.1
    subst h1
    refine .cons ?_ (DKV.rep hv t)
    by_cases q : k1 = k
    · show (if k1 = k then (k1, v) else (k1, w)).1 = (if k1 = k then (k1, d) else (k1, d2)).1 ∧ DV S (if k1 = k then (k1, v) else (k1, w)).2 (if k1 = k then (k1, d) else (k1, d2)).2
      rw [if_pos q, if_pos q]
      exact ⟨rfl, hv⟩
    · show (if k1 = k then (k1, v) else (k1, w)).1 = (if k1 = k then (k1, d) else (k1, d2)).1 ∧ DV S (if k1 = k then (k1, v) else (k1, w)).2 (if k1 = k then (k1, d) else (k1, d2)).2
      rw [if_neg q, if_neg q]
      exact h
theorem any_keys {α : Type} (k : Key) (xs : List (Key × α)) : (xs.any fun kv => decide (kv.1 = k)) = (xs.map (·.1)).any fun y => decide (y = k) := by
  rw [List.any_map]
  rfl
theorem DKV.put {S : Hp} {k : Key} {v : V} {d : PD} {vs : List (Key × V)} {kvs : List (Key × PD)} (h : DKV S vs kvs) (hv : DV S v d) : DKV S (putK vs k v) (putD kvs k d) := by
  have e : (vs.any fun kv => decide (kv.1 = k)) = (kvs.any fun kv => decide (kv.1 = k)) := by rw [any_keys, any_keys, h.keys]
  unfold putK putD
  rw [e]
  split
  · exact h.rep hv
  · exact h.app hv
theorem dicOf_at {B : Bs} {S H : Hp} {σ : L2.St} {ρ : Rho} (E : EnvB B S H σ ρ) {i : Nat} {k : List (Key × PD) → Prop} (h : dicOf (rget ρ i) k) : ∃ a vs kvs, rget ρ i = .dic kvs ∧ σ[i]? = some (some (.ref a)) ∧ S a = none ∧ H a = some (.dK vs) ∧ DKV S vs kvs ∧ k kvs := by
  cases e : rget ρ i with
  | dic kvs =>
    rw [e] at h
    obtain ⟨a, vs, h1, h2, h3, h4, _⟩ := E.dic e
    exact ⟨a, vs, kvs, rfl, h1, h2, h3, h4, h⟩
  | unk => rw [e] at h; exact h.elim
  | own _ => rw [e] at h; exact h.elim
  | dck _ => rw [e] at h; exact h.elim
  | dat _ => rw [e] at h; exact h.elim
/-- d[k] -/
def dGetD (i : Nat) (tk : TED) : TED := fun ρ Q => dicOf (rget ρ i) (fun _ => True) ∧ tk ρ fun y ρ1 => dicOf (rget ρ1 i) fun kvs => ∃ k d, keyD y = some k ∧ valD kvs k = some d ∧ Q d ρ1
theorem p_getD (i : Nat) {x : Str} {px : Pos} {j : Nat} {tk : TED} (hr : Room j X.A) (hk : PED X e tk) (hs : NoSl e := by intro _ _; rfl) (hN : X.N[i]? = some x := by rfl) (hv : Vis X.env.scope x := by first | exact Or.inl rfl | exact Or.inr (Or.inl rfl) | exact Or.inr (Or.inr rfl)) (hd : (x == ("__debug__" : Str)) = false := by decide)
    (hcd : (x == ("__classdict__" : Str)) = false := by decide) : PED X (.Subscript (.Name x px) e pos) (dGetD i tk) := impPE (pe_dget (hu_of hr) (pe_var hN hv hd hcd) hk hs) fun σ H R h => by
  obtain ⟨B, ρ, S, Q, E, ⟨h0, h⟩, k⟩ := h
  obtain ⟨a, _, _, _, ha, _⟩ := dicOf_at E h0
  refine ⟨.ref a, ha, B, ρ, S, _, E, h, fun y H1 dy ρ1 S1 E1 e1 hy h1 => ?_⟩
  obtain ⟨a', vs, kvs, _, ha', hS, hH, hd, ky, d, h2, h3, h4⟩ := dicOf_at E1 h1
  rw [ha] at ha'
  cases ha'
  obtain ⟨v, h5, h6⟩ := valD_of hd h3
  have h7 := keyD_of hy h2
  subst h7
  refine ⟨a, v, rfl, ?_, k v H1 d ρ1 S1 E1 e1 h6 h4⟩
  rw [← h5]
  exact DGet.k hH
/-- d[k] = v -/
def dPutD (i : Nat) (tk te : TED) : TSD := fun D ρ => te ρ fun d ρ1 => dicOf (rget ρ1 i) (fun _ => True) ∧ tk ρ1 fun y ρ2 => dicOf (rget ρ2 i) fun kvs => ∃ k, keyD y = some k ∧ kvs.length < 100000 ∧ D.nx (rset ρ2 i (.dic (putD kvs k d)))
theorem t_putD (i : Nat) {x : Str} {px spos : Pos} {ek : Expr} {j : Nat} {tk te : TED} (hr : Room j X.A) (he : PED X e te) (hk : PED X ek tk) (hN : X.N[i]? = some x := by rfl) (hv : Vis X.env.scope x := by first | exact Or.inl rfl | exact Or.inr (Or.inl rfl) | exact Or.inr (Or.inr rfl)) (hd : (x == ("__debug__" : Str)) = false := by decide)
    (hcd : (x == ("__classdict__" : Str)) = false := by decide) (hs : swapsWith e (some (.Subscript (.Name x px) ek spos)) pos.line X.env = pure false := by rfl) : PSD X (.Assign [.Subscript (.Name x px) ek spos] e pos) (dPutD i tk te) :=
  impPS (ps_dput (hu_of hr) (pe_var hN hv hd hcd) hk he hs) fun D σ H h => by
    obtain ⟨B, ρ, S, DD, E, h, kn, kb, kc, kr⟩ := h
    refine ⟨B, ρ, S, _, E, h, fun v H1 d ρ1 S1 E1 e1 hv ⟨h0, h1⟩ => ?_⟩
    obtain ⟨a, _, _, _, ha, _⟩ := dicOf_at E1 h0
    refine ⟨.ref a, ha, B, ρ1, S1, _, E1, h1, fun y H2 dy ρ2 S2 E2 e2 hy h2 => ?_⟩
    obtain ⟨a', vs, kvs, eq, ha', hS, hH, hds, ky, h3, h4, h5⟩ := dicOf_at E2 h2
    rw [ha] at ha'
    cases ha'
    have h7 := keyD_of hy h3
    subst h7
    refine ⟨a, _, rfl, DPut.k hH (Nat.lt_of_lt_of_le (by rw [hds.length]; exact h4) (Evl.sz_of (Nat.le_refl _))), ?_⟩
    exact kn σ _ _ S2 (E2.changeD eq ha (hds.put (DV.mono e2 _ _ hv))) (e1.trans e2) h5
/-- d.get(k, x) -/
def dGet2 (i : Nat) (tk tx : TED) : TED := fun ρ Q => dicOf (rget ρ i) (fun _ => True) ∧ tk ρ fun y ρ1 => tx ρ1 fun z ρ2 => dicOf (rget ρ2 i) fun kvs => ∃ k, keyD y = some k ∧ Q ((valD kvs k).getD z) ρ2
theorem p_get2 (i : Nat) {x : Str} {px apos cpos : Pos} {ek ex : Expr} {j : Nat} {tk tx : TED} (hr : Room j X.A) (hk : PED X ek tk) (hx : PED X ex tx) (m : M2 X (.Name x px) "get" apos ek ex cpos) (hN : X.N[i]? = some x := by rfl) (hv : Vis X.env.scope x := by first | exact Or.inl rfl | exact Or.inr (Or.inl rfl) | exact Or.inr (Or.inr rfl)) (hd : (x == ("__debug__" : Str)) = false := by decide)
    (hcd : (x == ("__classdict__" : Str)) = false := by decide) : PED X (.Call (.Attribute (.Name x px) "get" apos) [ek, ex] [] cpos) (dGet2 i tk tx) := impPE (pe_dget2 (hu_of hr) (pe_var hN hv hd hcd) hk hx m) fun σ H R h => by
  obtain ⟨B, ρ, S, Q, E, ⟨h0, h⟩, k⟩ := h
  obtain ⟨a, _, _, _, ha, _, hH0, _⟩ := dicOf_at E h0
  refine ⟨.ref a, ha, a, rfl, .inl ⟨_, .inl hH0⟩, B, ρ, S, _, E, h, fun y H1 dy ρ1 S1 E1 e1 hy h1 => ⟨B, ρ1, S1, _, E1, h1, fun z H2 dz ρ2 S2 E2 e2 hz h2 => ?_⟩⟩
  obtain ⟨a', vs, kvs, _, ha', hS, hH, hd, ky, h3, h4⟩ := dicOf_at E2 h2
  rw [ha] at ha'
  cases ha'
  have h7 := keyD_of hy h3
  subst h7
  refine ⟨_, DGet.k hH, ?_⟩
  cases q : valD kvs ky with
  | none =>
    rw [q] at h4
    rw [valD_none hd q]
    exact k z H2 dz ρ2 S2 E2 (e1.trans e2) hz h4
  | some d =>
    rw [q] at h4
    obtain ⟨v, h5, h6⟩ := valD_of hd q
    rw [h5]
    exact k v H2 d ρ2 S2 E2 (e1.trans e2) h6 h4
/-- f(..)[k], f hands back a dict -/
def datK : En → (PD → Prop) → Prop
  | .dat y, k => k y
  | _, _ => False
def dGetC (td : Rho → (List (Key × PD) → Rho → Prop) → Prop) (i : Nat) : TED := fun ρ Q => td ρ fun kvs ρ1 => datK (rget ρ1 i) fun y => ∃ k d, keyD y = some k ∧ valD kvs k = some d ∧ Q d ρ1
theorem p_getC (i : Nat) {x : Str} {px : Pos} {j : Nat} {td : Rho → (List (Key × PD) → Rho → Prop) → Prop} (hr : Room j X.A) (ho : PDD X e td) (hs : NoSl (.Name x px) := by intro _ _; rfl) (hN : X.N[i]? = some x := by rfl) (hv : Vis X.env.scope x := by first | exact Or.inl rfl | exact Or.inr (Or.inl rfl) | exact Or.inr (Or.inr rfl)) (hd : (x == ("__debug__" : Str)) = false := by decide)
    (hcd : (x == ("__classdict__" : Str)) = false := by decide) : PED X (.Subscript e (.Name x px) pos) (dGetC td i) := impPE (pe_dget (hu_of hr) ho (pe_var hN hv hd hcd) hs) fun σ H R h => by
  obtain ⟨B, ρ, S, Q, E, h, k⟩ := h
  refine ⟨B, ρ, S, _, E, h, fun p xs H1 kvs ρ1 S1 E1 e1 hS hH n hd h1 => ?_⟩
  cases q : rget ρ1 i with
  | dat y =>
    rw [q] at h1
    obtain ⟨ky, d, h2, h3, h4⟩ := h1
    obtain ⟨v, hv, hy⟩ := E1.dat q
    obtain ⟨u, h5, h6⟩ := valD_of hd h3
    have h7 := keyD_of hy h2
    subst h7
    refine ⟨_, hv, p, u, rfl, ?_, k u H1 d ρ1 S1 E1 e1 h6 h4⟩
    rw [← h5]
    exact DGet.k hH
  | unk => rw [q] at h1; exact h1.elim
  | own _ => rw [q] at h1; exact h1.elim
  | dck _ => rw [q] at h1; exact h1.elim
  | dic _ => rw [q] at h1; exact h1.elim
end

/-! ### defs -/
section
variable {P : Program} {w : World} {K : PySem.W.Frag} {mg : Str → Option Value} {base : Heap}
def rho0 (n : Nat) (es : List En) : Rho := es ++ List.replicate (n - es.length) .unk
theorem rget_rep : ∀ (n i : Nat), rget (List.replicate n .unk) i = .unk
  | 0, _ => rfl
  | n + 1, 0 => rfl
  | n + 1, i + 1 => rget_rep n i
theorem ent_app {B : Bs} {S H : Hp} {n : Nat} : ∀ {vs : List V} {es : List En}, Paired (fun v e => EnAt B S H (some v) e) vs es → ∀ i, EnAt B S H ((vs.map some ++ List.replicate n none)[i]?.getD none) (rget (es ++ List.replicate n .unk) i)
  | _, _, .nil, i => by
    show EnAt B S H _ (rget (List.replicate n .unk) i)
    rw [rget_rep]
    exact True.intro
  | _, _, .cons h t, 0 => h
  | _, _, .cons h t, i + 1 => ent_app t i
theorem env0 {B : Bs} {S H : Hp} {N : List Str} {vs : List V} {es : List En} (st : Stp B S H) (h : Paired (fun v e => EnAt B S H (some v) e) vs es) (ap : ∀ i j, i ≠ j → (rget es i).ow = true → (rget es j).ow = true → False) : EnvB B S H (L2.start N vs) (rho0 N.length es) := by
  have hl : vs.length = es.length := Paired.length h
  unfold L2.start rho0
  refine ⟨by simp [hl], fun i => by rw [hl]; exact ent_app h i, fun i j a hij oi oj _ _ => ?_, st⟩
  have key : ∀ i, (rget (es ++ List.replicate (N.length - es.length) .unk) i).ow = true → rget (es ++ List.replicate (N.length - es.length) .unk) i = rget es i := fun i => by
    clear oi oj h hl hij
    induction es generalizing i with
    | nil =>
      intro o
      rw [List.nil_append, rget_rep] at o
      cases o
    | cons e es ih =>
      intro o
      cases i with
      | zero => rfl
      | succ i =>
        have : ∀ (n : Nat) (l : List En) i, (rget (l ++ List.replicate n .unk) i).ow = true → rget (l ++ List.replicate n .unk) i = rget l i := by
          intro n l
          induction l with
          | nil =>
            intro i o
            rw [List.nil_append, rget_rep] at o
            cases o
          | cons e l ih2 =>
            intro i o
            cases i with
            | zero => rfl
            | succ i => exact ih2 i o
        exact this _ es i o
  exact ap i j hij (by rw [← key i oi]; exact oi) (by rw [← key j oj]; exact oj)
theorem dats {B : Bs} {S H : Hp} : ∀ {vs : List V} {ds : List PD}, DVs S vs ds → Paired (fun v e => EnAt B S H (some v) e) vs (ds.map En.dat)
  | _, _, .nil => .nil
  | _, _, .cons h t => .cons ⟨_, rfl, h⟩ (dats t)
theorem dats_ow : ∀ (ds : List PD) (i : Nat), (rget (ds.map En.dat) i).ow = false
  | [], _ => rfl
  | _ :: _, 0 => rfl
  | _ :: ds, i + 1 => dats_ow ds i
abbrev FnD (K : PySem.W.Frag) (x : Str) (st : Stmt) (f : Addr) (fd : FuncData) : Prop := FunD K x x (defArgs st) (defBody st) (defScope st) [] [] f fd
/-- a def that hands back data -/
theorem mk_F {x : Str} {st : Stmt} {f : Addr} {fd : FuncData} {N ps : List Str} {k : Nat} {wd : WDA} (F : FnD K x st f fd) (hm : mg x = some (.ref f)) (S : FnScope N ps (defScope st))
    (hb : ∀ (kV doc pm : Value) (an : Option Addr) (cdv ct : Value) (us : List Value), us.length = ps.length → bindArgs (PySem.W.fnOf x x (defArgs st) (defBody st) (defScope st) .none kV doc pm an cdv ct) ⟨us, []⟩ = pure (ps.zip us))
    (len : ∀ ds k, wd ds k → ds.length = ps.length)
    (body : ∀ (cdv : Value) (A : Around) (outer : List Env) (s : Shared) (H : Hp) (E : XK), Room k (A.deeper (envOfC x (defScope st) s.heap.objs.size f cdv)) →
      ∃ t, PBD (cxOf CX0 P w K mg base N x (defScope st) f cdv A outer s H E).nox (defBody st) t ∧ ∀ ds k, wd ds k → t { nx := fun _ => k .none, rt := fun e _ => ∃ d, e = .dat d ∧ k d } (rho0 N.length (ds.map En.dat))) : Cal P w K mg base (k + 1) x (spF wd) [] := by
  refine ⟨f, fd, ps, [], F.ok S (fun vs H Q E h => ?_) (fun cdv A outer s H vs Q E hr h => ?_), hm, F.kp, F.bindsN hb, .nil⟩
  · obtain ⟨S', ds, k, hS, hd, hw, _⟩ := h
    rw [hd.length, len ds k hw]
  · obtain ⟨t, ht, hq⟩ := body cdv A outer s H E hr
    obtain ⟨S', ds, k, hS, hd, hw, q⟩ := h
    refine ⟨_, PSs.nox ht, ⟨S', H, none⟩, _, S', _, env0 (Stp.refl hS) (dats hd) (fun i j _ oi _ => by rw [dats_ow] at oi; cases oi), hq ds k hw, fun σ' H' ρ' S2 E2 e2 h2 => ?_, fun _ _ _ _ _ _ h2 => h2.elim, fun _ _ _ _ _ _ h2 => h2.elim, fun v e σ' H' ρ' S2 E2 e2 hv h2 => ?_⟩
    · exact q .non H' S2 .none (Grow.of E2.stp) .non h2
    · obtain ⟨d, rfl, h3⟩ := h2
      obtain ⟨v', h4, h5⟩ := hv
      cases h4
      exact q v H' S2 d (Grow.of E2.stp) h5 h3
/-- .. a new list of one's own -/
theorem mk_O {x : Str} {st : Stmt} {f : Addr} {fd : FuncData} {N ps : List Str} {k : Nat} {wd : List PD → (List PD → Prop) → Prop} (F : FnD K x st f fd) (hm : mg x = some (.ref f)) (S : FnScope N ps (defScope st))
    (hb : ∀ (kV doc pm : Value) (an : Option Addr) (cdv ct : Value) (us : List Value), us.length = ps.length → bindArgs (PySem.W.fnOf x x (defArgs st) (defBody st) (defScope st) .none kV doc pm an cdv ct) ⟨us, []⟩ = pure (ps.zip us))
    (len : ∀ ds k, wd ds k → ds.length = ps.length)
    (body : ∀ (cdv : Value) (A : Around) (outer : List Env) (s : Shared) (H : Hp) (E : XK), Room k (A.deeper (envOfC x (defScope st) s.heap.objs.size f cdv)) →
      ∃ t, PBD (cxOf CX0 P w K mg base N x (defScope st) f cdv A outer s H E).nox (defBody st) t ∧ ∀ ds k, wd ds k → t { nx := fun _ => False, rt := fun e _ => ∃ d, e = .own d ∧ k d } (rho0 N.length (ds.map En.dat))) : Cal P w K mg base (k + 1) x (spO wd) [] := by
  refine ⟨f, fd, ps, [], F.ok S (fun vs H Q E h => ?_) (fun cdv A outer s H vs Q E hr h => ?_), hm, F.kp, F.bindsN hb, .nil⟩
  · obtain ⟨S', ds, k, hS, hd, hw, _⟩ := h
    rw [hd.length, len ds k hw]
  · obtain ⟨t, ht, hq⟩ := body cdv A outer s H E hr
    obtain ⟨S', ds, k, hS, hd, hw, q⟩ := h
    refine ⟨_, PSs.nox ht, ⟨S', H, none⟩, _, S', _, env0 (Stp.refl hS) (dats hd) (fun i j _ oi _ => by rw [dats_ow] at oi; cases oi), hq ds k hw, fun σ' H' ρ' S2 E2 e2 h2 => h2.elim, fun _ _ _ _ _ _ h2 => h2.elim, fun _ _ _ _ _ _ h2 => h2.elim, fun v e σ' H' ρ' S2 E2 e2 hv h2 => ?_⟩
    obtain ⟨d, rfl, h3⟩ := h2
    obtain ⟨a, xs, h4, h5, h6, h7, h8, _⟩ := hv
    cases h4
    exact q a xs H' S2 d (Grow.of E2.stp) h5 h6 h8 h7 h3
/-- .. a new dict -/
theorem mk_C {x : Str} {st : Stmt} {f : Addr} {fd : FuncData} {N ps : List Str} {k : Nat} {wd : List PD → (List (Key × PD) → Prop) → Prop} (F : FnD K x st f fd) (hm : mg x = some (.ref f)) (S : FnScope N ps (defScope st))
    (hb : ∀ (kV doc pm : Value) (an : Option Addr) (cdv ct : Value) (us : List Value), us.length = ps.length → bindArgs (PySem.W.fnOf x x (defArgs st) (defBody st) (defScope st) .none kV doc pm an cdv ct) ⟨us, []⟩ = pure (ps.zip us))
    (len : ∀ ds k, wd ds k → ds.length = ps.length)
    (body : ∀ (cdv : Value) (A : Around) (outer : List Env) (s : Shared) (H : Hp) (E : XK), Room k (A.deeper (envOfC x (defScope st) s.heap.objs.size f cdv)) →
      ∃ t, PBD (cxOf CX0 P w K mg base N x (defScope st) f cdv A outer s H E).nox (defBody st) t ∧ ∀ ds k, wd ds k → t { nx := fun _ => False, rt := fun e _ => ∃ d, e = .dic d ∧ k d } (rho0 N.length (ds.map En.dat))) : Cal P w K mg base (k + 1) x (spC wd) [] := by
  refine ⟨f, fd, ps, [], F.ok S (fun vs H Q E h => ?_) (fun cdv A outer s H vs Q E hr h => ?_), hm, F.kp, F.bindsN hb, .nil⟩
  · obtain ⟨S', ds, k, hS, hd, hw, _⟩ := h
    rw [hd.length, len ds k hw]
  · obtain ⟨t, ht, hq⟩ := body cdv A outer s H E hr
    obtain ⟨S', ds, k, hS, hd, hw, q⟩ := h
    refine ⟨_, PSs.nox ht, ⟨S', H, none⟩, _, S', _, env0 (Stp.refl hS) (dats hd) (fun i j _ oi _ => by rw [dats_ow] at oi; cases oi), hq ds k hw, fun σ' H' ρ' S2 E2 e2 h2 => h2.elim, fun _ _ _ _ _ _ h2 => h2.elim, fun _ _ _ _ _ _ h2 => h2.elim, fun v e σ' H' ρ' S2 E2 e2 hv h2 => ?_⟩
    obtain ⟨d, rfl, h3⟩ := h2
    obtain ⟨a, xs, h4, h5, h6, h7, h8, _⟩ := hv
    cases h4
    exact q a xs H' S2 d (Grow.of E2.stp) h5 h6 h8 h7 h3
/-- .. one that changes the list handed in first -/
theorem mk_K {x : Str} {st : Stmt} {f : Addr} {fd : FuncData} {N ps : List Str} {k : Nat} {wd : List PD → List PD → (List PD → PD → Prop) → Prop} (F : FnD K x st f fd) (hm : mg x = some (.ref f)) (S : FnScope N ps (defScope st))
    (hb : ∀ (kV doc pm : Value) (an : Option Addr) (cdv ct : Value) (us : List Value), us.length = ps.length → bindArgs (PySem.W.fnOf x x (defArgs st) (defBody st) (defScope st) .none kV doc pm an cdv ct) ⟨us, []⟩ = pure (ps.zip us))
    (len : ∀ dk ds k, wd dk ds k → ds.length + 1 = ps.length)
    (body : ∀ (cdv : Value) (A : Around) (outer : List Env) (s : Shared) (H : Hp) (E : XK), Room k (A.deeper (envOfC x (defScope st) s.heap.objs.size f cdv)) →
      ∃ t, PBD (cxOf CX0 P w K mg base N x (defScope st) f cdv A outer s H E).nox (defBody st) t ∧ ∀ dk ds k, wd dk ds k → t { nx := fun _ => False, rt := fun e ρ => ∃ d dk', e = .dat d ∧ rget ρ 0 = .dck dk' ∧ k dk' d } (rho0 N.length (.dck dk :: ds.map En.dat))) : Cal P w K mg base (k + 1) x (spK wd) [] := by
  refine ⟨f, fd, ps, [], F.ok S (fun vs H Q E h => ?_) (fun cdv A outer s H vs Q E hr h => ?_), hm, F.kp, F.bindsN hb, .nil⟩
  · obtain ⟨a, S', xs, dk, vs', ds, k, rfl, _, _, _, _, hd, hw, _⟩ := h
    rw [List.length_cons, hd.length, len dk ds k hw]
  · obtain ⟨t, ht, hq⟩ := body cdv A outer s H E hr
    obtain ⟨a, S', xs, dk, vs', ds, k, rfl, hS, hSa, hHa, hdk, hd, hw, q⟩ := h
    refine ⟨_, PSs.nox ht, ⟨S', H, some a⟩, _, S', _, env0 (Stp.refld hS hHa) (.cons (show EnAt ⟨S', H, some a⟩ S' H (some (.ref a)) (.dck dk) from ⟨a, xs, rfl, hSa, hHa, hdk, rfl⟩) (dats hd)) (fun i j hij oi oj => ?_), hq dk ds k hw, fun σ' H' ρ' S2 E2 e2 h2 => h2.elim, fun _ _ _ _ _ _ h2 => h2.elim, fun _ _ _ _ _ _ h2 => h2.elim, fun v e σ' H' ρ' S2 E2 e2 hv h2 => ?_⟩
    · cases i with
      | zero =>
        cases j with
        | zero => exact hij rfl
        | succ j =>
          have oj : (rget (ds.map En.dat) j).ow = true := oj
          rw [dats_ow] at oj
          cases oj
      | succ i =>
        have oi : (rget (ds.map En.dat) i).ow = true := oi
        rw [dats_ow] at oi
        cases oi
    · obtain ⟨d, dk', rfl, h3, h4⟩ := h2
      obtain ⟨v', h5, h6⟩ := hv
      cases h5
      obtain ⟨b, ys, h7, h8, h9, h10, h11⟩ := E2.dck h3
      have h11 : some a = some b := h11
      cases h11
      exact q v H' S2 d ys dk' E2.stp h8 h9 h10 h6 h4
end
end CK
set_option Elab.async false
set_option linter.all false
set_option maxRecDepth 100000
set_option maxHeartbeats 4000000
namespace CK
open PySem PySem.Spec PyProof.Rows L2
open Evl (Ex ex_l ex_t fresh_back)
open C8 (Cal pe_c)
/-! ### the text -/
def defsT0 : List (Str × Nat) := [("is_integer", 14), ("is_kind", 15), ("need_kind", 16), ("is_fraction", 18), ("is_share", 19), ("need_fraction", 20), ("need_share", 21), ("fraction", 22), ("plus", 23), ("less", 24), ("times", 25), ("compared", 26), ("is_fill", 28), ("is_cellar", 29), ("need_fill", 30), ("need_cellar", 31), ("amount", 32), ("together", 33)]
def defsT1 : List (Str × Nat) := [("part", 34), ("rest", 35), ("is_place", 37), ("is_deed", 38), ("casks_of", 39), ("is_deed_of", 40), ("need_deed_of", 41), ("gone_by", 42), ("done", 43), ("run", 44), ("gone_in", 45), ("drawn", 46), ("need_story", 48), ("is_draw", 49), ("need_draw", 50), ("every_lot", 51), ("need_lot", 52), ("ways_over", 53)]
def defsT2 : List (Str × Nat) := [("emptied", 54), ("lots_ahead", 55), ("carried_lots", 56), ("lots", 57), ("touched", 58), ("carried", 59), ("shortest_roads", 60), ("need_road", 61), ("road", 62), ("is_ascending", 63), ("road_holds", 64), ("is_look", 65), ("need_told", 66), ("fitting_lots", 67), ("suspects", 68), ("_law_deck", 70), ("_law_draw", 71), ("_law_fraction", 72)]
def defsT3 : List (Str × Nat) := [("_law_share", 73), ("_law_amount", 74), ("_law_kind", 75), ("_law_fill", 76), ("_law_cellar", 77), ("_law_deed", 78), ("_law_story", 79), ("_law_marked", 80), ("_law_lots", 81), ("_law_amount_of", 82), ("_law_kept", 83), ("_law_road_right", 84), ("_law_draw_right", 85), ("law", 86)]
def defsT : List (Str × Nat) := defsT0 ++ defsT1 ++ defsT2 ++ defsT3
structure Txt (K : PySem.W.Frag) (mg : Str → Option Value) : Prop where
  fn : ∀ (i : Nat) {p : Str × Nat}, defsT[i]? = some p → ∃ f fd, FnD K p.1 (top p.2) f fd ∧ mg p.1 = some (.ref f)
  gcd_ : mg "gcd" = some (.builtin "math.gcd")
  isinstance_ : mg "isinstance" = none
  bool_ : mg "bool" = none
  int_ : mg "int" = none
  len_ : mg "len" = none
  all_ : mg "all" = none
  list_ : mg "list" = none
  tuple_ : mg "tuple" = none
  zip_ : mg "zip" = none
  sorted_ : mg "sorted" = none
  enumerate_ : mg "enumerate" = none
  max_ : mg "max" = none
  min_ : mg "min" = none
  range_ : mg "range" = none
  repr_ : mg "repr" = none
  abs_ : mg "abs" = none
  set_ : mg "set" = none
  str_ : mg "str" = none
  any_ : mg "any" = none
end CK
set_option Elab.async false
set_option linter.all false
set_option maxRecDepth 100000
set_option maxHeartbeats 2000000
namespace CK
open PySem PySem.Spec PyProof.Rows L2
section
variable {ρ ρ1 : Rho} {Q : PD → Rho → Prop} {QT : Bool → Rho → Prop} {QA : List PD → Rho → Prop} {t u : TSD} {td ta tb tc tx : TED} {tt tu : TTD} {tA tr : TAD} {i j : Nat} {nx : Rho → Prop} {rt : En → Rho → Prop} {bk ct : Rho → Prop} {d x y : PD} {ds : List PD} {k : PD → Prop} {w w' : WD2} {w1 : WD1} {wa : WDA}
theorem rho_of {D : DEnds} {ρ0 : Rho} (ρ : Rho) (e : ρ0 = ρ) (h : t D ρ) : t D ρ0 := by rw [e]; exact h
theorem r_seq (h : t ⟨u ⟨nx, rt, bk, ct⟩, rt, bk, ct⟩ ρ) : dSeq t u ⟨nx, rt, bk, ct⟩ ρ := h
theorem r_next (h : nx ρ) : dNext ⟨nx, rt, bk, ct⟩ ρ := h
theorem r_ret (h : td ρ fun d ρ1 => rt (.dat d) ρ1) : dRet td ⟨nx, rt, bk, ct⟩ ρ := h
theorem r_retO (h : tA ρ fun d ρ1 => rt (.own d) ρ1) : dRetO tA ⟨nx, rt, bk, ct⟩ ρ := h
theorem r_retC (h : dicOf (rget ρ i) fun kvs => rt (.dic kvs) ρ) : dRetC i ⟨nx, rt, bk, ct⟩ ρ := h
theorem r_set (h : td ρ fun d ρ1 => nx (rset ρ1 i (.dat d))) : dSet td i ⟨nx, rt, bk, ct⟩ ρ := h
theorem r_setO (h : tA ρ fun d ρ1 => nx (rset ρ1 i (.own d))) : dSetO tA i ⟨nx, rt, bk, ct⟩ ρ := h
theorem r_setD {tD : Rho → (List (Key × PD) → Rho → Prop) → Prop} (h : tD ρ fun d ρ1 => nx (rset ρ1 i (.dic d))) : dSetD tD i ⟨nx, rt, bk, ct⟩ ρ := h
theorem r_ifs (h : tt ρ fun b ρ1 => br b (t ⟨nx, rt, bk, ct⟩ ρ1) (u ⟨nx, rt, bk, ct⟩ ρ1)) : dIfS tt t u ⟨nx, rt, bk, ct⟩ ρ := h
theorem r_drop (h : td ρ fun _ ρ1 => nx ρ1) : dDrop td ⟨nx, rt, bk, ct⟩ ρ := h
theorem r_for {g : TGD} (h : tA ρ fun items ρ1 => forW g t ⟨nx, rt, bk, ct⟩ items ρ1) : dFor tA g t ⟨nx, rt, bk, ct⟩ ρ := h
theorem r_par (h : ta ρ fun x ρ1 => tb ρ1 fun y ρ2 => nx (rset (rset ρ2 i (.dat x)) j (.dat y))) : dPar i j ta tb ⟨nx, rt, bk, ct⟩ ρ := h
theorem r_var (e : rget ρ i = .dat d) (h : Q d ρ) : dVar i ρ Q := by unfold dVar; rw [e]; exact h
theorem r_varo (e : rget ρ i = .own ds) (h : Q (.list ds) (rset ρ i (.dat (.list ds)))) : dVar i ρ Q := by unfold dVar; rw [e]; exact h
theorem r_c (h : Q d ρ) : dC d ρ Q := h
theorem r_op (h : ta ρ fun x ρ1 => tb ρ1 fun y ρ2 => w x y fun z => Q z ρ2) : dOp w ta tb ρ Q := h
theorem r_un (h : ta ρ fun x ρ1 => w1 x fun z => Q z ρ1) : dUn w1 ta ρ Q := h
theorem r_B (h : td ρ fun d ρ1 => boolK d fun b => QT b ρ1) : dB td ρ QT := h
theorem r_boolK {b : Bool} {k : Bool → Prop} (h : k b) : boolK (.bool b) k := h
theorem r_lstK {k : List PD → Prop} (h : k ds) : lstK (.list ds) k := h
theorem r_tupK {k : List PD → Prop} (h : k ds) : tupK (.tuple ds) k := h
theorem r_intK {n : Int} {k : Int → Prop} (h : k n) : intK (.int n) k := h
theorem r_strK {z : Str} {k : Str → Prop} (h : k z) : strK (.str z) k := h
theorem r_pairK {k : PD → PD → Prop} (h : k x y) : pairK (.tuple [x, y]) k := h
theorem r_chain (h : ta ρ fun x ρ1 => tb ρ1 fun y ρ2 => w x y fun z => boolK z fun c => br c (tc ρ2 fun u ρ3 => w' y u fun z => Q z ρ3) (Q (.bool false) ρ2)) : dChain w w' ta tb tc ρ Q := h
theorem r_and (h : tt ρ fun c ρ1 => br c (tu ρ1 QT) (QT false ρ1)) : dAnd tt tu ρ QT := h
theorem r_or (h : tt ρ fun c ρ1 => br c (QT true ρ1) (tu ρ1 QT)) : dOr tt tu ρ QT := h
theorem r_not (h : tt ρ fun c ρ1 => QT (!c) ρ1) : dNot tt ρ QT := h
theorem r_andV (h : ta ρ fun x ρ1 => boolK x fun c => br c (tb ρ1 Q) (Q (.bool false) ρ1)) : dAndV ta tb ρ Q := h
theorem r_orV (h : ta ρ fun x ρ1 => boolK x fun c => br c (Q (.bool true) ρ1) (tb ρ1 Q)) : dOrV ta tb ρ Q := h
theorem r_notV (h : ta ρ fun x ρ1 => boolK x fun b => Q (.bool (!b)) ρ1) : dNotV ta ρ Q := h
theorem r_ife (h : tt ρ fun c ρ1 => br c (ta ρ1 Q) (tb ρ1 Q)) : dIf tt ta tb ρ Q := h
theorem r_nil (h : QA [] ρ) : dNil ρ QA := h
theorem r_cons (h : ta ρ fun x ρ1 => tr ρ1 fun xs ρ2 => QA (x :: xs) ρ2) : dCons ta tr ρ QA := h
theorem r_tup (h : tA ρ fun ds ρ1 => ds.length ≤ 100000 ∧ Q (.tuple ds) ρ1) : dTup tA ρ Q := h
theorem r_lst (h : tA ρ fun ds ρ1 => ds.length ≤ 100000 ∧ Q (.list ds) ρ1) : dLst tA ρ Q := h
theorem r_olst (h : tA ρ fun ds ρ1 => ds.length ≤ 100000 ∧ QA ds ρ1) : oLst tA ρ QA := h
theorem r_len0 {p : Prop} (h : p) : ([] : List PD).length ≤ 100000 ∧ p := ⟨Nat.zero_le _, h⟩
theorem r_len1 {a : PD} {p : Prop} (h : p) : [a].length ≤ 100000 ∧ p := ⟨by show 1 ≤ 100000; decide, h⟩
theorem r_len2 {a b : PD} {p : Prop} (h : p) : [a, b].length ≤ 100000 ∧ p := ⟨by show 2 ≤ 100000; decide, h⟩
theorem r_len3 {a b c : PD} {p : Prop} (h : p) : [a, b, c].length ≤ 100000 ∧ p := ⟨by show 3 ≤ 100000; decide, h⟩
theorem r_len4 {a b c d : PD} {p : Prop} (h : p) : [a, b, c, d].length ≤ 100000 ∧ p := ⟨by show 4 ≤ 100000; decide, h⟩
theorem r_len5 {a b c d e : PD} {p : Prop} (h : p) : [a, b, c, d, e].length ≤ 100000 ∧ p := ⟨by show 5 ≤ 100000; decide, h⟩
theorem r_len6 {a b c d e f : PD} {p : Prop} (h : p) : [a, b, c, d, e, f].length ≤ 100000 ∧ p := ⟨by show 6 ≤ 100000; decide, h⟩
theorem r_len7 {a b c d e f g : PD} {p : Prop} (h : p) : [a, b, c, d, e, f, g].length ≤ 100000 ∧ p := ⟨by show 7 ≤ 100000; decide, h⟩
theorem r_len8 {a b c d e f g o : PD} {p : Prop} (h : p) : [a, b, c, d, e, f, g, o].length ≤ 100000 ∧ p := ⟨by show 8 ≤ 100000; decide, h⟩
theorem r_call (h : tA ρ fun ds ρ1 => wa ds fun d => Q d ρ1) : dCall wa tA ρ Q := h
theorem r_ocall {α : Type} {wo : List PD → (α → Prop) → Prop} {QO : α → Rho → Prop} (h : tA ρ fun ds ρ1 => wo ds fun d => QO d ρ1) : oCall wo tA ρ QO := h
theorem r_ixT (e : rget ρ i = .dat (.tuple ds)) (h : tb ρ fun y ρ1 => listOf (rget ρ1 i) fun ds => intK y fun j => ixK ds j fun d => Q d ρ1) : dIxN i tb ρ Q := ⟨by rw [e]; exact True.intro, h⟩
theorem r_ixL (e : rget ρ i = .dat (.list ds)) (h : tb ρ fun y ρ1 => listOf (rget ρ1 i) fun ds => intK y fun j => ixK ds j fun d => Q d ρ1) : dIxN i tb ρ Q := ⟨by rw [e]; exact True.intro, h⟩
theorem r_ixO (e : rget ρ i = .own ds) (h : tb ρ fun y ρ1 => listOf (rget ρ1 i) fun ds => intK y fun j => ixK ds j fun d => Q d ρ1) : dIxN i tb ρ Q := ⟨by rw [e]; exact True.intro, h⟩
theorem r_ixD (e : rget ρ i = .dck ds) (h : tb ρ fun y ρ1 => listOf (rget ρ1 i) fun ds => intK y fun j => ixK ds j fun d => Q d ρ1) : dIxN i tb ρ Q := ⟨by rw [e]; exact True.intro, h⟩
variable {en : En} {kl : List PD → Prop}
theorem r_loT (e : en = .dat (.tuple ds)) (h : kl ds) : listOf en kl := by rw [e]; exact h
theorem r_loL (e : en = .dat (.list ds)) (h : kl ds) : listOf en kl := by rw [e]; exact h
theorem r_loO (e : en = .own ds) (h : kl ds) : listOf en kl := by rw [e]; exact h
theorem r_loD (e : en = .dck ds) (h : kl ds) : listOf en kl := by rw [e]; exact h
theorem r_ixK {n : Int} (e : atI ds n = some d) (h : k d) : ixK ds n k := ⟨d, e, h⟩
theorem r_ixKn {n : Nat} (e : ds[n]? = some d) (h : k d) : ixK ds (n : Int) k := ⟨d, atI_nat e, h⟩
theorem r_wixT {n : Int} (e : atI ds n = some d) (h : k d) : wIx (.tuple ds) (.int n) k := ⟨d, e, h⟩
theorem r_wixL {n : Int} (e : atI ds n = some d) (h : k d) : wIx (.list ds) (.int n) k := ⟨d, e, h⟩
/-- isinstance -/
theorem r_is {T : String} (h : td ρ fun d ρ1 => ∃ b, kitB (tyD d) T = some b ∧ Q (.bool b) ρ1) : dIs T td ρ Q := h
variable {kb : Bool → Prop}
theorem r_is_tt {p : Bool → Prop} (h : p true) (e : kitB (tyD d) T = some true) : ∃ b, kitB (tyD d) T = some b ∧ p b := ⟨true, e, h⟩
theorem k_int_int : kitB "int" "int" = some true := by decide +kernel
theorem k_int_bool : kitB "int" "bool" = some false := by decide +kernel
theorem k_bool_bool : kitB "bool" "bool" = some true := by decide +kernel
theorem k_str_str : kitB "str" "str" = some true := by decide +kernel
theorem k_tup_tup : kitB "tuple" "tuple" = some true := by decide +kernel
theorem k_list_list : kitB "list" "list" = some true := by decide +kernel
theorem k_none_list : kitB "NoneType" "list" = some false := by decide +kernel
variable {pb : Bool → Prop}
theorem r_is1 {n : Int} (h : pb true) : ∃ b, kitB (tyD (.int n)) "int" = some b ∧ pb b := ⟨true, k_int_int, h⟩
theorem r_is2 {n : Int} (h : pb false) : ∃ b, kitB (tyD (.int n)) "bool" = some b ∧ pb b := ⟨false, k_int_bool, h⟩
theorem r_is3 {n : Bool} (h : pb true) : ∃ b, kitB (tyD (.bool n)) "bool" = some b ∧ pb b := ⟨true, k_bool_bool, h⟩
theorem r_is4 {n : Str} (h : pb true) : ∃ b, kitB (tyD (.str n)) "str" = some b ∧ pb b := ⟨true, k_str_str, h⟩
theorem r_is5 (h : pb true) : ∃ b, kitB (tyD (.tuple ds)) "tuple" = some b ∧ pb b := ⟨true, k_tup_tup, h⟩
theorem r_is6 (h : pb true) : ∃ b, kitB (tyD (.list ds)) "list" = some b ∧ pb b := ⟨true, k_list_list, h⟩
theorem r_is7 (h : pb false) : ∃ b, kitB (tyD .none) "list" = some b ∧ pb b := ⟨false, k_none_list, h⟩
/-- operations -/
theorem r_addI {n m : Int} (h : k (.int (n + m))) : wAdd (.int n) (.int m) k := h
theorem r_addL {xs ys : List PD} (hl : xs.length + ys.length ≤ 100000) (h : k (.list (xs ++ ys))) : wAdd (.list xs) (.list ys) k := ⟨hl, h⟩
theorem r_addS {xs ys : Str} (hl : xs.length + ys.length ≤ 100000) (h : k (.str (xs ++ ys))) : wAdd (.str xs) (.str ys) k := ⟨hl, h⟩
theorem r_int2 {g : Int → Int → PD} {n m : Int} (h : k (g n m)) : wInt2 g (.int n) (.int m) k := h
theorem r_int2C {C : Int → Int → Prop} {g : Int → Int → PD} {n m : Int} (hc : C n m) (h : k (g n m)) : wInt2C C g (.int n) (.int m) k := ⟨hc, h⟩
theorem r_neg {n : Int} (h : k (.int (-n))) : wNeg (.int n) k := h
theorem r_eqI {n m : Int} (h : k (.bool (decide (n = m)))) : wEq (.int n) (.int m) k := h
theorem r_eqS {n m : Str} (h : k (.bool (decide (n = m)))) : wEq (.str n) (.str m) k := h
theorem r_eqB {n m : Bool} (h : k (.bool (decide (n = m)))) : wEq (.bool n) (.bool m) k := h
theorem r_neI {n m : Int} (h : k (.bool (!decide (n = m)))) : wNe (.int n) (.int m) k := h
theorem r_neS {n m : Str} (h : k (.bool (!decide (n = m)))) : wNe (.str n) (.str m) k := h
theorem r_neB {n m : Bool} (h : k (.bool (!decide (n = m)))) : wNe (.bool n) (.bool m) k := h
theorem r_isN (h : k (.bool (isNone x))) : wIsN x .none k := h
theorem r_notN (h : k (.bool (!isNone x))) : wNotN x .none k := h
/-- built-ins -/
theorem r_lenL (h : k (.int (ds.length : Int))) : wLen [.list ds] k := h
theorem r_lenT (h : k (.int (ds.length : Int))) : wLen [.tuple ds] k := h
theorem r_intI {n : Int} (h : k (.int n)) : wInt [.int n] k := h
theorem r_intB {b : Bool} (h : k (.int (if b then 1 else 0))) : wInt [.bool b] k := h
theorem r_abs {n : Int} (h : k (.int (if n < 0 then -n else n))) : wAbs [.int n] k := h
theorem r_max2 {n m : Int} (h : k (.int (if m > n then m else n))) : wMax2 [.int n, .int m] k := h
theorem r_min2 {n m : Int} (h : k (.int (if m < n then m else n))) : wMin2 [.int n, .int m] k := h
theorem r_gcd {n m : Int} (h : k (.int ((Nat.gcd n.natAbs m.natAbs : Nat) : Int))) : wGcd [.int n, .int m] k := h
theorem r_tuple (h : k (.tuple ds)) : wTuple [.list ds] k := h
theorem r_listL (h : k (.list ds)) : wList [.list ds] k := h
theorem r_listT (h : k (.list ds)) : wList [.tuple ds] k := h
/-- walks -/
theorem r_itL (h : td ρ fun d ρ1 => lstK d fun ds => QA ds ρ1) : dItL td ρ QA := h
theorem r_itT (h : td ρ fun d ρ1 => tupK d fun ds => QA ds ρ1) : dItT td ρ QA := h
theorem r_enL (h : td ρ fun d ρ1 => lstK d fun ds => QA (enumD ds) ρ1) : dEnL td ρ QA := h
theorem r_zip (h : ta ρ fun x ρ1 => tb ρ1 fun y ρ2 => lstK x fun xs => lstK y fun ys => QA (zipD xs ys) ρ2) : dZip ta tb ρ QA := h
theorem r_rng1 (h : td ρ fun d ρ1 => intK d fun n => (-1000000 ≤ n ∧ n ≤ 1000000) ∧ QA (rngD 0 n.toNat) ρ1) : dRng1 td ρ QA := h
theorem r_rng2 (h : ta ρ fun x ρ1 => tb ρ1 fun y ρ2 => intK x fun lo => intK y fun hi => (-1000000 ≤ lo ∧ lo ≤ 1000000 ∧ -1000000 ≤ hi ∧ hi ≤ 1000000) ∧ QA (rngD lo (hi - lo).toNat) ρ2) : dRng2 ta tb ρ QA := h
theorem r_sgn (h : td ρ fun d ρ1 => strK d fun z => QA (signsD z) ρ1) : dSgn td ρ QA := h
theorem r_slF {lo : Int} (h : ta ρ fun x ρ1 => lstK x fun ds => Q (.list (cutD ds (some lo) none)) ρ1) : dSlF ta lo ρ Q := h
theorem r_slT {lo hi : Int} (h : ta ρ fun x ρ1 => tupK x fun ds => ¬ (HT.sIx ds.length 0 (some lo) = 0 ∧ HT.sIx ds.length ds.length (some hi) = ds.length) ∧ Q (.tuple (cutD ds (some lo) (some hi))) ρ1) : dSlT ta lo hi ρ Q := h
theorem r_gN {q : Rho → Prop} (h : q (rset ρ i (.dat d))) : gN i d ρ q := h
theorem r_gP {q : Rho → Prop} (h : q (rset (rset ρ i (.dat x)) j (.dat y))) : gP i j (.tuple [x, y]) ρ q := h
theorem r_yes (h : QT true ρ) : dYes ρ QT := h
theorem r_olist (h : tA ρ fun ds ρ1 => wListO ds fun xs => QA xs ρ1) : oList tA ρ QA := h
theorem r_wlistOL (h : kl ds) : wListO [.list ds] kl := h
theorem r_wlistOT (h : kl ds) : wListO [.tuple ds] kl := h
theorem r_lcv {g : TGD} {vs : List Nat} (h : tA ρ fun items ρ1 => lcW g tt td vs (fun ds ρ2 => Q (.list ds) ρ2) items [] (wipeR ρ1 vs)) : dLcV tA g tt td vs ρ Q := h
theorem r_lc {g : TGD} {vs : List Nat} (h : tA ρ fun items ρ1 => lcW g tt td vs QA items [] (wipeR ρ1 vs)) : dLc tA g tt td vs ρ QA := h
/-- comprehensions, by functions of the items -/
theorem lcW_fm {g : TGD} {vs : List Nat} {fin : List PD → Rho → Prop} (p : PD → Bool) (f : PD → PD) : ∀ (items acc : List PD) {ρ : Rho}, items.length + acc.length ≤ 100000 →
    (∀ x, x ∈ items → ∀ (k : PD → Rho → Prop) (k0 : Rho → Prop), br (p x) (k (f x) ρ) (k0 ρ) → g x ρ fun ρ1 => tt ρ1 fun b ρ2 => br b (td ρ2 fun y ρ3 => k y (wipeR ρ3 vs)) (k0 (wipeR ρ2 vs))) →
    fin (acc ++ (items.filter p).map f) ρ → lcW g tt td vs fin items acc ρ
  | [], acc, ρ, _, _, hf => by
    have e : acc ++ (([] : List PD).filter p).map f = acc := List.append_nil acc
    rw [e] at hf
    exact hf
  | x :: xs, acc, ρ, hl, h, hf => by
    rw [List.length_cons] at hl
    refine h x List.mem_cons_self (fun y ρ' => acc.length < 100000 ∧ lcW g tt td vs fin xs (acc ++ [y]) ρ') (fun ρ' => lcW g tt td vs fin xs acc ρ') ⟨fun q => ⟨by omega, ?_⟩, fun q => ?_⟩
    · refine lcW_fm p f xs (acc ++ [f x]) (by rw [List.length_append]; show xs.length + (acc.length + 1) ≤ 100000; omega) (fun y hy => h y (List.mem_cons_of_mem _ hy)) ?_
      rw [List.filter_cons, if_pos q, List.map_cons] at hf
      rw [List.append_assoc]
      exact hf
    · refine lcW_fm p f xs acc (by omega) (fun y hy => h y (List.mem_cons_of_mem _ hy)) ?_
      rw [List.filter_cons, if_neg (by rw [q]; decide)] at hf
      exact hf
/-- known ways -/
theorem br_t {c : Bool} {P R : Prop} (hc : c = true) (h : P) : br c P R := by
  refine ⟨fun _ => h, fun q => ?_⟩
  rw [hc] at q
  cases q
theorem br_f {c : Bool} {P R : Prop} (hc : c = false) (h : R) : br c P R := by
  refine ⟨fun q => ?_, fun _ => h⟩
  rw [hc] at q
  cases q
theorem br_dt {p : Prop} [Decidable p] {P R : Prop} (hp : p) (h : P) : br (decide p) P R := br_t (decide_eq_true hp) h
theorem br_df {p : Prop} [Decidable p] {P R : Prop} (hp : ¬ p) (h : R) : br (decide p) P R := br_f (decide_eq_false hp) h
theorem br_nt {p : Prop} [Decidable p] {P R : Prop} (hp : ¬ p) (h : P) : br (!decide p) P R := br_t (by rw [decide_eq_false hp]; rfl) h
theorem br_nf {p : Prop} [Decidable p] {P R : Prop} (hp : p) (h : R) : br (!decide p) P R := br_f (by rw [decide_eq_true hp]; rfl) h
theorem br_T {P R : Prop} (h : P) : br true P R := br_t rfl h
theorem br_F {P R : Prop} (h : R) : br false P R := br_f rfl h
theorem br_2 {p : Prop} [Decidable p] {P R : Prop} (h1 : p → P) (h2 : ¬ p → R) : br (decide p) P R := ⟨fun q => h1 (of_decide_eq_true q), fun q => h2 (of_decide_eq_false q)⟩
theorem br_2n {p : Prop} [Decidable p] {P R : Prop} (h1 : ¬ p → P) (h2 : p → R) : br (!decide p) P R := ⟨fun q => h1 (by intro z; rw [decide_eq_true z] at q; cases q), fun q => h2 (by
  by_cases z : p
  · exact z
  · rw [decide_eq_false z] at q; cases q)⟩
end
end CK
set_option Elab.async false
set_option linter.all false
set_option maxRecDepth 100000
set_option maxHeartbeats 4000000
namespace PySem
/-- a new enumerate over the iterator at it -/
abbrev enumO (it : Addr) : Obj := { cls := .type "enumerate", data := .fields #[.none, .bool false, .ref it, rawInt 0, .none, .none] }
set_option maxHeartbeats 1600000 in
theorem ck_enum_new {v : Value} {o : Obj} {Hb : Heap → Prop} (B : PySem.Begins v o Hb) :
    Meets (Builtin.«enumerate.__new__» ⟨[.type "enumerate", v], []⟩) (fun _ R s => Hb s.heap ∧ R (.ok (.ret (.ref (s.heap.push o).objs.size))) { s with heap := (s.heap.push o).push (enumO s.heap.objs.size) }) :=
  .of_wp fun prog w A R ⟨hp, gens, drawn, tk, os⟩ ⟨fit, done⟩ => by
    have sub := sub_enumerate
    have begins : ∀ {A' : Around} {E Q : Value → Shared → Prop}, Q (.ref hp.objs.size) ⟨hp.push o, gens, drawn, tk, os⟩ → wpAny (model prog w) A' (pyIter v) Q E ⟨hp, gens, drawn, tk, os⟩ := fun q => B.iter prog w _ _ _ _ fit q
    wp_walk using begins
    refine wpAny_stack_any fun _ => wpAny_pure ?_
    split
    · rename_i kind _ _ _ _ _
      cases kind == Value.type "enumerate"
      all_goals
        wp_walk using begins
        exact ⟨_, rfl, done⟩
    · wp_walk using begins
      exact ⟨_, rfl, done⟩
theorem ck_enum_begins {prog : Program} {w : World} {A : Around} {E Q : Value → Shared → Prop} {s : Shared} {v : Value} {o : Obj} {Hb : Heap → Prop} (B : PySem.Begins v o Hb) (fit : Hb s.heap)
    (q : ∀ h, IsEnum h (s.heap.objs.size + 1) s.heap.objs.size 0 .none → h.get? s.heap.objs.size = some o → h.objs.size = s.heap.objs.size + 2 → (∀ b u, s.heap.get? b = some u → h.get? b = some u) → Q (.ref (s.heap.objs.size + 1)) { s with heap := h }) :
    wpAny (model prog w) A (call (.type "enumerate") [v]) Q E s := by
  have n1 : (s.heap.push o).objs.size = s.heap.objs.size + 1 := Heap.size_push ..
  have ctr := Heap.get?_push_size (s.heap.push o) (o := enumO s.heap.objs.size) rfl
  rw [n1] at ctr
  refine callType_new F.called_enumerate (by decide) (F.typeCall_enumerate_1 v) (F.newCall_enumerate_1 v) (fun x => F.args_object_init_2 x v) F.entry_enumerate_new (ck_enum_new B) ⟨fit, ?_⟩
  show (∃ u, _ ∧ _) ∧ _
  rw [n1]
  refine ⟨⟨_, ctr, rfl⟩, q _ ctr (Heap.get?_push_of_some _ (Heap.get?_push_size _ B.free)) ?_ fun b u e => Heap.get?_push_of_some _ (Heap.get?_push_of_some _ e)⟩
  rw [Heap.size_push, n1]
end PySem
namespace L2
open PySem PySem.Spec PyProof.Rows
/-! ### enumerate(tuple) -/
/-- the tuple at a as it stands, each item in a new pair with its place -/
def Iet (K : PySem.W.Frag) (a : Addr) : It where
  go i H := ∃ (xs : List V) (x : V), SqT K H a xs ∧ xs[i]? = some x
  yld i H v H' := ∃ T x, v = .ref T ∧ H T = none ∧ H' = upd H T (.tup [.int (i : Nat), x]) ∧ ∀ xs, SqT K H a xs → xs[i]? = some x
  stop i H := ∃ xs : List V, SqT K H a xs ∧ xs.length = i
/-- ahead of the i-th turn: e counts, it stands at the tuple's i-th place -/
structure AtEnum (a e it : Addr) (i : Nat) (h : Heap) : Prop where
  ctr : ∃ old, IsEnum h e it ((i : Nat) : Int) old
  pos : h.IsTupleIter it a i
  ne : e ≠ it
section
variable {a e it : Addr} {i : Nat} {h h' : Heap}
theorem AtEnum.live (z : AtEnum a e it i h) : ∀ b, b ∈ [e, it] → ∃ o, h.get? b = some o ∧ ∀ v, o.data ≠ .cell v := by
  obtain ⟨⟨_, c⟩, ⟨o, p1, _, p2⟩, _⟩ := z
  have one : ∃ o, h.get? e = some o ∧ ∀ v, o.data ≠ .cell v := ⟨_, c, fun _ => nofun⟩
  have two : ∃ o, h.get? it = some o ∧ ∀ v, o.data ≠ .cell v := ⟨o, p1, fun v w => nomatch p2.symm.trans w⟩
  exact List.forall_mem_cons.mpr ⟨one, List.forall_mem_cons.mpr ⟨two, nofun⟩⟩
theorem AtEnum.lt (z : AtEnum a e it i h) {b : Addr} (hb : b ∈ [e, it]) : b < h.objs.size := (z.live b hb).elim fun _ q => Heap.lt_size q.1
theorem AtEnum.keep (z : AtEnum a e it i h) (k : ∀ b, b ∈ [e, it] → ∀ o, h.get? b = some o → h'.get? b = some o) : AtEnum a e it i h' :=
  ⟨z.ctr.imp fun _ c => k e List.mem_cons_self _ c, z.pos.at fun o => k it (List.mem_cons_of_mem _ (List.mem_singleton.mpr rfl)) o, z.ne⟩
end
theorem turn_enumT {P : Program} {w : World} {K : PySem.W.Frag} {elts : List Expr} {kk : Nat} {tpos : Pos} (a e it : Addr) (hae : a ≠ e) (hai : a ≠ it) : Turn P w K (.Tuple elts kk tpos) (Iet K a) [e, it] e (AtEnum a e it) where
  mem := List.mem_cons_self
  obj := fun _ _ z => z.live
  keep := fun _ _ _ z => z.keep
  self := fun _ _ _ _ _ z q => z.ctr.elim fun _ c => wpAny_pyIter_enum c q
  item := by
    rintro X rfl rfl rfl calm i pins s σ H E I free z ⟨xs, x, at_, xi⟩
    obtain ⟨us, vals, tup, _⟩ := I.tuple at_
    obtain ⟨u, ui, ru⟩ := vals.get xi
    obtain ⟨old, c⟩ := z.ctr
    have last := z.lt List.mem_cons_self
    refine wpAny_pyNext_enum_itemD (Draws.tuple (prog := X.prog) (w := X.w) (A := X.A.in1) (I.ok.hd calm) it a hai us.toArray) c ⟨z.pos, tup⟩ (by rw [List.size_toArray]; exact (List.getElem?_eq_some_iff.mp ui).1) z.ne (by simp [z.ne, Ne.symm hae]) fun y h1 tk iy out step pair _ rest => ⟨_, rfl, ?_⟩
    have ey : y = u := by
      rw [List.getElem?_toArray, ui] at iy
      exact (Option.some.inj iy).symm
    subst ey
    refine wpAny_letOwnedTupleGo_enum (s := { s with heap := h1, toks := tk + 1 }) out fun h2 ctr2 side => ?_
    have far : ∀ b o, b ∉ [e, it] → s.heap.get? b = some o → h2.get? b = some o := fun b o nb q =>
      (side.2 b fun y => nb (y ▸ List.mem_cons_self)).trans (rest b o (fun y => nb (y ▸ List.mem_cons_self)) (fun y => nb (y ▸ List.mem_cons_of_mem _ (List.mem_singleton.mpr rfl))) q)
    have pair2 := (side.2 _ (Nat.ne_of_gt last)).trans pair
    have made : ObjOk X.prog X.w (upd H s.heap.objs.size (.tup [.int (i : Nat), x])) h2 s.heap.objs.size (.tup [.int (i : Nat), x]) :=
      ⟨show 2 ≤ sizeLine by decide, [.int i tk, y], .cons ⟨tk, rfl⟩ (.cons ru .nil), _, pair2, rfl, _, rfl⟩
    refine ⟨.ref s.heap.objs.size, _, I.turnedNew (t' := tk + 1) (ch := [e, it]) far free (Nat.le_refl _) made, rfl, ⟨_, x, rfl, I.hok.fresh (Nat.le_refl _), rfl, fun ys at2 => ?_⟩, ⟨⟨y, ?_⟩, step.1.at fun o q => (side.2 it (Ne.symm z.ne)).trans q, z.ne⟩, fun b hb => ?_⟩
    · rw [I.tuple_inj at2 at_]
      exact xi
    · rw [Int.natCast_succ]
      exact ctr2
    · rw [upd_ne (Nat.ne_of_lt (z.lt hb))]
      exact (free b hb).1
  done := by
    rintro X rfl rfl rfl calm i pins s σ H E I free z ⟨xs, at_, rfl⟩
    obtain ⟨us, vals, tup, _⟩ := I.tuple at_
    obtain ⟨old, c⟩ := z.ctr
    obtain ⟨g0, g1, _, g3, g4, g5⟩ := free it (List.mem_cons_of_mem _ (List.mem_singleton.mpr rfl))
    have D := Draws.tuple (prog := X.prog) (w := X.w) (A := X.A.in1) (I.ok.hd calm) it a hai us.toArray
    rw [List.size_toArray, ← vals.length] at D
    exact wpAny_pyNext_enum_endD D c ⟨z.pos, tup⟩ fun _ k => ⟨rfl, I.turned (t' := s.toks) (fun b o nb q => k b o nb q) g0 g1 g3 g4 g5⟩
def iEnumT (K : PySem.W.Frag) (ta : TA) : TI := fun σ H R => ta σ H fun vs H1 => ∃ a xs, vs = [.ref a] ∧ SqT K H1 a xs ∧ R (Iet K a) H1
theorem pi_enumT {X : Cx} {e : Expr} {ta : TA} {p pos tpos : Pos} {elts : List Expr} {kk : Nat} (hg : Gl X "enumerate") (hm : X.mg "enumerate" = none) (ha : PA X [e] ta) (hs : starEach [e] X.env = [(false, eval e X.env)] := by rfl) :
    PI X (.Tuple elts kk tpos) (.Call (.Name "enumerate" p) [e] [] pos) (iEnumT X.K ta) where
  run := fun pins s σ H R I h => by
    refine Call_ (ld_blt I hg hm boot_enumerate (PyProof.Rows.callWith_type1 (thn (ha.run pos pins s σ H _ I h) fun us s1 ⟨vs, H1, I1, rel, a, xs, ev, at_, goes⟩ => ?_) hs rfl))
    subst ev
    obtain ⟨u, rfl, ru⟩ := vals1 rel
    have eu : u = Value.ref a := ru
    subst eu
    obtain ⟨us, _, tup, _⟩ := I1.tuple at_
    have low : a < s1.heap.objs.size := tup.elim fun _ q => Heap.lt_size q.1
    refine ck_enum_begins (begins_tuple a us.toArray) tup fun h1 ctr pos _ old => wpAny_pyIter_enum ctr ?_
    have over : ∀ b, b ∈ [s1.heap.objs.size + 1, s1.heap.objs.size] → s1.heap.objs.size ≤ b := List.forall_mem_cons.mpr ⟨Nat.le_succ _, List.forall_mem_cons.mpr ⟨Nat.le_refl _, nofun⟩⟩
    exact ⟨_, _, _, _, H1, rfl, I1.kept (t' := s1.toks) old, turn_enumT a _ _ (Nat.ne_of_lt (Nat.lt_succ_of_lt low)) (Nat.ne_of_lt low), ⟨⟨_, ctr⟩, ⟨_, pos, rfl, rfl⟩, Nat.succ_ne_self _⟩, fun b hb => I1.fpOk (over b hb) (I1.hok.fresh (over b hb)), goes⟩
theorem walk_enumT {K : PySem.W.Frag} {a : Addr} {xs : List V} : Walk (Iet K a) xs.length (fun H => SqT K H a xs) (YPair (fun i => some (.int (i : Nat))) (fun i => xs[i]?)) :=
  ⟨fun i _ hi q => ⟨xs, xs[i], q, List.getElem?_eq_getElem hi⟩, fun _ q => ⟨xs, q, rfl⟩, fun i _ _ _ _ q ⟨T, x, ev, free, eh, at_⟩ => ⟨T, .int (i : Nat), x, ev, free, eh, rfl, at_ xs q⟩⟩
end L2
namespace CK
open PySem PySem.Spec PyProof.Rows L2
open Evl (Ex ex_l ex_t fresh_back)
open C8 (Cal pe_c)
section
variable {X : Cx} {tg e a b iter elt : Expr} {es ifs : List Expr} {pos p p' tpos : Pos} {st : Stmt} {rest body : List Stmt}
theorem yld_enumT {K : PySem.W.Frag} {S : Hp} {a : Addr} {xs : List V} {ds : List PD} (ha : S a = some (.tup xs)) (hd : DVs S xs ds) : Yields S (Iet K a) (enumD ds) := by
  have w := walk_enumT (K := K) (a := a) (xs := xs)
  rw [hd.length, ← enumD_length] at w
  refine ⟨fun i H hi e => w.goes i H hi (SqT.of (e _ _ ha)), fun H e => w.stops H (SqT.of (e _ _ ha)), fun i H v H' hi e y => ?_⟩
  obtain ⟨T, x, z, h1, h2, h3, h4, h5⟩ := w.yields i H v H' hi (SqT.of (e _ _ ha)) y
  obtain ⟨d, h6, h7⟩ := hd.get' i h5
  have h4 : V.int (i : Nat) = x := Option.some.inj h4
  subst h4
  exact ⟨_, enumD_get h6, .inr ⟨T, _, _, h1, h2, h3, rfl, .cons (.int _) (.cons h7 .nil)⟩⟩
def dEnT (td : TED) : TAD := fun ρ Q => td ρ fun d ρ1 => tupK d fun ds => Q (enumD ds) ρ1
theorem i_enumT {td : TED} {elts : List Expr} {kk : Nat} (hm : X.mg "enumerate" = none) (h : PED X e td) (hg : Gl X "enumerate" := by rfl) (hs : starEach [e] X.env = [(false, eval e X.env)] := by rfl) : PID X (.Tuple elts kk tpos) (.Call (.Name "enumerate" p) [e] [] pos) (dEnT td) :=
  impPI (pi_enumT hg hm (pa_cons h pa_nil hs) hs) fun σ H R h => by
    obtain ⟨B, ρ, S, Q, E, h, k⟩ := h
    refine ⟨B, ρ, S, _, E, h, fun v H1 d ρ1 S1 E1 e1 hv h1 => ?_⟩
    obtain ⟨a, xs, ds, rfl, ha, hd, h1⟩ := tupK_of hv h1
    exact ⟨_, _, rfl, SqT.of (E1.sub _ _ ha), k _ H1 ρ1 S1 _ E1 e1 (yld_enumT ha hd) h1⟩
end
end CK
set_option Elab.async false
set_option linter.all false
set_option maxRecDepth 100000
set_option maxHeartbeats 4000000
namespace L2
open PySem PySem.Spec PyProof.Rows
/-! ### set(xs), xs a list of ints -/
/-- a set as it is made: empty -/
abbrev setO0 (w : World) : Obj := { cls := .type "set", dict := none, data := .set #[] 0 (.fresh 0 0 (!w.params.followText "set-order")) }
/-- what is wanted of it once the list went in -/
abbrev Filled (w : World) (s : Shared) (a : Addr) (ns : List Int) (r : Value) (s2 : Shared) : Prop := r = .none ∧ ∃ h tk c, s2 = { s with heap := h, toks := tk } ∧ SetR w h a (fun j => decide (j ∈ ns)) c ∧ c ≤ ns.length ∧ ∀ b o, s.heap.get? b = some o → h.get? b = some o
section
variable {P : Program} {w : World} {A : Around} {E Q : Value → Shared → Prop} {s : Shared} {l : Addr} {items : Array Value} {ns : List Int}
theorem ints_at (its : IntsAre items.toList ns) (i : Nat) (v : Value) (hv : items[i]? = some v) : ∃ k t, ns[i]? = some k ∧ v = .int k t := by
  obtain ⟨t, rfl⟩ := PyProof.Rows.IntsAre.int_at its i v ((Array.getElem?_toList ..).trans hv)
  have lt : i < ns.length := by rw [← IntsAre.length its, Array.length_toList]; exact (Array.getElem?_eq_some_iff.mp hv).1
  exact ⟨ns[i], t, List.getElem?_eq_getElem lt, by rw [List.getD_eq_getElem?_getD, List.getElem?_eq_getElem lt]; rfl⟩
/-- the items go in, one by one -/
theorem set_init_list (calm : A.handled = none) (hl : s.heap.IsList l items) (its : IntsAre items.toList ns) (few : ns.length + 1 < scanBound) :
    codeAny (model P w) A (.call (.builtin "set.__init__") ⟨[.ref s.heap.objs.size, .ref l], []⟩) (wants (Filled w s s.heap.objs.size ns) E) { s with heap := s.heap.push (setO0 w) } := by
  have new : (s.heap.push (setO0 w)).get? s.heap.objs.size = some (setO0 w) := Heap.get?_push_size _ rfl
  have kind : Shared.TypeIs { s with heap := s.heap.push (setO0 w) } (.ref s.heap.objs.size) "set" := ⟨_, new, rfl⟩
  have size : items.size = ns.length := by rw [← IntsAre.length its, Array.length_toList]
  refine codeAny_call_builtin F.called_set.init.plain F.entry_set_init (check_set_init_1 kind ?_)
  obtain ⟨⟨_, dd, _, sl⟩, at_, rfl, n, rfl⟩ := hl
  have low : l < s.heap.objs.size := Heap.lt_size at_
  have at2 : (s.heap.push (setO0 w)).get? l = some { cls := .type "list", dict := dd, data := .seq items n, slots := sl } := Heap.get?_push_of_some _ at_
  have list2 : (s.heap.push (setO0 w)).IsList l items := ⟨_, at2, rfl, n, rfl⟩
  have no1 := F.sub_list_set
  have no2 := F.sub_list_frozenset
  have no3 : (Value.type "list" == Value.type "dict") = false := rfl
  unfold Builtin.«set.__init__» noKeywords Builtin.Frozenset.updateFrom
  generalize iter : pyIter = walk
  wp_walk
  subst iter
  refine wpAny_pyIter_list list2 (wpAny_bind (wpAny_runValue ?_))
  have two : (s.heap.push (setO0 w)).objs.size = s.heap.objs.size + 1 := Heap.size_push ..
  have calm2 : A.in1.in1.handled = none := by simp [calm]
  have ne1 : l ≠ (s.heap.push (setO0 w)).objs.size := two ▸ Nat.ne_of_lt (Nat.lt_succ_of_lt low)
  have off : s.heap.objs.size ∉ [(s.heap.push (setO0 w)).objs.size, l] := fun z => by
    rw [two] at z
    rcases List.mem_cons.mp z with z | z
    · exact Nat.ne_of_lt (Nat.lt_succ_self _) z
    · exact Nat.ne_of_gt low (List.mem_singleton.mp z)
  refine set_update_ints (Walks.list calm2 _ l ne1 items).toS s.heap.objs.size off ns size few (ints_at its) items.size 0 _ (Nat.sub_zero _) (Nat.zero_le _) ?_ ?_ ?_
  · exact ⟨⟨_, Heap.get?_push_size _ rfl, rfl, rfl⟩, list2.push _⟩
  · exact ⟨0, Nat.le_refl 0, setR_new_at (Heap.get?_push_of_some _ new)⟩
  rintro ⟨h2, g2, d2, tk2, os2⟩ c moved le made
  obtain rfl : g2 = s.gens := moved.gens
  obtain rfl : d2 = s.drawn := moved.drawn
  obtain rfl : os2 = s.os := moved.os
  refine wpAny_pure (wpAny_pure ⟨rfl, h2, tk2, c, rfl, made, size ▸ le, fun b o e => ?_⟩)
  have lt : b < s.heap.objs.size := Heap.lt_size e
  refine moved.heap b o (fun z => ?_) (Heap.get?_push_of_some _ (Heap.get?_push_of_some _ e))
  rw [two] at z
  rcases List.mem_cons.mp z with z | z
  · exact Nat.ne_of_lt lt z
  · exact Nat.ne_of_lt (Nat.lt_succ_of_lt lt) (List.mem_singleton.mp z)
theorem ck_set_list (calm : A.handled = none) (hl : s.heap.IsList l items) (its : IntsAre items.toList ns) (few : ns.length + 1 < scanBound)
    (q : ∀ (h : Heap) (tk c : Nat), SetR w h s.heap.objs.size (fun j => decide (j ∈ ns)) c → c ≤ ns.length → (∀ b o, s.heap.get? b = some o → h.get? b = some o) → Q (.ref s.heap.objs.size) { s with heap := h, toks := tk }) :
    wpAny (model P w) A (call (.type "set") [.ref l]) Q E s := by
  obtain ⟨c0, rest, mro⟩ := F.called_set.mro
  have made := F.called_set.made
  have sub := F.called_set.sub
  have nt := F.called_set.notType
  have cc := F.called_set.canCreate
  have ct := F.typeCall_set_1 (.ref l)
  refine wpAny_call (codeAny_of_tree (show wpAny _ _ (callAny (.type "set") _) _ _ _ from wpAny_pure ⟨Code.quiet_builtin _ (by decide +kernel), codeAny_builtin F.entry_type_call ?_⟩))
  rw [Around.under_plain (weight_type_call_type "set" [.ref l] []) rfl]
  repeat any_goals first | assumption | wp_step
  refine codeAny_mono (code_set_led1 (.ref l) (E := E) (Q₁ := fun x s1 => x = .ref s.heap.objs.size ∧ s1 = { s with heap := s.heap.push (setO0 w) }) ⟨rfl, rfl⟩) fun r s1 got => ?_
  match r, got with
  | .error _, got => exact got
  | .ok .next, got => exact got.elim
  | .ok .brk, got => exact got.elim
  | .ok .cont, got => exact got.elim
  | .ok (.ret _), got =>
    obtain ⟨rfl, rfl⟩ := got
    have new : (s.heap.push (setO0 w)).get? s.heap.objs.size = some (setO0 w) := Heap.get?_push_size _ rfl
    have kind : Shared.TypeIs { s with heap := s.heap.push (setO0 w) } (.ref s.heap.objs.size) "set" := ⟨_, new, rfl⟩
    have found := F.called_set.init.lookup
    have bound := F.called_set.init.bind (.ref s.heap.objs.size)
    repeat any_goals first | assumption | wp_step
    refine codeAny_mono (set_init_list (E := E) ?_ hl its few) fun r2 s2 got2 => ?_
    · exact calm
    match r2, got2 with
    | .error _, got2 => exact got2
    | .ok .next, got2 => exact got2.elim
    | .ok .brk, got2 => exact got2.elim
    | .ok .cont, got2 => exact got2.elim
    | .ok (.ret _), got2 =>
      obtain ⟨rfl, h, tk, c, rfl, R1, le, keep⟩ := got2
      repeat any_goals first | assumption | wp_step
      exact q h tk c R1 le keep
end
section
variable {X : Cx}
def rSetOfL (K : PySem.W.Frag) (w : World) : List V → Hp → VK → Prop := fun xs H Q => ∃ (p : Addr) (ns : List Int), xs = [.ref p] ∧ SqL K H p (ns.map V.int) ∧ ns.length ≤ 1000 ∧ ∀ q c, H q = none → c ≤ ns.length → Q (.ref q) (upd H q (SetO w q (fun j => decide (j ∈ ns)) c))
theorem cr_setOfL (hc : X.calm = true) : CallR X (.type "set") (rSetOfL X.K X.w) := fun pins s σ H xs us Q I rel ⟨p, ns, ex, at_, few, q⟩ => by
  subst ex
  obtain ⟨u, rfl, ru⟩ := vals1 rel
  have eu : u = Value.ref p := ru
  subst eu
  obtain ⟨its, vals, there, _⟩ := I.list at_
  have big : ns.length + 1 < scanBound := by unfold scanBound; omega
  exact ck_set_list (I.ok.hd hc) there.isList (ints_of_vals vals) big fun h tk c R1 le keep => ⟨.ref s.heap.objs.size, _, I.laid (t' := tk) keep (Nat.le_refl _) (setO_new R1), rfl, q _ c (I.hok.fresh (Nat.le_refl _)) le⟩
end
end L2
namespace CK
open PySem PySem.Spec PyProof.Rows L2
open Evl (Ex ex_l ex_t fresh_back)
open C8 (Cal pe_c)
section
variable {X : Cx} {tg e a b iter elt : Expr} {es ifs : List Expr} {pos p p' tpos : Pos} {st : Stmt} {rest body : List Stmt} {td : TED}
/-- sorted(d), d a dict of one's own with texts for keys -/
def dSortS (i : Nat) : TED := fun ρ Q => dicOf (rget ρ i) fun kvs => ∃ ks : List Str, kvs.map (·.1) = ks.map Sum.inr ∧ ks.length < 64 ∧ ∀ ys : List Str, ys.Perm ks → sortedS ys = true → Q (.list (ys.map .str)) ρ
theorem p_sortedDS (i : Nat) {x : Str} {px : Pos} (hm : X.mg "sorted" = none) (hc : X.calm = true := by rfl) (hg : Gl X "sorted" := by rfl) (hN : X.N[i]? = some x := by rfl) (hv : Vis X.env.scope x := by first | exact Or.inl rfl | exact Or.inr (Or.inl rfl) | exact Or.inr (Or.inr rfl)) (hd : (x == ("__debug__" : Str)) = false := by decide)
    (hcd : (x == ("__classdict__" : Str)) = false := by decide) (he : starEach [.Name x px] X.env = (false, eval (.Name x px) X.env) :: starEach [] X.env := by rfl) (hpl : (backTo pos (starEach [] X.env)).any (·.1) = false := by rfl) : PED X (.Call (.Name "sorted" p) [.Name x px] [] pos) (dSortS i) :=
  impPE (pe_callB (call_sortedD hc) hg hm (by decide +kernel) (pa_cons (pe_var hN hv hd hcd) pa_nil he) (by decide) (by decide) he hpl) fun σ H R h => by
    obtain ⟨B, ρ, S, Q, E, h, k⟩ := h
    obtain ⟨a, vs, kvs, eq, ha, hS, hH, hds, ks, h1, h2, h3⟩ := dicOf_at E h
    refine ⟨.ref a, ha, a, vs, ks, rfl, .inl hH, hds.keys.trans h1, h2, fun ys p hp hs hn => ?_⟩
    have g := Grow.lay (o := .lst (ys.map V.str)) E.sub hn
    exact k _ _ _ ρ _ (E.grow g) g.s (.lst upd_same (DVs.strs _)) (h3 ys hp hs)
/-- .. with ints for keys -/
def dSortI (i : Nat) : TED := fun ρ Q => dicOf (rget ρ i) fun kvs => ∃ ks : List Int, kvs.map (·.1) = ks.map Sum.inl ∧ ks.length < 64 ∧ ∀ ys : List Int, ys.Perm ks → ys.Pairwise (· ≤ ·) → Q (.list (ys.map .int)) ρ
theorem p_sortedDI (i : Nat) {x : Str} {px : Pos} (hm : X.mg "sorted" = none) (hc : X.calm = true := by rfl) (hg : Gl X "sorted" := by rfl) (hN : X.N[i]? = some x := by rfl) (hv : Vis X.env.scope x := by first | exact Or.inl rfl | exact Or.inr (Or.inl rfl) | exact Or.inr (Or.inr rfl)) (hd : (x == ("__debug__" : Str)) = false := by decide)
    (hcd : (x == ("__classdict__" : Str)) = false := by decide) (he : starEach [.Name x px] X.env = (false, eval (.Name x px) X.env) :: starEach [] X.env := by rfl) (hpl : (backTo pos (starEach [] X.env)).any (·.1) = false := by rfl) : PED X (.Call (.Name "sorted" p) [.Name x px] [] pos) (dSortI i) :=
  impPE (pe_callB (call_sortedDI hc) hg hm (by decide +kernel) (pa_cons (pe_var hN hv hd hcd) pa_nil he) (by decide) (by decide) he hpl) fun σ H R h => by
    obtain ⟨B, ρ, S, Q, E, h, k⟩ := h
    obtain ⟨a, vs, kvs, eq, ha, hS, hH, hds, ks, h1, h2, h3⟩ := dicOf_at E h
    refine ⟨.ref a, ha, a, vs, ks, rfl, .inl hH, hds.keys.trans h1, h2, fun ys p hp hs hn => ?_⟩
    have g := Grow.lay (o := .lst (ys.map V.int)) E.sub hn
    exact k _ _ _ ρ _ (E.grow g) g.s (.lst upd_same (DVs.ints _)) (h3 ys hp hs)
/-- repr -/
theorem ck_repr {k : Nat} (hg : X.A.guards = some []) (hu : Room k X.A) : CallR X (.builtin "repr") (fun xs H Q => (∃ b, xs = [.bl b] ∧ Q (.str (PyData.shown (.bool b))) H) ∨ ∃ a ds, xs = [.ref a] ∧ Dp X.K H (.ref a) (.list ds) ∧ PyData.showable (.list ds) = true ∧ (PyData.list ds).hasDict = false ∧ (PyData.list ds).depth ≤ 10 ∧ (PyData.shown (.list ds)).length ≤ sizeLine ∧ Q (.str (PyData.shown (.list ds))) H) := by
  intro pins s σ H xs us Q I r h
  rcases h with ⟨b, rfl, q⟩ | ⟨a, ds, rfl, hd, h1, h2, h3, h4, q⟩
  · obtain ⟨u, rfl, rx⟩ := vals1 r
    obtain rfl : u = Value.bool b := rx
    refine PySem.P.repr_of_bool ⟨.str _, H, I.tok _, ⟨_, rfl⟩, ?_⟩
    cases b
    · exact q
    · exact q
  · obtain ⟨u, rfl, rx⟩ := vals1 r
    obtain ⟨as, r1⟩ := Dp.reads I _ _ _ hd rx
    cases rx
    have := hu.units
    exact repr_of_reads' r1 h1 (fun e => by rw [h2] at e; cases e) hg (by omega) (fun _ _ e => e) (fun h' u tk hk => ⟨.str _, H, I.kept hk, ⟨u, rfl⟩, q⟩) h4
def wRepr : WDA
  | [.bool b], k => k (.str (PyData.shown (.bool b)))
  | [.list ds], k => ∃ ns : List Int, ds = ns.map .int ∧ ns.length ≤ 1000 ∧ (∀ n, n ∈ ns → n.natAbs < 10 ^ 6) ∧ k (.str (PyData.shown (.list ds)))
  | _, _ => False
theorem ints_showable : ∀ ns : List Int, (∀ n, n ∈ ns → n.natAbs < 10 ^ 6) → PyData.showableAll (ns.map .int) = true
  | [], _ => by simp only [List.map_nil, PyData.showableAll]
  | n :: ns, h => by
    have h1 := h n List.mem_cons_self
    have h2 : n.natAbs.log2 < 1920 := by
      by_cases q : n.natAbs = 0
      · rw [q]; decide
      · refine (Nat.log2_lt q).mpr (Nat.lt_of_lt_of_le h1 ?_)
        have e1 : 10 ^ 6 ≤ 2 ^ 20 := by decide
        exact Nat.le_trans e1 (Nat.pow_le_pow_right (by decide) (by decide))
    simp only [List.map_cons, PyData.showableAll, PyData.showable, Bool.and_eq_true, decide_eq_true_eq]
    exact ⟨h2, ints_showable ns fun m hm => h m (List.mem_cons_of_mem _ hm)⟩
theorem ints_nodict : ∀ ns : List Int, PyData.hasDictAll (ns.map .int) = false
  | [] => by simp only [List.map_nil, PyData.hasDictAll]
  | n :: ns => by simp only [List.map_cons, PyData.hasDictAll, PyData.hasDict, ints_nodict ns, Bool.or_self]
theorem ints_depth : ∀ ns : List Int, PyData.depthAll (ns.map .int) = 0
  | [] => by simp only [List.map_nil, PyData.depthAll]
  | n :: ns => by simp only [List.map_cons, PyData.depthAll, PyData.depth, ints_depth ns, Nat.max_self]
theorem ints_piled : ∀ ns : List Int, (∀ n, n ∈ ns → n.natAbs < 10 ^ 6) → piled (PyData.shownAll (ns.map .int)) ≤ 9 * ns.length
  | [], _ => by simp only [List.map_nil, PyData.shownAll]; exact Nat.le_refl _
  | n :: ns, h => by
    have h1 := h n List.mem_cons_self
    have h2 := ints_piled ns fun m hm => h m (List.mem_cons_of_mem _ hm)
    have h3 := int_text_length_le10 (k := 6) (by decide) h1
    have h4 : ((toString n : String) : Str).length ≤ 7 := by
      show (Str.ofString (toString n)).length ≤ 7
      rw [PySem.ofString_length]
      exact h3
    simp only [List.map_cons, PyData.shownAll, PyData.shown, List.length_cons]
    rw [piled_cons]
    omega
theorem textFrom_le : ∀ (ts : List Str) (k : Nat) (acc : Str), (textFrom k acc ts).length ≤ acc.length + piled ts
  | [], _, acc => by show acc.length ≤ acc.length + 0; exact Nat.le_refl _
  | t :: r, k, acc => by
    have ih := textFrom_le r (k + 1) (acc ++ (if k > 0 then ", " else "" : String) ++ t)
    have e : (acc ++ (if k > 0 then ", " else "" : String) ++ t).length ≤ acc.length + 2 + t.length := by
      rw [strLen_append, strLen_append]
      split
      · exact Nat.le_refl _
      · exact Nat.add_le_add_right (Nat.le_add_right _ 2) _
    show (textFrom (k + 1) _ r).length ≤ _
    rw [piled_cons]
    omega
theorem ints_shown {ns : List Int} (hl : ns.length ≤ 1000) (h : ∀ n, n ∈ ns → n.natAbs < 10 ^ 6) : (PyData.shown (.list (ns.map .int))).length ≤ sizeLine := by
  have h1 := ints_piled ns h
  have h2 := textFrom_le (PyData.shownAll (ns.map .int)) 0 "["
  have e1 : ((("[" : String) : Str)).length = 1 := rfl
  have e2 : ((("]" : String) : Str)).length = 1 := rfl
  simp only [PyData.shown]
  unfold listText
  rw [strLen_append, e2, sizeLine_eq]
  omega
theorem s_repr {K : PySem.W.Frag} : SCall (fun xs H Q => (∃ b, xs = [.bl b] ∧ Q (.str (PyData.shown (.bool b))) H) ∨ ∃ a ds, xs = [.ref a] ∧ Dp K H (.ref a) (.list ds) ∧ PyData.showable (.list ds) = true ∧ (PyData.list ds).hasDict = false ∧ (PyData.list ds).depth ≤ 10 ∧ (PyData.shown (.list ds)).length ≤ sizeLine ∧ Q (.str (PyData.shown (.list ds))) H) wRepr := by
  intro S H xs ds k R hs hx h q
  unfold wRepr at h
  split at h
  · cases hx with
    | cons hv ht =>
      cases ht
      cases hv
      exact .inl ⟨_, rfl, q _ H S _ (Grow.refl hs) (.str _) h⟩
  · rename_i ds
    obtain ⟨ns, rfl, h1, h2, h3⟩ := h
    obtain ⟨v, e, hv⟩ := one_arg hx
    obtain ⟨a, ys, rfl, ha, hd⟩ := one_list hx
    cases e
    refine .inr ⟨a, _, rfl, DV.dp _ _ (DV.mono hs _ _ hv), ?_, ?_, ?_, ints_shown h1 h2, q _ H S _ (Grow.refl hs) (.str _) h3⟩
    · simp only [PyData.showable]
      exact ints_showable ns h2
    · simp only [PyData.hasDict]
      exact ints_nodict ns
    · simp only [PyData.depth, ints_depth]
      decide
  · exact h.elim
theorem p_repr {k : Nat} {t : TAD} (hr : Room k X.A) (hgu : X.A.guards = some []) (hm : X.mg "repr" = none) (ha : PAD X [e] t) (hg : Gl X "repr" := by rfl) (he : starEach [e] X.env = (false, eval e X.env) :: starEach [] X.env := by rfl) (hpl : (backTo pos (starEach [] X.env)).any (·.1) = false := by rfl) : PED X (.Call (.Name "repr" p) [e] [] pos) (dCall wRepr t) := p_callB (ck_repr hgu hr) s_repr hg hm (by decide +kernel) ha (by decide) (by decide) he hpl
/-- sorted(set(xs)) of ints -/
def dSortSet (td : TED) : TED := fun ρ Q => td ρ fun d ρ1 => lstK d fun ds => ∃ ns : List Int, ds = ns.map .int ∧ ns.length < 64 ∧ ∀ ys : List Int, ys.Pairwise (· < ·) → (∀ k : Int, k ∈ ys ↔ k ∈ ns) → Q (.list (ys.map .int)) ρ1
theorem p_sortedSet {k : Nat} {p2 pos2 : Pos} (hr : Room k X.A) (hm : X.mg "sorted" = none) (hm2 : X.mg "set" = none) (ha : PED X e td) (hc : X.calm = true := by rfl) (hg : Gl X "sorted" := by rfl) (hg2 : Gl X "set" := by rfl) (he : starEach [e] X.env = (false, eval e X.env) :: starEach [] X.env := by rfl) (hpl : (backTo pos2 (starEach [] X.env)).any (·.1) = false := by rfl) (hpl2 : (backTo pos (starEach [] X.env)).any (·.1) = false := by rfl)
    (he2 : starEach [.Call (.Name "set" p2) [e] [] pos2] X.env = (false, eval (.Call (.Name "set" p2) [e] [] pos2) X.env) :: starEach [] X.env := by rfl) :
    PED X (.Call (.Name "sorted" p) [.Call (.Name "set" p2) [e] [] pos2] [] pos) (dSortSet td) :=
  impPE (pe_callB (cr_sortedSet hc) hg hm (by decide +kernel) (pa_cons (pe_callTy (cr_setOfL hc) hg2 hm2 (by decide +kernel) (pa_cons ha pa_nil he) (by decide) (by decide) he hpl) pa_nil he2) (by decide) (by decide) he2 hpl2) fun σ H R h => by
    obtain ⟨B, ρ, S, Q, E, h, k⟩ := h
    refine ⟨B, ρ, S, _, E, h, fun v H1 d ρ1 S1 E1 e1 hv h1 => ?_⟩
    obtain ⟨a, xs, ds, rfl, ha, hd, ns, rfl, h2, h3⟩ := lstK_of hv h1
    rw [hd.ints_inv] at ha
    refine ⟨a, ns, rfl, SqL.of (E1.sub _ _ ha), by omega, fun q c hq hc => ⟨q, _, c, rfl, upd_same, by omega, fun ys p hp hm hl hn => ?_⟩⟩
    have g1 := Grow.lay1 (o := SetO X.w q (fun j => decide (j ∈ ns)) c) E1.sub hq
    have g := g1.trans (Grow.lay (o := .lst (ys.map V.int)) g1.sub hn)
    exact k _ _ _ ρ1 _ (E1.grow g) (e1.trans g.s) (.lst upd_same (DVs.ints _)) (h3 ys hp fun k => by rw [hm k, decide_eq_true_eq])
end
end CK
set_option Elab.async false
set_option linter.all false
set_option maxRecDepth 100000
set_option maxHeartbeats 4000000
namespace CK
open PySem PySem.Spec PyProof.Rows L2
open Evl (Ex ex_l ex_t fresh_back)
open C8 (Cal pe_c)
section
variable {X : Cx} {tg e a b o iter elt : Expr} {es ifs : List Expr} {pos p p' tpos : Pos} {st : Stmt} {rest body : List Stmt} {td to : TED}
/-- a, b = [], [] -/
def dPar00 (i j : Nat) : TSD := fun D ρ => D.nx (rset (rset ρ i (.own [])) j (.own []))
theorem t_par00 (i j : Nat) {x y : Str} {px py pt pt2 pa pb : Pos} {kt k2} (hc : X.calm = true) (hN : X.N.Nodup) (hi : X.N[i]? = some x := by rfl) (hj : X.N[j]? = some y := by rfl) (hij : i ≠ j := by decide)
    (hx : X.env.scope.names.lookup x = some .local := by rfl) (hy : X.env.scope.names.lookup y = some .local := by rfl) (hw : swappedStores [.Tuple [.Name x px, .Name y py] kt pt] (.Tuple [.List [] pa, .List [] pb] k2 pt2) X.env = pure (some [x, y]) := by rfl)
    (hs : swapsWithSole [.Tuple [.Name x px, .Name y py] kt pt] (.Tuple [.List [] pa, .List [] pb] k2 pt2) pos.line X.env = pure false := by rfl) (h1 : starEach [.List [] pa, .List [] pb] X.env = (false, eval (.List [] pa) X.env) :: starEach [.List [] pb] X.env := by rfl) (h2 : starEach [.List [] pb] X.env = (false, eval (.List [] pb) X.env) :: starEach [] X.env := by rfl) :
    PSD X (.Assign [.Tuple [.Name x px, .Name y py] kt pt] (.Tuple [.List [] pa, .List [] pb] k2 pt2) pos) (dPar00 i j) := impPS (ps_par hc hN hi hj hij hx hy (pa_cons (pe_lst pa_nil) (pa_cons (pe_lst pa_nil) pa_nil h2) h1) hw hs) fun D σ H h => by
  obtain ⟨B, ρ, S, DD, E, h, kn, kb, kc, kr⟩ := h
  refine ⟨Nat.zero_le _, fun q hq => ⟨Nat.zero_le _, fun r hr => ⟨.ref q, .ref r, rfl, ?_⟩⟩⟩
  have E1 := put_own (E.grow (Grow.lay1 (o := .lst []) E.sub hq)) i (fresh_back E.sub hq) upd_same (E.new hq) (.nil)
  have E2 := put_own (E1.grow (Grow.lay1 (o := .lst []) E1.sub hr)) j (fresh_back E1.sub hr) upd_same (E1.new hr) (.nil)
  exact kn _ _ _ S E2 (Ex.refl _) h
/-- "..".join(xs) -/
def dJoin (to td : TED) : TED := fun ρ Q => to ρ fun a ρ1 => strK a fun z => td ρ1 fun d ρ2 => lstK d fun ds => ∃ ys : List Str, ds = ys.map .str ∧ (ys.map (·.length)).sum + ys.length * z.length ≤ 16777216 ∧ Q (.str (Txt.join z ys)) ρ2
theorem p_join {apos : Pos} (ho : PED X o to) (he : PED X e td) (hs : starEach [e] X.env = [(false, eval e X.env)] := by rfl) (hbase : attributeBase o "join" X.env (eval o X.env) = eval o X.env := by rfl) (hline : (apos.endLine == pos.line) = true := by rfl) :
    PED X (.Call (.Attribute o "join" apos) [e] [] pos) (dJoin to td) := impPE (pe_join ho he hs hbase hline) fun σ H R h => by
  obtain ⟨B, ρ, S, Q, E, h, k⟩ := h
  refine ⟨B, ρ, S, _, E, h, fun v H1 d ρ1 S1 E1 e1 hv h1 => ?_⟩
  obtain ⟨z, rfl, h1⟩ := strK_of hv h1
  refine ⟨⟨z, rfl⟩, B, ρ1, S1, _, E1, h1, fun u H2 d2 ρ2 S2 E2 e2 hu h2 => ?_⟩
  obtain ⟨a, xs, ds, rfl, ha, hd, ys, rfl, h3, h4⟩ := lstK_of hu h2
  rw [hd.strs_inv] at ha
  exact ⟨z, a, ys, rfl, rfl, .inl (SqL.of (E2.sub _ _ ha)), h3, k _ H2 _ ρ2 S2 E2 (e1.trans e2) (.str _) h4⟩
/-- xs.index(x), ints -/
def dIndex (to td : TED) : TED := fun ρ Q => to ρ fun d ρ1 => lstK d fun ds => td ρ1 fun y ρ2 => intK y fun n => ∃ ns : List Int, ds = ns.map .int ∧ ∃ j : Nat, ns[j]? = some n ∧ (∀ (m : Nat), m < j → ns[m]? ≠ some n) ∧ Q (.int (j : Int)) ρ2
theorem flat_ints : ∀ ns : List Int, (ns.map V.int).all flatV = true
  | [] => rfl
  | n :: ns => by
    rw [List.map_cons, List.all_cons, flat_ints ns]
    rfl
theorem p_index {apos : Pos} (ho : PED X o to) (he : PED X e td) (hbase : attributeBase o "index" X.env (eval o X.env) = eval o X.env := by rfl)
    (hfew : ((backTo pos (starEach [e] X.env)).all (fun x => !x.1) && (backToKw pos (keywordEach [] X.env)).all (fun x => x.1.isSome)
      && decide (([e] : List Expr).length + ([] : List Keyword).length + (if ([] : List Keyword).isEmpty then 0 else 1) < 30)) = true := by rfl)
    (hline : (apos.endLine == pos.line) = true := by rfl) (hs : starEach [e] X.env = (false, eval e X.env) :: starEach [] X.env := by rfl) (hplain : (backTo pos (starEach [] X.env)).any (·.1) = false := by rfl) :
    PED X (.Call (.Attribute o "index" apos) [e] [] pos) (dIndex to td) := impPE (pe_bm PySem.F.plainAttrs_list PySem.F.slot_list_index PySem.F.type_list_index mt_index ho (pa_cons he pa_nil hs) hbase hfew hline hs hplain) fun σ H R h => by
  obtain ⟨B, ρ, S, Q, E, h, k⟩ := h
  refine ⟨B, ρ, S, _, E, h, fun v H1 d ρ1 S1 E1 e1 hv h1 => ?_⟩
  obtain ⟨a, xs, ds, rfl, ha, hd, h1⟩ := lstK_of hv h1
  refine ⟨.inl ⟨rfl, xs, SqL.of (E1.sub _ _ ha)⟩, B, ρ1, S1, _, E1, h1, fun u H2 d2 ρ2 S2 E2 e2 hu h2 => ?_⟩
  obtain ⟨n, rfl, ns, rfl, j, h3, h4, h5⟩ := intK_of hu h2
  rw [hd.ints_inv] at ha
  refine ⟨a, ns.map .int, .int n, j, .int n, rfl, rfl, SqL.of (E2.sub _ _ (e2 _ _ ha)), rfl, flat_ints ns, by rw [List.getElem?_map, h3]; rfl, decide_eq_true rfl, fun m z' hm hz => ?_, k _ H2 _ ρ2 S2 E2 (e1.trans e2) (.int _) h5⟩
  rw [List.getElem?_map] at hz
  cases q : ns[m]? with
  | none => rw [q] at hz; cases hz
  | some y =>
    rw [q] at hz
    cases hz
    have : y ≠ n := fun z => h4 m hm (by rw [q, z])
    exact decide_eq_false (by intro z; cases z; exact this rfl)
end
end CK
set_option Elab.async false
set_option linter.all false
set_option maxRecDepth 100000
set_option maxHeartbeats 4000000
namespace CK
open PySem PySem.Spec PyProof.Rows L2
open Evl (Ex ex_l ex_t fresh_back)
open C8 (Cal pe_c)
/-! ### a list of one's own whose items are lists of one's own -/
def Bs.holdF (B : Bs) (F : Hp) : Bs := ⟨B.S, fun a => match F a with | some o => some o | none => B.H a, B.dk⟩
structure Cln (B : Bs) (F : Hp) : Prop where
  s : ∀ a, F a ≠ none → B.S a = none
  h : ∀ a, F a ≠ none → B.H a = none
  d : ∀ a, F a ≠ none → B.dk ≠ some a
section
variable {B : Bs} {F S H : Hp} {σ : L2.St} {ρ : Rho} {p m : Addr} {o o' : HO}
theorem holdF_some (h : F p = some o) : (B.holdF F).H p = some o := by
  show (match F p with | some o => some o | none => B.H p) = some o
  rw [h]
theorem holdF_none : (B.holdF F).H p = none ↔ F p = none ∧ B.H p = none := by
  show (match F p with | some o => some o | none => B.H p) = none ↔ _
  cases F p with
  | none => exact ⟨fun h => ⟨rfl, h⟩, fun h => h.2⟩
  | some o => exact ⟨fun h => (nomatch h), fun h => (nomatch h.1)⟩
theorem holdF_upd : (B.holdF F).hold p o = B.holdF (upd F p o) := by
  have e : upd (B.holdF F).H p o = (B.holdF (upd F p o)).H := funext fun a => by
    show upd (B.holdF F).H p o a = (match upd F p o a with | some o => some o | none => B.H a)
    by_cases q : a = p
    · subst q
      rw [upd_same, upd_same]
    · rw [upd_ne q, upd_ne q]
      rfl
  unfold Bs.hold
  rw [e]
  rfl
theorem holdF_nil : B.holdF (fun _ => none) = B := rfl
theorem Cln.nil : Cln B (fun _ => none) := ⟨fun _ h => absurd rfl h, fun _ h => absurd rfl h, fun _ h => absurd rfl h⟩
theorem EnvB.addF (E : EnvB (B.holdF F) S H σ ρ) (hH : H p = some o) (hS : S p = none) (n : New (B.holdF F) σ ρ p) : EnvB (B.holdF (upd F p o)) S H σ ρ := by
  have q := E.hold hH hS n
  rw [holdF_upd] at q
  exact q
theorem Cln.add (c : Cln B F) (E : EnvB (B.holdF F) S H σ ρ) (hS : S p = none) (n : New (B.holdF F) σ ρ p) : Cln B (upd F p o) := by
  have h0 := holdF_none.mp n.h
  refine ⟨fun a h => ?_, fun a h => ?_, fun a h => ?_⟩
  · by_cases q : a = p
    · subst q; exact fresh_back E.stp.s0 hS
    · rw [upd_ne q] at h; exact c.s a h
  · by_cases q : a = p
    · subst q; exact h0.2
    · rw [upd_ne q] at h; exact c.h a h
  · by_cases q : a = p
    · subst q; exact n.dk
    · rw [upd_ne q] at h; exact c.d a h
theorem Cln.chg (c : Cln B F) (hp : F p = some o) : Cln B (upd F p o') := by
  have hn : F p ≠ none := by rw [hp]; exact fun z => nomatch z
  refine ⟨fun a h => ?_, fun a h => ?_, fun a h => ?_⟩
  · by_cases q : a = p
    · subst q; exact c.s a hn
    · rw [upd_ne q] at h; exact c.s a h
  · by_cases q : a = p
    · subst q; exact c.h a hn
    · rw [upd_ne q] at h; exact c.h a h
  · by_cases q : a = p
    · subst q; exact c.d a hn
    · rw [upd_ne q] at h; exact c.d a h
theorem EnvB.atF (E : EnvB (B.holdF F) S H σ ρ) (c : Cln B F) (hp : F p = some o) : H p = some o := E.stp.old p o (holdF_some hp) (c.d p (by rw [hp]; exact fun z => nomatch z))
theorem EnvB.notS (E : EnvB (B.holdF F) S H σ ρ) (c : Cln B F) (hp : F p ≠ none) : S p = none := by
  cases e : S p with
  | none => rfl
  | some u =>
    rcases E.stp.new p u e with q | q
    · have z := c.s p hp
      rw [show B.S p = some u from q] at z
      cases z
    · exact absurd (holdF_none.mp q).1 hp
theorem EnvB.chgF (E : EnvB (B.holdF F) S H σ ρ) (c : Cln B F) (hp : F p = some o) : EnvB (B.holdF (upd F p o')) S (upd H p o') σ ρ := by
  have hn : F p ≠ none := by rw [hp]; exact fun z => nomatch z
  have ne : ∀ {a}, (B.holdF F).H a = none → a ≠ p := fun h z => hn (by rw [← z]; exact (holdF_none.mp h).1)
  have up : ∀ {a}, (B.holdF F).H a = none → (B.holdF (upd F p o')).H a = none := fun {a} h => by
    rw [holdF_none, upd_ne (ne h)]
    exact holdF_none.mp h
  refine ⟨E.len, fun i => ?_, E.apart, ⟨fun a u e d => ?_, E.stp.s0, fun a u e => ?_, fun a u e => ?_, fun a e => ?_⟩⟩
  · have q := E.ent i
    cases e : rget ρ i with
    | unk => exact True.intro
    | dat d => rw [e] at q; exact q
    | own ds =>
      rw [e] at q
      obtain ⟨a, xs, h1, h2, h3, h4, h5, h6⟩ := q
      exact ⟨a, xs, h1, h2, by rw [upd_ne (ne h5)]; exact h3, h4, up h5, h6⟩
    | dck ds =>
      rw [e] at q
      obtain ⟨a, xs, h1, h2, h3, h4, h5⟩ := q
      exact ⟨a, xs, h1, h2, by rw [upd_ne (fun z => c.d p hn (by rw [← z]; exact h5))]; exact h3, h4, h5⟩
    | dic ds =>
      rw [e] at q
      obtain ⟨a, xs, h1, h2, h3, h4, h5, h6⟩ := q
      exact ⟨a, xs, h1, h2, by rw [upd_ne (ne h5)]; exact h3, h4, up h5, h6⟩
  · by_cases z : a = p
    · subst z
      rw [holdF_some (upd_same)] at e
      cases e
      exact upd_same
    · rw [upd_ne z]
      refine E.stp.old a u ?_ d
      rw [← e]
      show (match F a with | some o => some o | none => B.H a) = (match upd F p o' a with | some o => some o | none => B.H a)
      rw [upd_ne z]
  · have z : a ≠ p := fun z => by
      subst z
      rw [E.notS c hn] at e
      cases e
    rw [upd_ne z]
    exact E.stp.sub a u e
  · rcases E.stp.new a u e with q | q
    · exact .inl q
    · exact .inr (up q)
  · obtain ⟨v, hv⟩ := E.stp.dkt a e
    by_cases z : a = p
    · exact ⟨o', by rw [z]; exact upd_same⟩
    · exact ⟨v, by rw [upd_ne z]; exact hv⟩
def joinH (S F : Hp) : Hp := fun a => match S a with | some o => some o | none => F a
theorem joinH_ex : Ex S (joinH S F) := fun a u e => by
  show (match S a with | some o => some o | none => F a) = some u
  rw [e]
theorem joinH_F (h : S p = none) : joinH S F p = F p := by
  show (match S p with | some o => some o | none => F p) = F p
  rw [h]
theorem EnvB.settle (E : EnvB (B.holdF F) S H σ ρ) (c : Cln B F) : EnvB B (joinH S F) H σ ρ := by
  have ex : Ex S (joinH S F) := joinH_ex
  have no : ∀ {a}, S a = none → (B.holdF F).H a = none → joinH S F a = none := fun {a} h1 h2 => by
    rw [joinH_F h1]
    exact (holdF_none.mp h2).1
  refine ⟨E.len, fun i => ?_, E.apart, ⟨fun a u e d => ?_, E.stp.s0.trans ex, fun a u e => ?_, fun a u e => ?_, E.stp.dkt⟩⟩
  · have q := E.ent i
    cases e : rget ρ i with
    | unk => exact True.intro
    | dat d =>
      rw [e] at q
      obtain ⟨x, h1, h2⟩ := q
      exact ⟨x, h1, DV.mono ex _ _ h2⟩
    | own ds =>
      rw [e] at q
      obtain ⟨a, xs, h1, h2, h3, h4, h5, h6⟩ := q
      exact ⟨a, xs, h1, no h2 h5, h3, DVs.mono ex _ _ h4, (holdF_none.mp h5).2, h6⟩
    | dck ds =>
      rw [e] at q
      obtain ⟨a, xs, h1, h2, h3, h4, h5⟩ := q
      refine ⟨a, xs, h1, ?_, h3, DVs.mono ex _ _ h4, h5⟩
      rw [joinH_F h2]
      cases z : F a with
      | none => rfl
      | some u => exact absurd h5 (c.d a (by rw [z]; exact fun z => nomatch z))
    | dic ds =>
      rw [e] at q
      obtain ⟨a, xs, h1, h2, h3, h4, h5, h6⟩ := q
      exact ⟨a, xs, h1, no h2 h5, h3, DKV.mono ex h4, (holdF_none.mp h5).2, h6⟩
  · refine E.stp.old a u ?_ d
    cases z : F a with
    | none =>
      show (match F a with | some o => some o | none => B.H a) = some u
      rw [z]
      exact e
    | some v =>
      have q := c.h a (by rw [z]; exact fun z => nomatch z)
      rw [e] at q
      cases q
  · cases z : S a with
    | some v =>
      have q := joinH_ex (F := F) a v z
      rw [e] at q
      cases q
      exact E.stp.sub a _ z
    | none =>
      rw [joinH_F z] at e
      exact E.atF c e
  · cases z : S a with
    | some v =>
      have q := joinH_ex (F := F) a v z
      rw [e] at q
      cases q
      rcases E.stp.new a _ z with q | q
      · exact .inl q
      · exact .inr (holdF_none.mp q).2
    | none =>
      rw [joinH_F z] at e
      exact .inr (c.h a (by rw [e]; exact fun z => nomatch z))
theorem nodup_set {α : Type} {q : α} : ∀ {ps : List α}, ps.Nodup → ∀ j : Nat, q ∉ ps → (ps.set j q).Nodup
  | [], _, _, _ => List.nodup_nil
  | p :: ps, h, 0, hq => List.nodup_cons.mpr ⟨fun z => hq (List.mem_cons_of_mem _ z), (List.nodup_cons.mp h).2⟩
  | p :: ps, h, j + 1, hq => List.nodup_cons.mpr ⟨fun z => (List.mem_or_eq_of_mem_set z).elim (List.nodup_cons.mp h).1 (fun e => hq (by rw [e]; exact List.mem_cons_self)), nodup_set (List.nodup_cons.mp h).2 j fun z => hq (List.mem_cons_of_mem _ z)⟩
/-- the list m of the lists nss -/
structure Nst (B : Bs) (S H : Hp) (σ : L2.St) (ρ : Rho) (m : Addr) (nss : List (List Int)) : Prop where
  ex : ∃ F ps, EnvB (B.holdF F) S H σ ρ ∧ Cln B F ∧ F m = some (.lst (ps.map V.ref)) ∧ Paired (fun p (ns : List Int) => F p = some (.lst (ns.map V.int))) ps nss ∧ m ∉ ps ∧ ps.Nodup
theorem Nst.put (h : Nst B S H σ ρ m nss) (i : Nat) {v : Option V} : Nst B S H (σ.set i v) (rset ρ i .unk) m nss := by
  obtain ⟨F, ps, E, r⟩ := h.ex
  exact ⟨F, ps, E.put i (e := .unk) True.intro fun z => (nomatch z), r⟩
theorem Paired.impF {F F' : Hp} : ∀ {ps : List Addr} {nss : List (List Int)}, Paired (fun p (ns : List Int) => F p = some (.lst (ns.map V.int))) ps nss → (∀ p, p ∈ ps → F' p = F p) → Paired (fun p (ns : List Int) => F' p = some (.lst (ns.map V.int))) ps nss
  | _, _, .nil, _ => .nil
  | _, _, .cons h t, e => .cons ((e _ List.mem_cons_self).trans h) (Paired.impF t fun p hp => e p (List.mem_cons_of_mem _ hp))
theorem Paired.app1 {α β : Type} {R : α → β → Prop} {a : α} {b : β} (r : R a b) : ∀ {xs : List α} {ys : List β}, Paired R xs ys → Paired R (xs ++ [a]) (ys ++ [b])
  | _, _, .nil => .cons r .nil
  | _, _, .cons h t => .cons h (Paired.app1 r t)
theorem Paired.memF {F : Hp} {p : Addr} : ∀ {ps : List Addr} {nss : List (List Int)}, Paired (fun p (ns : List Int) => F p = some (.lst (ns.map V.int))) ps nss → p ∈ ps → F p ≠ none
  | _, _, .nil, h => by cases h
  | _, _, .cons h t, hp => by
    rcases List.mem_cons.mp hp with e | e
    · subst e; rw [h]; exact fun z => nomatch z
    · exact Paired.memF t e
/-! #### the comprehension that makes it -/
def lcN (g : TGD) (te : TAD) (vs : List Nat) (fin : List (List Int) → Rho → Prop) : List PD → List (List Int) → Rho → Prop
  | [], acc, ρ => fin acc ρ
  | x :: xs, acc, ρ => g x ρ fun ρ1 => te ρ1 fun ds ρ2 => ∃ ns : List Int, ds = ns.map .int ∧ acc.length < 100000 ∧ lcN g te vs fin xs (acc ++ [ns]) (wipeR ρ2 vs)
theorem lcN_ind {g : TGD} {te : TAD} {vs : List Nat} {fin : List (List Int) → Rho → Prop} {S1 H1 : Hp} {ρ1 : Rho} {D : Addr} {J : It} {items : List PD} {Q : VK}
    (E1 : EnvB B S1 H1 σ ρ1) (hD : H1 D = none) (Y : Yields S1 J items) (hf : lcN g te vs fin items [] (wipeR ρ1 vs))
    (k : ∀ H ρ S nss, Nst B S H σ ρ D nss → Ex S1 S → fin nss ρ → Q (.ref D) H) :
    ∃ W : Nat → Nat → Hp → Prop, (∃ m, W 0 m (upd H1 D (.lst []))) ∧ ∀ i m H, W i m H →
      (J.stop i H ∧ Q (.ref D) H) ∨ (J.go i H ∧ ∃ Nx : Hp → Prop, (∀ H', Nx H' → ∃ m', m' < m ∧ W (i + 1) m' H') ∧ ∀ x H', J.yld i H x H' → liftGv vs g x (L2.wipe σ vs) H' fun σ2 H2 => L2.wipe σ2 vs = L2.wipe σ vs ∧ liftT dYes σ2 H2 fun b H3 =>
        if b = true then liftO te σ2 H3 fun y H4 => ∃ acc, H4 D = some (.lst acc) ∧ acc.length < sizeLine ∧ Nx (upd H4 D (.lst (acc ++ [y]))) else Nx H3) := by
  let In : Nat → Hp → Prop := fun i H => ∃ ρ S nss, Nst B S H (L2.wipe σ vs) ρ D nss ∧ Ex S1 S ∧ (∀ j, j ∈ vs → rget ρ j = .unk) ∧ lcN g te vs fin (items.drop i) nss ρ
  have hS : S1 D = none := fresh_back E1.sub hD
  have n1 := E1.new hD
  refine ⟨fun i m H => m = items.length - i ∧ i ≤ items.length ∧ In i H, ⟨items.length, by simp, Nat.zero_le _, ?_⟩, ?_⟩
  · have w := (E1.grow (Grow.lay1 (o := .lst []) E1.sub hD)).wipe vs
    have hH : upd H1 D (.lst []) D = some (.lst []) := upd_same
    have nw : New B (L2.wipe σ vs) (wipeR ρ1 vs) D := ⟨n1.h, n1.dk, fun j oj hj => by
      obtain ⟨o, e⟩ := ((E1.wipe vs).ow_at oj hj).2.1
      rw [hD] at e
      cases e⟩
    rw [← holdF_nil (B := B)] at w nw
    exact ⟨_, S1, [], ⟨_, [], w.addF hH hS nw, Cln.nil.add w hS nw, upd_same, .nil, List.not_mem_nil, List.nodup_nil⟩, Ex.refl _, fun j hj => wipeR_unk hj, hf⟩
  · rintro i m H ⟨rfl, hi, ρ, S, nss, ⟨F, ps, E, c, hm, hp, hmp, hnd⟩, es, hu, hl⟩
    by_cases hlt : i < items.length
    · refine .inr ⟨Y.1 i H hlt (es.trans E.sub), In (i + 1), fun H' q => ⟨items.length - (i + 1), by omega, rfl, hlt, q⟩, fun x H' y => ?_⟩
      obtain ⟨d, h1, h2⟩ := Y.2.2 i H x H' hlt (es.trans E.sub) y
      have e0 : items.drop i = d :: items.drop (i + 1) := by
        rw [List.drop_eq_getElem_cons hlt]
        have := List.getElem?_eq_getElem hlt
        rw [h1] at this
        rw [← Option.some.inj this]
      rw [e0] at hl
      have key : ∃ S', EnvB (B.holdF F) S' H' (L2.wipe σ vs) ρ ∧ Ex S S' ∧ DV S' x d := by
        rcases h2 with ⟨rfl, hv⟩ | ⟨T, xs, ds, rfl, hT, rfl, rfl, hds⟩
        · exact ⟨S, E, Ex.refl _, DV.mono es _ _ hv⟩
        · have gr := Grow.lay (o := .tup xs) E.sub hT
          exact ⟨_, E.grow gr, gr.s, .tup upd_same (DVs.mono (es.trans gr.s) _ _ hds)⟩
      obtain ⟨S', E', es', hx⟩ := key
      refine ⟨B.holdF F, ρ, S', _, d, E', hx, hl, fun σ2 H2 ρ2 S2 E2 e2 hw q2 => ⟨hw.trans (wipe_idem σ vs), B.holdF F, ρ2, S2, fun b ρ' => b = true ∧ te ρ' _, E2, ⟨rfl, q2⟩, fun b H3 ρ3 S3 E3 e3 ⟨hb, q3⟩ => ?_⟩⟩
      cases b with
      | false => cases hb
      | true =>
        refine iteT ⟨B.holdF F, ρ3, S3, _, E3, q3, fun q xs H4 ds ρ4 S4 E4 e4 hS4 hH4 n hd q4 => ?_⟩
        obtain ⟨ns, rfl, hz, q4⟩ := q4
        obtain rfl := hd.ints_inv
        have f0 := holdF_none.mp n.h
        have neD : D ≠ q := fun z => by rw [← z, hm] at f0; cases f0.1
        have nep : ∀ p, p ∈ ps → p ≠ q := fun p hpp z => CK.Paired.memF hp hpp (by rw [z]; exact f0.1)
        refine ⟨ps.map V.ref, E4.atF c hm, Nat.lt_of_lt_of_le (by rw [List.length_map, Paired.length hp]; exact hz) (Evl.sz_of (Nat.le_refl _)), ?_⟩
        have E5 := E4.addF hH4 hS4 n
        have c5 := c.add (o := .lst (ns.map V.int)) E4 hS4 n
        have hm5 : upd F q (.lst (ns.map V.int)) D = some (.lst (ps.map V.ref)) := by rw [upd_ne neD]; exact hm
        have E6 := E5.chgF (o' := .lst (ps.map V.ref ++ [.ref q])) c5 hm5
        have w := E6.wipe vs
        rw [hw, wipe_idem] at w
        refine ⟨_, S4, nss ++ [ns], ⟨_, ps ++ [q], w, c5.chg hm5, by rw [upd_same, List.map_append]; rfl, ?_, ?_, ?_⟩, es.trans (((es'.trans e2).trans e3).trans e4), fun j hj => wipeR_unk hj, q4⟩
        · refine CK.Paired.app1 (by rw [upd_ne (Ne.symm neD)]; exact upd_same) (CK.Paired.impF hp fun p hpp => ?_)
          rw [upd_ne (fun z => hmp (by rw [← z]; exact hpp)), upd_ne (nep p hpp)]
        · rw [List.mem_append, List.mem_singleton, not_or]
          exact ⟨hmp, neD⟩
        · rw [List.nodup_append]
          exact ⟨hnd, by simp, fun a ha b hb => by rw [List.mem_singleton] at hb; rw [hb]; exact nep a ha⟩
    · have e : i = items.length := by omega
      subst e
      rw [List.drop_length] at hl
      exact .inl ⟨Y.2.1 H (es.trans E.sub), k H ρ S nss ⟨F, ps, E.unwipe hu, c, hm, hp, hmp, hnd⟩ es hl⟩
theorem Paired.atF {F : Hp} : ∀ {ps : List Addr} {nss : List (List Int)} {j : Nat} {ns : List Int}, Paired (fun p (ns : List Int) => F p = some (.lst (ns.map V.int))) ps nss → nss[j]? = some ns → ∃ p, ps[j]? = some p ∧ F p = some (.lst (ns.map V.int))
  | _, _, _, _, .nil, h => by cases h
  | _, _, 0, _, .cons h t, e => by cases e; exact ⟨_, rfl, h⟩
  | _, _, j + 1, _, .cons h t, e => by
    rw [List.getElem?_cons_succ] at e
    obtain ⟨p, h1, h2⟩ := Paired.atF (j := j) t e
    exact ⟨p, by rw [List.getElem?_cons_succ]; exact h1, h2⟩
theorem Paired.setF {F F' : Hp} {q : Addr} {ms : List Int} (hq : F' q = some (.lst (ms.map V.int))) : ∀ {ps : List Addr} {nss : List (List Int)} (j : Nat), Paired (fun p (ns : List Int) => F p = some (.lst (ns.map V.int))) ps nss → (∀ p, p ∈ ps → F' p = F p) → Paired (fun p (ns : List Int) => F' p = some (.lst (ns.map V.int))) (ps.set j q) (nss.set j ms)
  | _, _, _, .nil, _ => .nil
  | _, _, 0, .cons h t, e => .cons hq (CK.Paired.impF t fun p hp => e p (List.mem_cons_of_mem _ hp))
  | _, _, j + 1, .cons h t, e => .cons ((e _ List.mem_cons_self).trans h) (Paired.setF hq j t fun p hp => e p (List.mem_cons_of_mem _ hp))
theorem Paired.chgF {F : Hp} {ms : List Int} : ∀ {ps : List Addr} {nss : List (List Int)} {j : Nat} {q : Addr}, Paired (fun p (ns : List Int) => F p = some (.lst (ns.map V.int))) ps nss → ps.Nodup → ps[j]? = some q → Paired (fun p (ns : List Int) => upd F q (.lst (ms.map V.int)) p = some (.lst (ns.map V.int))) ps (nss.set j ms)
  | _, _, _, _, .nil, _, h => by cases h
  | p :: ps, _, 0, q, .cons h t, hn, e => by
    cases e
    exact .cons upd_same (CK.Paired.impF t fun p' hp => upd_ne fun z => (List.nodup_cons.mp hn).1 (by rw [← z]; exact hp))
  | p :: ps, _, j + 1, q, .cons h t, hn, e => by
    have hq : q ∈ ps := List.mem_of_getElem? (i := j) (by rw [List.getElem?_cons_succ] at e; exact e)
    exact .cons ((upd_ne fun z => (List.nodup_cons.mp hn).1 (by rw [z]; exact hq)).trans h) (Paired.chgF (j := j) t (List.nodup_cons.mp hn).2 (by rw [List.getElem?_cons_succ] at e; exact e))
/-- the item at j is another list now -/
theorem nst_set {ps : List Addr} {nss : List (List Int)} {q : Addr} {ys : List Int} (j : Nat) (E : EnvB (B.holdF F) S H σ ρ) (c : Cln B F) (hm : F m = some (.lst (ps.map V.ref))) (hp : Paired (fun p (ns : List Int) => F p = some (.lst (ns.map V.int))) ps nss) (hmp : m ∉ ps) (hnd : ps.Nodup)
    (hS : S q = none) (hH : H q = some (.lst (ys.map V.int))) (nw : New (B.holdF F) σ ρ q) : Nst B S (upd H m (.lst ((ps.map V.ref).set j (.ref q)))) σ ρ m (nss.set j ys) := by
  have hmn : F m ≠ none := by rw [hm]; exact fun z => nomatch z
  have f0 := holdF_none.mp nw.h
  have nem : m ≠ q := fun z => hmn (by rw [z]; exact f0.1)
  have nep : ∀ p, p ∈ ps → p ≠ q := fun p hpp z => CK.Paired.memF hp hpp (by rw [z]; exact f0.1)
  have E5 := E.addF hH hS nw
  have c5 := c.add (o := .lst (ys.map V.int)) E hS nw
  have hm5 : upd F q (.lst (ys.map V.int)) m = some (.lst (ps.map V.ref)) := by rw [upd_ne nem]; exact hm
  have E6 := E5.chgF (o' := .lst ((ps.map V.ref).set j (.ref q))) c5 hm5
  refine ⟨_, ps.set j q, E6, c5.chg hm5, by rw [upd_same, List.map_set], ?_, ?_, ?_⟩
  · exact CK.Paired.setF (by rw [upd_ne (Ne.symm nem)]; exact upd_same) j hp fun p hpp => by
      rw [upd_ne (fun z => hmp (by rw [← z]; exact hpp)), upd_ne (nep p hpp)]
  · exact fun z => (List.mem_or_eq_of_mem_set z).elim hmp nem
  · exact nodup_set hnd j fun z => nep q z rfl
end
end CK
set_option Elab.async false
set_option linter.all false
set_option maxRecDepth 100000
set_option maxHeartbeats 4000000
namespace CK
open PySem PySem.Spec PyProof.Rows L2
open Evl (Ex ex_l ex_t fresh_back)
open C8 (Cal pe_c)
section
variable {X : Cx} {tg e a b o iter elt : Expr} {es ifs : List Expr} {pos p p' tpos : Pos} {st : Stmt} {rest body : List Stmt} {td to : TED}
variable {scope : Scope} {own : List (Str × Nat)} {wd : TAD} {g : TGD} {te : TAD} {vs : List Nat} {tt : TTD} {u : TSD}
def Sim1 (t : TS) (iM : Nat) (wd : TAD) (g : TGD) (te : TAD) (vs : List Nat) : Prop := ∀ (D : Ends) (σ : L2.St) (H : Hp) (B : Bs) (ρ : Rho) (S : Hp) (Q : List (List Int) → Rho → Prop), EnvB B S H σ ρ → (wd ρ fun items ρ1 => lcN g te vs (fun nss ρ2 => iM < ρ2.length ∧ Q nss (rset ρ2 iM .unk)) items [] (wipeR ρ1 vs)) →
  (∀ (m : Addr) (σ' : L2.St) (H' : Hp) (ρ' : Rho) (S' : Hp) (nss : List (List Int)), σ'[iM]? = some (some (.ref m)) → Nst B S' H' σ' ρ' m nss → Ex S S' → Q nss ρ' → D.nx σ' H') → t D σ H
theorem n_made (iM : Nat) {y : Str} {py spos : Pos} (hc : X.calm = true) (hN : X.N.Nodup) (hi : PID X tg iter wd) (ok : BlkOk X.N X.env.scope scope own) (hv : own.map (·.2) = vs)
    (hg : ∀ (s : Shared) (H : Hp) (C : Addr) (cl : List (Str × Addr)) (fp : List Addr), PVD (X.blk s H scope (compEnvC scope cl C X.env) fp) tg vs g)
    (he : ∀ (s : Shared) (H : Hp) (C : Addr) (cl : List (Str × Addr)) (fp : List Addr), POD (X.blk s H scope (compEnvC scope cl C X.env) fp) elt te)
    (hsw : swapsWith (.ListComp elt [⟨tg, iter, [], 0⟩] scope pos) (some (.Name y py)) spos.line X.env = pure true := by exact sw_true rfl rfl rfl (by decide +kernel)) (hy : X.N[iM]? = some y := by rfl) (hyl : X.env.scope.names.lookup y = some .local := by rfl) (hs : ∀ x, foldedSetIterable iter X.env x = pure x := by intro _; rfl) :
    ∃ t, PS X (.Assign [.Name y py] (.ListComp elt [⟨tg, iter, [], 0⟩] scope pos) spos) t ∧ Sim1 t iM wd g te vs := by
  refine ⟨_, ps_setLc hc hN hy hyl hsw hi ok hg (fun s H C cl fp => ts_nil) he hs, fun D σ H B ρ S Q E h k => ?_⟩
  rw [hv]
  refine ⟨B, ρ, S, _, E, h, fun J H1 ρ1 S1 items E1 e1 Y hf L hL => ?_⟩
  refine lcN_ind (Q := fun v H1 => gName iM v σ H1 D.nx) E1 hL Y hf fun H ρ' S' nss N e' q => ?_
  obtain ⟨F, ps, E2, _⟩ := N.ex
  refine k L (σ.set iM (some (.ref L))) H (rset ρ' iM .unk) S' nss ?_ (N.put iM) (e1.trans e') q.2
  rw [List.getElem?_set_self (by rw [E2.len]; exact q.1)]
theorem o_ife {c : Expr} {tc : TTD} {ta tb : TAD} (hc : PTD X c tc) (ha : POD X a ta) (hb : POD X b tb) : POD X (.IfExp c a b pos) (fun ρ Q => tc ρ fun c ρ1 => br c (ta ρ1 Q) (tb ρ1 Q)) := impPE (pe_ifExp hc ha hb) fun σ H R h => by
  obtain ⟨B, ρ, S, Q, E, h, k⟩ := h
  refine ⟨B, ρ, S, _, E, h, fun c H1 ρ1 S1 E1 e1 q => ?_⟩
  cases c with
  | true => exact iteT ⟨B, ρ1, S1, _, E1, q.t, fun p xs H' ds ρ' S' E' e' => k p xs H' ds ρ' S' E' (e1.trans e')⟩
  | false => exact iteF ⟨B, ρ1, S1, _, E1, q.f, fun p xs H' ds ρ' S' E' e' => k p xs H' ds ρ' S' E' (e1.trans e')⟩
/-! #### made[other] = sorted(set(made[other] + now[one])) -/
theorem ixN_nat {n b : Nat} (h : b < n) : ixN n (b : Int) = some b := by
  unfold ixN
  rw [if_pos (Int.natCast_nonneg b), if_pos (by omega), Int.toNat_natCast]
def setN (iOne iOther iNow : Nat) (nss : List (List Int)) (ρ : Rho) (k : List (List Int) → Rho → Prop) : Prop :=
  ∃ (b : Nat) (a : Int) (ns : List Int) (ds : List PD) (ms : List Int), rget ρ iOther = .dat (.int (b : Int)) ∧ rget ρ iOne = .dat (.int a) ∧ rget ρ iNow = .dat (.list ds) ∧ nss[b]? = some ns ∧ atI ds a = some (.list (ms.map .int)) ∧ ns.length + ms.length < 64 ∧
    ∀ ys : List Int, ys.Pairwise (· < ·) → (∀ z : Int, z ∈ ys ↔ z ∈ ns ∨ z ∈ ms) → k (nss.set b ys) ρ
def Sim2 (t : TS) (iM iOne iOther iNow : Nat) : Prop := ∀ (D : Ends) (σ : L2.St) (H : Hp) (B : Bs) (ρ : Rho) (S : Hp) (m : Addr) (nss : List (List Int)) (Q : List (List Int) → Rho → Prop), Nst B S H σ ρ m nss → σ[iM]? = some (some (.ref m)) → setN iOne iOther iNow nss ρ Q →
  (∀ (H' : Hp) (S' : Hp) (ρ' : Rho) (nss' : List (List Int)), Nst B S' H' σ ρ' m nss' → Ex S S' → Q nss' ρ' → D.nx σ H') → t D σ H
theorem n_set (iM iOne iOther iNow : Nat) {xM xOne xOther xNow : Str} {q1 q2 q3 q4 q5 q6 q7 q8 q9 q10 q11 : Pos} (hm : X.mg "sorted" = none) (hm2 : X.mg "set" = none) (hc : X.calm = true) (hg : Gl X "sorted" := by rfl) (hg2 : Gl X "set" := by rfl)
    (hM : X.N[iM]? = some xM := by rfl) (hOne : X.N[iOne]? = some xOne := by rfl) (hOther : X.N[iOther]? = some xOther := by rfl) (hNow : X.N[iNow]? = some xNow := by rfl)
    (vM : Vis X.env.scope xM := by first | exact Or.inl rfl | exact Or.inr (Or.inl rfl) | exact Or.inr (Or.inr rfl)) (vOne : Vis X.env.scope xOne := by first | exact Or.inl rfl | exact Or.inr (Or.inl rfl) | exact Or.inr (Or.inr rfl)) (vOther : Vis X.env.scope xOther := by first | exact Or.inl rfl | exact Or.inr (Or.inl rfl) | exact Or.inr (Or.inr rfl)) (vNow : Vis X.env.scope xNow := by first | exact Or.inl rfl | exact Or.inr (Or.inl rfl) | exact Or.inr (Or.inr rfl))
    (dM : (xM == ("__debug__" : Str)) = false := by decide) (dOne : (xOne == ("__debug__" : Str)) = false := by decide) (dOther : (xOther == ("__debug__" : Str)) = false := by decide) (dNow : (xNow == ("__debug__" : Str)) = false := by decide)
    (cM : (xM == ("__classdict__" : Str)) = false := by decide) (cOne : (xOne == ("__classdict__" : Str)) = false := by decide) (cOther : (xOther == ("__classdict__" : Str)) = false := by decide) (cNow : (xNow == ("__classdict__" : Str)) = false := by decide)
    (he : starEach [.BinOp (.Subscript (.Name xM q1) (.Name xOther q2) q3) .Add (.Subscript (.Name xNow q4) (.Name xOne q5) q6) q7] X.env = (false, eval (.BinOp (.Subscript (.Name xM q1) (.Name xOther q2) q3) .Add (.Subscript (.Name xNow q4) (.Name xOne q5) q6) q7) X.env) :: starEach [] X.env := by rfl)
    (hpl : (backTo q9 (starEach [] X.env)).any (·.1) = false := by rfl) (hpl2 : (backTo q11 (starEach [] X.env)).any (·.1) = false := by rfl)
    (he2 : starEach [.Call (.Name "set" q8) [.BinOp (.Subscript (.Name xM q1) (.Name xOther q2) q3) .Add (.Subscript (.Name xNow q4) (.Name xOne q5) q6) q7] [] q9] X.env = (false, eval (.Call (.Name "set" q8) [.BinOp (.Subscript (.Name xM q1) (.Name xOther q2) q3) .Add (.Subscript (.Name xNow q4) (.Name xOne q5) q6) q7] [] q9) X.env) :: starEach [] X.env := by rfl)
    {r1 r2 r3 : Pos} (ha : ∀ v, assign (.Subscript (.Name xM r1) (.Name xOther r2) r3) X.env v = (do
      let ov ← holding [v] (eval (.Name xM r1) X.env)
      let iv ← holding [v, ov] (eval (.Name xOther r2) X.env)
      standAt r3
      holding [v, ov, iv] (setItem ov iv v)
      release [v, ov, iv] []) := by intro _; rfl)
    (hs : swapsWithSole [.Subscript (.Name xM r1) (.Name xOther r2) r3] (.Call (.Name "sorted" q10) [.Call (.Name "set" q8) [.BinOp (.Subscript (.Name xM q1) (.Name xOther q2) q3) .Add (.Subscript (.Name xNow q4) (.Name xOne q5) q6) q7] [] q9] [] q11) pos.line X.env = pure false := by rfl)
    (hw : swappedStores [.Subscript (.Name xM r1) (.Name xOther r2) r3] (.Call (.Name "sorted" q10) [.Call (.Name "set" q8) [.BinOp (.Subscript (.Name xM q1) (.Name xOther q2) q3) .Add (.Subscript (.Name xNow q4) (.Name xOne q5) q6) q7] [] q9] [] q11) X.env = pure none := by rfl)
    (h1 : (assignEach [.Subscript (.Name xM r1) (.Name xOther r2) r3] X.env).map (·.2) = [assign (.Subscript (.Name xM r1) (.Name xOther r2) r3) X.env] := by rfl)
    (hp1 : PlainIx (.Name xOther q2) := by intro _ _; rfl) (hp2 : PlainIx (.Name xOne q5) := by intro _ _; rfl) :
    ∃ t, PS X (.Assign [.Subscript (.Name xM r1) (.Name xOther r2) r3] (.Call (.Name "sorted" q10) [.Call (.Name "set" q8) [.BinOp (.Subscript (.Name xM q1) (.Name xOther q2) q3) .Add (.Subscript (.Name xNow q4) (.Name xOne q5) q6) q7] [] q9] [] q11) pos) t ∧ Sim2 t iM iOne iOther iNow := by
  refine ⟨_, ps_asg (pe_callB (cr_sortedSet hc) hg hm (by decide +kernel) (pa_cons (pe_callTy (cr_setOfL hc) hg2 hm2 (by decide +kernel) (pa_cons (pe_op op_cat (pe_ix ix_seq (pe_var hM vM dM cM) (pe_var hOther vOther dOther cOther) hp1) (pe_ix ix_seq (pe_var hNow vNow dNow cNow) (pe_var hOne vOne dOne cOne) hp2)) pa_nil he) (by decide) (by decide) he hpl) pa_nil he2) (by decide) (by decide) he2 hpl2) (pg_sub (pe_var hM vM dM cM) (pe_var hOther vOther dOther cOther) set_list ha) hs hw h1, fun D σ H B ρ S m nss Q N hσ h k => ?_⟩
  obtain ⟨F, ps, E, c, hm, hp, hmp, hnd⟩ := N.ex
  obtain ⟨b, a, ns, ds, ms, e1, e2, e3, hns, hms, hl, hk⟩ := h
  obtain ⟨pj, hpj, hFp⟩ := CK.Paired.atF hp hns
  obtain ⟨x1, hx1, d1⟩ := E.dat e1
  obtain ⟨x2, hx2, d2⟩ := E.dat e2
  obtain ⟨x3, hx3, d3⟩ := E.dat e3
  cases d1
  cases d2
  cases d3
  rename_i A xs hA hd
  obtain ⟨v, hv, dv⟩ := atI_of hd hms
  cases dv
  rename_i q0 xs0 hq0 hd0
  obtain rfl := hd0.ints_inv
  have Hm := E.atF c hm
  have Hp := E.atF c hFp
  have hat : atI (ps.map V.ref) (b : Int) = some (.ref pj) := atI_nat (by rw [List.getElem?_map, hpj]; rfl)
  have lb : b < ps.length := (List.getElem?_eq_some_iff.mp hpj).1
  refine ⟨.ref m, hσ, .int b, hx1, .inl ⟨m, _, b, .ref pj, rfl, rfl, SqL.of Hm, hat, .ref A, hx3, .int a, hx2, .inl ⟨A, xs, a, .ref q0, rfl, rfl, SqL.of (E.sub _ _ hA), hv, pj, q0, _, _, rfl, rfl, Hp, E.sub _ _ hq0, ?_, fun p hpn => ⟨p, ns ++ ms, rfl, SqL.of (by rw [upd_same, List.map_append]), ?_, fun q cc hq hcc => ⟨q, _, cc, rfl, upd_same, ?_, fun ys r hpw hmem hlen hr => ⟨.ref m, hσ, .int b, hx1, m, ps.map V.ref, b, b, rfl, rfl, ?_, ?_, ?_⟩⟩⟩⟩⟩⟩
  · rw [List.length_map, List.length_map]
    exact Nat.le_trans (Nat.le_of_lt hl) (by decide)
  · rw [List.length_append]
    omega
  · rw [List.length_append] at hcc
    omega
  · have n1 : m ≠ p := fun z => by rw [← z, Hm] at hpn; cases hpn
    have h1 : upd H p (HO.lst (ns.map V.int ++ ms.map V.int)) m = some (.lst (ps.map V.ref)) := by rw [upd_ne n1]; exact Hm
    have n2 : m ≠ q := fun z => by rw [← z, h1] at hq; cases hq
    have h2 : upd (upd H p (HO.lst (ns.map V.int ++ ms.map V.int))) q (SetO X.w q (fun j => decide (j ∈ ns ++ ms)) cc) m = some (.lst (ps.map V.ref)) := by rw [upd_ne n2]; exact h1
    have n3 : m ≠ r := fun z => by rw [← z, h2] at hr; cases hr
    rw [upd_ne n3]
    exact h2
  · rw [List.length_map]
    exact ixN_nat lb
  · have E1 := E.grow (Grow.lay1 (o := HO.lst (ns.map V.int ++ ms.map V.int)) E.sub hpn)
    have E2 := E1.grow (Grow.lay1 (o := SetO X.w q (fun j => decide (j ∈ ns ++ ms)) cc) E1.sub hq)
    have E3 := E2.grow (Grow.lay1 (o := HO.lst (ys.map V.int)) E2.sub hr)
    have nst := nst_set b E3 c hm hp hmp hnd (fresh_back E2.sub hr) upd_same (E2.new hr)
    exact k _ S ρ _ nst (Ex.refl _) (hk ys hpw fun z => by rw [hmem z, decide_eq_true_eq, List.mem_append])
/-! #### for one, other in ways: .. -/
def forN (iOne iOther iNow : Nat) (g : TGD) (k : List (List Int) → Rho → Prop) : List PD → List (List Int) → Rho → Prop
  | [], nss, ρ => k nss ρ
  | x :: xs, nss, ρ => g x ρ fun ρ1 => setN iOne iOther iNow nss ρ1 fun nss' ρ2 => forN iOne iOther iNow g k xs nss' ρ2
def Sim3 (t : TS) (iM iOne iOther iNow : Nat) (wd : TAD) (g : TGD) : Prop := ∀ (D : Ends) (σ : L2.St) (H : Hp) (B : Bs) (ρ : Rho) (S : Hp) (m : Addr) (nss : List (List Int)) (Q : List (List Int) → Rho → Prop), Nst B S H σ ρ m nss → σ[iM]? = some (some (.ref m)) → (wd ρ fun items ρ1 => forN iOne iOther iNow g Q items nss ρ1) →
  (∀ (σ' : L2.St) (H' : Hp) (S' : Hp) (ρ' : Rho) (nss' : List (List Int)), Nst B S' H' σ' ρ' m nss' → σ'[iM]? = some (some (.ref m)) → Ex S S' → Q nss' ρ' → D.nx σ' H') → t D σ H
theorem n_for (iM iOne iOther iNow : Nat) (hp : PassesOwn (model X.prog X.w) X.A X.env X.xe) (hc : X.calm = true) (hi : PID X tg iter wd) (hg : PVD X tg vs g) (hM : iM ∉ vs) (hb : ∃ t2, PS X st t2 ∧ Sim2 t2 iM iOne iOther iNow)
    (hs : ∀ x, foldedSetIterable iter X.env x = pure x := by intro _; rfl) : ∃ t, PS X (.For tg iter [st] [] pos) t ∧ Sim3 t iM iOne iOther iNow wd g := by
  obtain ⟨t2, hb, s2⟩ := hb
  refine ⟨_, ps_for hp hc hi hg (pss_one hb) hs, fun D σ H B ρ S m nss Q N hσ h kn => ?_⟩
  obtain ⟨F, ps, E, c, hm, hp, hmp, hnd⟩ := N.ex
  refine ⟨B.holdF F, ρ, S, _, E, h, fun J H1 ρ1 S1 items E1 e1 Y hf => ?_⟩
  let In : Nat → L2.St → Hp → Prop := fun i σ H => ∃ ρ S nss, Nst B S H σ ρ m nss ∧ σ[iM]? = some (some (.ref m)) ∧ Ex S1 S ∧ forN iOne iOther iNow g Q (items.drop i) nss ρ
  refine ⟨fun i m' σ H => m' = items.length - i ∧ i ≤ items.length ∧ In i σ H, ⟨items.length, by simp, Nat.zero_le _, ρ1, S1, nss, ⟨F, ps, E1, c, hm, hp, hmp, hnd⟩, hσ, Ex.refl _, hf⟩, ?_⟩
  rintro i m' σ H ⟨rfl, hi, ρ, S, nss, N, hσ, es, hl⟩
  obtain ⟨F, ps, E, c, hm, hp, hmp, hnd⟩ := N.ex
  by_cases hlt : i < items.length
  · refine .inr ⟨Y.1 i H hlt (es.trans E.sub), In (i + 1), fun σ' H' q => ⟨items.length - (i + 1), by omega, rfl, hlt, q⟩, fun x H' y => ?_⟩
    obtain ⟨d, h1, h2⟩ := Y.2.2 i H x H' hlt (es.trans E.sub) y
    have e0 : items.drop i = d :: items.drop (i + 1) := by
      rw [List.drop_eq_getElem_cons hlt]
      have := List.getElem?_eq_getElem hlt
      rw [h1] at this
      rw [← Option.some.inj this]
    rw [e0] at hl
    have key : ∃ S', EnvB (B.holdF F) S' H' σ ρ ∧ Ex S S' ∧ DV S' x d := by
      rcases h2 with ⟨rfl, hv⟩ | ⟨T, xs, ds, rfl, hT, rfl, rfl, hds⟩
      · exact ⟨S, E, Ex.refl _, DV.mono es _ _ hv⟩
      · have gr := Grow.lay (o := .tup xs) E.sub hT
        exact ⟨_, E.grow gr, gr.s, .tup upd_same (DVs.mono (es.trans gr.s) _ _ hds)⟩
    obtain ⟨S', E', es', hx⟩ := key
    refine ⟨B.holdF F, ρ, S', _, d, E', hx, hl, fun σ2 H2 ρ2 S2 E2 e2 hw q2 => ?_⟩
    have hσ2 : σ2[iM]? = some (some (.ref m)) := by
      rw [← wipe_out hM, hw, wipe_out hM]
      exact hσ
    exact s2 _ σ2 H2 B ρ2 S2 m nss _ ⟨F, ps, E2, c, hm, hp, hmp, hnd⟩ hσ2 q2 fun H' S3 ρ' nss' N3 e3 q3 => ⟨ρ', S3, nss', N3, hσ2, ((es.trans es').trans e2).trans e3, q3⟩
  · have e : i = items.length := by omega
    subst e
    rw [List.drop_length] at hl
    exact .inl ⟨Y.2.1 H (es.trans E.sub), kn σ H S ρ nss N hσ (e1.trans es) hl⟩
/-! #### if ..: made[deed[1]].append(index) -/
def appN (iDeed iIndex : Nat) (nss : List (List Int)) (ρ : Rho) (k : List (List Int) → Rho → Prop) : Prop :=
  ∃ (ds : List PD) (b : Nat) (n : Int) (ns : List Int), rget ρ iDeed = .dat (.tuple ds) ∧ ds[1]? = some (.int (b : Int)) ∧ rget ρ iIndex = .dat (.int n) ∧ nss[b]? = some ns ∧ ns.length < 1000 ∧ k (nss.set b (ns ++ [n])) ρ
def Sim4 (t : TS) (iM iDeed iIndex : Nat) (tt : TTD) : Prop := ∀ (D : Ends) (σ : L2.St) (H : Hp) (B : Bs) (ρ : Rho) (S : Hp) (m : Addr) (nss : List (List Int)) (Q : List (List Int) → Rho → Prop), Nst B S H σ ρ m nss → σ[iM]? = some (some (.ref m)) → (tt ρ fun c ρ1 => br c (appN iDeed iIndex nss ρ1 Q) (Q nss ρ1)) →
  (∀ (H' : Hp) (S' : Hp) (ρ' : Rho) (nss' : List (List Int)), Nst B S' H' σ ρ' m nss' → Ex S S' → Q nss' ρ' → D.nx σ H') → t D σ H
theorem n_app (iM iDeed iIndex : Nat) {c : Expr} {xM xDeed xIndex : Str} {q1 q2 q3 q4 q5 q6 q7 q8 q9 : Pos} {jj : Nat} (htt : PTD X c tt)
    (hM : X.N[iM]? = some xM := by rfl) (hDeed : X.N[iDeed]? = some xDeed := by rfl) (hIndex : X.N[iIndex]? = some xIndex := by rfl)
    (vM : Vis X.env.scope xM := by first | exact Or.inl rfl | exact Or.inr (Or.inl rfl) | exact Or.inr (Or.inr rfl)) (vDeed : Vis X.env.scope xDeed := by first | exact Or.inl rfl | exact Or.inr (Or.inl rfl) | exact Or.inr (Or.inr rfl)) (vIndex : Vis X.env.scope xIndex := by first | exact Or.inl rfl | exact Or.inr (Or.inl rfl) | exact Or.inr (Or.inr rfl))
    (dM : (xM == ("__debug__" : Str)) = false := by decide) (dDeed : (xDeed == ("__debug__" : Str)) = false := by decide) (dIndex : (xIndex == ("__debug__" : Str)) = false := by decide)
    (cM : (xM == ("__classdict__" : Str)) = false := by decide) (cDeed : (xDeed == ("__classdict__" : Str)) = false := by decide) (cIndex : (xIndex == ("__classdict__" : Str)) = false := by decide)
    (hp1 : PlainIx (.Constant (.int 1) jj q3) := by intro _ _; rfl) (hp2 : PlainIx (.Subscript (.Name xDeed q2) (.Constant (.int 1) jj q3) q4) := by intro _ _; rfl)
    (hbase : attributeBase (.Subscript (.Name xM q1) (.Subscript (.Name xDeed q2) (.Constant (.int 1) jj q3) q4) q5) "append" X.env (eval (.Subscript (.Name xM q1) (.Subscript (.Name xDeed q2) (.Constant (.int 1) jj q3) q4) q5) X.env) = eval (.Subscript (.Name xM q1) (.Subscript (.Name xDeed q2) (.Constant (.int 1) jj q3) q4) q5) X.env := by rfl)
    (hfew : ((backTo q8 (starEach [.Name xIndex q7] X.env)).all (fun x => !x.1) && (backToKw q8 (keywordEach [] X.env)).all (fun x => x.1.isSome)
      && decide (([.Name xIndex q7] : List Expr).length + ([] : List Keyword).length + (if ([] : List Keyword).isEmpty then 0 else 1) < 30)) = true := by rfl)
    (hline : (q6.endLine == q8.line) = true := by rfl) (hs : starEach [.Name xIndex q7] X.env = (false, eval (.Name xIndex q7) X.env) :: starEach [] X.env := by rfl) (hplain : (backTo q8 (starEach [] X.env)).any (·.1) = false := by rfl)
    (hsw : swapsWith (.Call (.Attribute (.Subscript (.Name xM q1) (.Subscript (.Name xDeed q2) (.Constant (.int 1) jj q3) q4) q5) "append" q6) [.Name xIndex q7] [] q8) none q9.line X.env = pure false := by rfl) :
    ∃ t, PS X (.If c [.Expr (.Call (.Attribute (.Subscript (.Name xM q1) (.Subscript (.Name xDeed q2) (.Constant (.int 1) jj q3) q4) q5) "append" q6) [.Name xIndex q7] [] q8) q9] [] pos) t ∧ Sim4 t iM iDeed iIndex tt := by
  refine ⟨_, ps_if htt (pss_one (ps_expr (pe_bm PySem.F.plainAttrs_list PySem.F.slot_list_append PySem.F.type_list_append mt_append (pe_ix ix_seq (pe_var hM vM dM cM) (pe_ix ix_seq (pe_var hDeed vDeed dDeed cDeed) pe_int hp1) hp2) (pa_cons (pe_var hIndex vIndex dIndex cIndex) pa_nil hs) hbase hfew hline hs hplain) hsw)) pss_nil, fun D σ H B ρ S m nss Q N hσ h k => ?_⟩
  obtain ⟨F, ps, E, c, hm, hp, hmp, hnd⟩ := N.ex
  refine ⟨B.holdF F, ρ, S, _, E, h, fun b H1 ρ1 S1 E1 e1 q => ?_⟩
  have N1 : Nst B S1 H1 σ ρ1 m nss := ⟨F, ps, E1, c, hm, hp, hmp, hnd⟩
  cases b with
  | false => exact iteF (k H1 S1 ρ1 nss N1 e1 q.f)
  | true =>
    obtain ⟨ds, b, n, ns, g1, g2, g3, hns, hl, hk⟩ := q.t
    obtain ⟨pj, hpj, hFp⟩ := CK.Paired.atF hp hns
    obtain ⟨x1, hx1, d1⟩ := E1.dat g1
    obtain ⟨x3, hx3, d3⟩ := E1.dat g3
    cases d1
    cases d3
    rename_i A xs hA hd
    obtain ⟨v, hv, dv⟩ := atI_of (i := ((1 : Nat) : Int)) hd (atI_nat g2)
    cases dv
    have hat : atI (ps.map V.ref) (b : Int) = some (.ref pj) := atI_nat (by rw [List.getElem?_map, hpj]; rfl)
    have Hp := E1.atF c hFp
    have E2 := E1.chgF (o' := .lst (ns.map V.int ++ [.int n])) c hFp
    have nem : m ≠ pj := fun z => hmp (by rw [z]; exact List.mem_of_getElem? hpj)
    refine iteT ⟨.ref m, hσ, .ref A, hx1, .inr (.inl ⟨A, xs, 1, .int b, rfl, rfl, SqT.of (E1.sub _ _ hA), hv, .inl ⟨m, _, b, .ref pj, rfl, rfl, SqL.of (E1.atF c hm), hat, .inl ⟨rfl, _, SqL.of Hp⟩, .int n, hx3, pj, _, .int n, rfl, rfl, Hp, ?_, ?_⟩⟩)⟩
    · rw [List.length_map]
      exact Nat.lt_of_lt_of_le hl (by decide)
    · refine k _ S1 ρ1 _ ⟨_, ps, E2, c.chg hFp, by rw [upd_ne nem]; exact hm, ?_, hmp, hnd⟩ e1 hk
      have q := CK.Paired.chgF (ms := ns ++ [n]) hp hnd hpj
      rw [List.map_append] at q
      exact q
/-! #### the block -/
def nssD (nss : List (List Int)) : PD := .list (nss.map fun ns => .list (ns.map .int))
theorem dvs_of {S : Hp} : ∀ {ps : List Addr} {nss : List (List Int)}, Paired (fun p (ns : List Int) => S p = some (.lst (ns.map V.int))) ps nss → DVs S (ps.map V.ref) (nss.map fun ns => .list (ns.map .int))
  | _, _, .nil => .nil
  | _, _, .cons h t => .cons (.lst h (DVs.ints _)) (dvs_of t)
def dAhead (iM iNow iOne iOther iDeed iIndex : Nat) (wd : TAD) (g : TGD) (te : TAD) (vs : List Nat) (wd2 : TAD) (g2 : TGD) (tt : TTD) (u : TSD) : TSD := fun D ρ =>
  wd ρ fun items ρ1 => lcN g te vs (fun nss ρ2 => iM < ρ2.length ∧ wd2 (rset ρ2 iM .unk) fun items2 ρ3 => forN iOne iOther iNow g2 (fun nss' ρ4 =>
    tt ρ4 fun c ρ5 => br c (appN iDeed iIndex nss' ρ5 fun nss'' ρ6 => u D (rset ρ6 iNow (.dat (nssD nss'')))) (u D (rset ρ5 iNow (.dat (nssD nss'))))) items2 nss ρ3) items [] (wipeR ρ1 vs)
theorem b_ahead {s1 s2 s3 : Stmt} {wd2 : TAD} {g2 : TGD} (iM iNow iOne iOther iDeed iIndex : Nat) {xM xNow : Str} {q1 q2 q3 : Pos} (h1 : ∃ t1, PS X s1 t1 ∧ Sim1 t1 iM wd g te vs) (h2 : ∃ t2, PS X s2 t2 ∧ Sim3 t2 iM iOne iOther iNow wd2 g2) (h3 : ∃ t3, PS X s3 t3 ∧ Sim4 t3 iM iDeed iIndex tt) (hr : PBD X rest u) (hN : X.N.Nodup)
    (hM : X.N[iM]? = some xM := by rfl) (hNow : X.N[iNow]? = some xNow := by rfl) (vM : Vis X.env.scope xM := by first | exact Or.inl rfl | exact Or.inr (Or.inl rfl) | exact Or.inr (Or.inr rfl)) (hx : Loc X.env.scope xNow := by first | exact Or.inl rfl | exact Or.inr rfl) (hs : swapsWith (.Name xM q1) (some (.Name xNow q2)) q3.line X.env = pure false := by rfl)
    (hf : X.fn xNow = true ∨ X.env.scope.names.lookup xNow = some .local := by first | exact .inl rfl | exact .inr rfl | assumption) (dM : (xM == ("__debug__" : Str)) = false := by decide) (cM : (xM == ("__classdict__" : Str)) = false := by decide) :
    PBD X (s1 :: s2 :: s3 :: .Assign [.Name xNow q2] (.Name xM q1) q3 :: rest) (dAhead iM iNow iOne iOther iDeed iIndex wd g te vs wd2 g2 tt u) := by
  obtain ⟨t1, h1, m1⟩ := h1
  obtain ⟨t2, h2, m2⟩ := h2
  obtain ⟨t3, h3, m3⟩ := h3
  exact impPSs (pss_cons h1 (pss_cons h2 (pss_cons h3 (pss_cons (ps_set hN hNow hx (pe_var hM vM dM cM) hs hf) hr)))) fun D σ H h => by
    obtain ⟨B, ρ, S, DD, E, h, kn, kb, kc, kr⟩ := h
    refine m1 _ σ H B ρ S (fun nss ρ2 => wd2 ρ2 fun items2 ρ3 => forN iOne iOther iNow g2 (fun nss' ρ4 => tt ρ4 fun c ρ5 => br c (appN iDeed iIndex nss' ρ5 fun nss'' ρ6 => u DD (rset ρ6 iNow (.dat (nssD nss'')))) (u DD (rset ρ5 iNow (.dat (nssD nss'))))) items2 nss ρ3) E h fun m σ1 H1 ρ1 S1 nss1 hσ1 N1 e1 q1 => ?_
    refine m2 _ σ1 H1 B ρ1 S1 m nss1 (fun nss' ρ4 => tt ρ4 fun c ρ5 => br c (appN iDeed iIndex nss' ρ5 fun nss'' ρ6 => u DD (rset ρ6 iNow (.dat (nssD nss'')))) (u DD (rset ρ5 iNow (.dat (nssD nss'))))) N1 hσ1 q1 fun σ2 H2 S2 ρ2 nss2 N2 hσ2 e2 q2 => ?_
    refine m3 _ σ2 H2 B ρ2 S2 m nss2 (fun nss ρ6 => u DD (rset ρ6 iNow (.dat (nssD nss)))) N2 hσ2 q2 fun H3 S3 ρ3 nss3 N3 e3 q3 => ?_
    obtain ⟨F, ps, E3, c, hm, hp, hmp, hnd⟩ := N3.ex
    have E4 := E3.settle c
    have ex : Ex S (joinH S3 F) := ((e1.trans e2).trans e3).trans joinH_ex
    have at' : ∀ p, F p ≠ none → joinH S3 F p = F p := fun p hp => joinH_F (E3.notS c hp)
    have dm : DV (joinH S3 F) (.ref m) (nssD nss3) := .lst (by rw [at' m (by rw [hm]; exact fun z => nomatch z)]; exact hm) (dvs_of (CK.Paired.impF hp fun p hpp => at' p (CK.Paired.memF hp hpp)))
    exact ⟨.ref m, hσ2, B, _, _, DD, E4.put_dat iNow dm, q3, fun σ' H' ρ' S' E' e' => kn σ' H' ρ' S' E' (ex.trans e'), fun σ' H' ρ' S' E' e' => kb σ' H' ρ' S' E' (ex.trans e'), fun σ' H' ρ' S' E' e' => kc σ' H' ρ' S' E' (ex.trans e'), fun v e σ' H' ρ' S' E' e' => kr v e σ' H' ρ' S' E' (ex.trans e')⟩
end
end CK
set_option Elab.async false
set_option linter.all false
set_option maxRecDepth 100000
set_option maxHeartbeats 4000000
namespace CK
open PySem PySem.Spec PyProof.Rows L2
open Evl (Ex ex_l ex_t fresh_back)
open C8 (Cal pe_c)
/-! ### promises under which no list's text is under way -/
structure FnG (P : Program) (w : World) (K : PySem.W.Frag) (mg : Str → Option Value) (base : Heap) (k : Nat) (f : Addr) (fd : FuncData) (ps : List Str) (sp : Sp) : Prop where
  len : ∀ vs H Q E, sp vs H Q E → vs.length = ps.length
  run : ∀ (A : Around) (outer : List Env) (s : Shared) (H : Hp) (args : Args) (us : List Value) (vs : List V) (Q : VK) (E : XK), A.guards = some [] → Room k A → Env0 P w K mg base A outer s H → BindsTo s fd args (ps.zip us) → Vals vs us → sp vs H Q E →
    codeAny (model P w) A (.call (.ref f) args) (CR C8.CX0 outer P w H s Q E) s
structure CalG (P : Program) (w : World) (K : PySem.W.Frag) (mg : Str → Option Value) (base : Heap) (k : Nat) (x : Str) (sp : Sp) : Prop where
  ex : ∃ (f : Addr) (fd : FuncData) (ps : List Str), FnG P w K mg base k f fd ps sp ∧ mg x = some (.ref f) ∧ PySem.W.keepIn K (.ref f) = true ∧ Binds K fd ps []
section
variable {P : Program} {w : World} {K : PySem.W.Frag} {mg : Str → Option Value} {base : Heap}
theorem param_kind {scope : Scope} {N ps : List Str} (S : FnScope N ps scope) (us : List Value) (n : Nat) : ∀ y, y ∈ ps.zip us → scope.names.lookup y.1 = some .local ∨ (scope.names.lookup y.1 = some .cell ∧ ((cellsFrom n scope.names []).lookup y.1).isSome = true) := fun y hy =>
  (S.par y.1 (List.of_mem_zip hy).1).imp id fun c => ⟨c, PySem.W.cellsFrom_some _ _ _ (.inl c)⟩
theorem fnG_of {x : Str} {st : Stmt} {f : Addr} {fd : FuncData} {N ps : List Str} {k : Nat} {sp : Sp} (F : FnD K x st f fd) (S : FnScope N ps (defScope st)) (len : ∀ vs H Q E, sp vs H Q E → vs.length = ps.length)
    (hbody : ∀ (cdv : Value) (A : Around) (outer : List Env) (s : Shared) (H : Hp) (vs : List V) (Q : VK) (E : XK), A.guards = some [] → Room k (A.deeper (envOfC x (defScope st) s.heap.objs.size f cdv)) → sp vs H Q E →
      ∃ t, PSs (cxOf C8.CX0 P w K mg base N x (defScope st) f cdv A outer s H E) (defBody st) t ∧ t { nx := fun _ H' => Q .non H', rt := Q } (start N vs) H) : FnG P w K mg base (k + 1) f fd ps sp := by
  obtain ⟨_, _, _, _, _, _, _, cdv, _, _, rfl, at_, code, _⟩ := F.ex
  refine ⟨len, fun A outer s H args us vs Q E free room e0 bind rel hsp => ?_⟩
  obtain ⟨t, ht, hq⟩ := hbody cdv A outer s H vs Q E free (room.deeper _) hsp
  have text := e0.mod.kin.keeps fun b o e => (e0.bs b o e).1
  refine codeAny_call_function room.depth (text _ _ at_) rfl S.co S.gen rfl (PySem.W.codeRec_of text code) (bind _ _ _ _ (wpAny_newFunctionEnv_cells S.kind (param_kind S us _) ?_))
  rintro _ rfl s1 entered
  refine ⟨(e0.mod.nolimit.keeps fun b o e => (e0.bs b o e).1).keeps entered.toInCall.keep, codeAny_func (wpAny_mono (ht.run [] s1 _ H _ (inv_start S room.hd e0 (len _ _ _ _ hsp) rel entered) hq) (fun fl s' hs => ?_) fun _ _ => id)⟩
  match fl, hs with
  | .ret _, ⟨v, _, H', J, rv, q⟩ => exact ⟨v, H', J.os, J.bare, J.base, J.hok, rv, q⟩
  | .next, ⟨_, H', J, q⟩ => exact ⟨.non, H', J.os, J.bare, J.base, J.hok, rfl, q⟩
  | .brk, ⟨_, _, _, q⟩ => exact q.elim
  | .cont, ⟨_, _, _, q⟩ => exact q.elim
theorem mk_G {x : Str} {st : Stmt} {f : Addr} {fd : FuncData} {N ps : List Str} {k : Nat} {wd : WDA} (F : FnD K x st f fd) (hm : mg x = some (.ref f)) (S : FnScope N ps (defScope st))
    (hb : ∀ (kV doc pm : Value) (an : Option Addr) (cdv ct : Value) (us : List Value), us.length = ps.length → bindArgs (PySem.W.fnOf x x (defArgs st) (defBody st) (defScope st) .none kV doc pm an cdv ct) ⟨us, []⟩ = pure (ps.zip us))
    (len : ∀ ds k, wd ds k → ds.length = ps.length)
    (body : ∀ (cdv : Value) (A : Around) (outer : List Env) (s : Shared) (H : Hp) (E : XK), A.guards = some [] → Room k (A.deeper (envOfC x (defScope st) s.heap.objs.size f cdv)) →
      ∃ t, PBD (cxOf C8.CX0 P w K mg base N x (defScope st) f cdv A outer s H E).nox (defBody st) t ∧ ∀ ds k, wd ds k → t { nx := fun _ => k .none, rt := fun e _ => ∃ d, e = .dat d ∧ k d } (rho0 N.length (ds.map En.dat))) : CalG P w K mg base (k + 1) x (spF wd) := by
  refine ⟨f, fd, ps, fnG_of F S (fun vs H Q E h => ?_) (fun cdv A outer s H vs Q E hgu hr h => ?_), hm, F.kp, F.bindsN hb⟩
  · obtain ⟨S', ds, k, hS, hd, hw, _⟩ := h
    rw [hd.length, len ds k hw]
  · obtain ⟨t, ht, hq⟩ := body cdv A outer s H E hgu hr
    obtain ⟨S', ds, k, hS, hd, hw, q⟩ := h
    refine ⟨_, PSs.nox ht, ⟨S', H, none⟩, _, S', _, env0 (Stp.refl hS) (dats hd) (fun i j _ oi _ => by rw [dats_ow] at oi; cases oi), hq ds k hw, fun σ' H' ρ' S2 E2 e2 h2 => ?_, fun _ _ _ _ _ _ h2 => h2.elim, fun _ _ _ _ _ _ h2 => h2.elim, fun v e σ' H' ρ' S2 E2 e2 hv h2 => ?_⟩
    · exact q .non H' S2 .none (Grow.of E2.stp) .non h2
    · obtain ⟨d, rfl, h3⟩ := h2
      obtain ⟨v', h4, h5⟩ := hv
      cases h4
      exact q v H' S2 d (Grow.of E2.stp) h5 h3
end
section
variable {X : Cx} {e : Expr} {es : List Expr} {pos p : Pos} {t : TAD} {x : Str} {w : WDA} {k j : Nat}
theorem p_cG (c : CalG X.prog X.w X.K X.mg X.base k x (spF w)) (hgu : X.A.guards = some []) (hr : Room j X.A) (hk : k ≤ j) (ha : PAD X (e :: es) t) (hg : Gl X x := by rfl)
    (hdb : (x == ("__debug__" : Str)) = false := by decide) (he : starEach (e :: es) X.env = (false, eval e X.env) :: starEach es X.env := by rfl) (hpl : (backTo pos (starEach es X.env)).any (·.1) = false := by rfl) :
    PED X (.Call (.Name x p) (e :: es) [] pos) (dCall w t) := by
  obtain ⟨f, fd, ps, F, hm, kp, hb⟩ := c.ex
  have pe : PE X (.Call (.Name x p) (e :: es) [] pos) (tCB (fun vs H Q => spF w vs H Q C8.E0) (liftA t)) := by
    refine ⟨fun pins s σ H Q I h => ?_⟩
    refine wpAny_Call_Name_kw (ld_glob I hg hm ?_ hdb)
    refine PySem.W.callWith_K (h₀ := X.base) I.ok.mod.kin kp (thn (ha.run pos pins s σ H _ I h) fun us s1 ⟨vs, H1, I1, r, q⟩ => ⟨I1.kIn, ?_⟩) he hpl
    have hl : (us ++ []).length = ps.length := by rw [List.append_nil, ← r.length]; exact F.len _ _ _ _ q
    have hb2 := hb s1 us I1.kIn hl
    rw [List.append_nil] at hb2
    refine wpAny_call (codeAny_mono (F.run X.A X.stack s1 H1 ⟨us, []⟩ us vs Q C8.E0 hgu (hr.mono hk) I1.env0 hb2 r q) fun r s' hq => ?_)
    cases r with
    | error e => exact hq.elim
    | ok fl =>
      cases fl with
      | ret u => exact I1.after hq
      | next => exact False.elim hq
      | brk => exact False.elim hq
      | cont => exact False.elim hq
  exact impPE pe fun σ H R h => sim_call (r := fun vs H Q => spF w vs H Q C8.E0) (fun {S H xs ds k R} hs hx h q => ⟨S, ds, k, hs, hx, h, q⟩) h
end
end CK
set_option Elab.async false
set_option linter.all false
set_option maxRecDepth 100000
set_option maxHeartbeats 4000000
namespace CK
open PySem PySem.Spec PyProof.Rows L2
open Evl (Ex ex_l ex_t fresh_back)
open C8 (Cal pe_c)
section
variable {X : Cx} {tg e a b o iter elt : Expr} {es ifs : List Expr} {pos p p' tpos : Pos}
/-! ### any([known[k] in carries[index] for index in carries]) -/
def tElt (K : PySem.W.Frag) (iKn iK iC iX : Nat) : TE := tOp (rIn K false) (tOp (rIx K) (tVar iKn) (tVar iK)) (tDGet (tVar iC) (tVar iX))
theorem valV_at : ∀ {vs : List (Key × V)} {i : Nat} {k : Key} {v : V}, (vs.map (·.1)).Nodup → vs[i]? = some (k, v) → valV vs k = some v
  | [], _, _, _, _, h => by cases h
  | (k1, v1) :: vs, 0, k, v, _, h => by
    cases h
    exact valV_pos rfl
  | (k1, v1) :: vs, i + 1, k, v, hn, h => by
    rw [List.getElem?_cons_succ] at h
    rw [List.map_cons, List.nodup_cons] at hn
    have ne : k1 ≠ k := fun z => hn.1 (by rw [z]; exact List.mem_map.mpr ⟨(k, v), List.mem_of_getElem? h, rfl⟩)
    rw [valV_neg (by exact ne)]
    exact valV_at hn.2 h
theorem DKV.at {S : Hp} : ∀ {vs : List (Key × V)} {kvs : List (Key × PD)} {i : Nat} {k : Key} {v : V}, DKV S vs kvs → vs[i]? = some (k, v) → ∃ d, kvs[i]? = some (k, d) ∧ DV S v d
  | _, _, _, _, _, .nil, h => by cases h
  | _, (k2, d2) :: _, 0, k, v, .cons h t, e => by
    cases e
    have h1 : k = k2 := h.1
    subst h1
    exact ⟨d2, rfl, h.2⟩
  | _, _, i + 1, k, v, .cons h t, e => by
    rw [List.getElem?_cons_succ] at e
    obtain ⟨d, h1, h2⟩ := DKV.at (i := i) t e
    exact ⟨d, by rw [List.getElem?_cons_succ]; exact h1, h2⟩
theorem atI_map {α β : Type} {f : α → β} {xs : List α} {n : Int} {z : α} (h : atI xs n = some z) : atI (xs.map f) n = some (f z) := by
  unfold atI at h ⊢
  rw [List.length_map]
  cases e : ixN xs.length n with
  | none => rw [e] at h; cases h
  | some j =>
    rw [e] at h
    have h : xs[j]? = some z := h
    show (xs.map f)[j]? = some (f z)
    rw [List.getElem?_map, h]
    rfl
theorem inV_ints (z : Int) : ∀ ns : List Int, inV (.int z) (ns.map V.int) = decide (z ∈ ns)
  | [] => rfl
  | n :: ns => by
    show (eqV (.int n) (.int z) || inV (.int z) (ns.map V.int)) = _
    rw [inV_ints z ns]
    have e : eqV (.int n) (.int z) = decide (z = n) := by
      show (n == z) = _
      by_cases q : z = n
      · subst q; simp
      · simp [q, Ne.symm q]
    rw [e, ← Bool.decide_or, decide_eq_decide, List.mem_cons]
def tabD (tab : List (Int × List Int)) : List (Key × PD) := tab.map fun p => (.inl p.1, .list (p.2.map .int))
def dAnyK (iC iKn iK iX : Nat) : TED := fun ρ Q => iX < ρ.length ∧ dicOf (rget ρ iC) fun kvs => ∃ (kn : List Int) (n z : Int) (tab : List (Int × List Int)), kvs = tabD tab ∧ (tab.map (·.1)).Nodup ∧ tab.length ≤ 1000 ∧
  rget ρ iKn = .dat (.list (kn.map .int)) ∧ rget ρ iK = .dat (.int n) ∧ atI kn n = some z ∧ Q (.bool (tab.any fun p => decide (z ∈ p.2))) ρ
theorem p_anyK (iC iKn iK iX : Nat) {x : Str} {px p2 pos2 : Pos} {scope : Scope} {own : List (Str × Nat)} (hm : X.mg "any" = none) (hc : X.calm = true) (hN : X.N.Nodup) (h1 : iX ≠ iC) (h2 : iX ≠ iKn) (h3 : iX ≠ iK) (ok : BlkOk X.N X.env.scope scope own) (hv : own.map (·.2) = [iX])
    (hg : ∀ (s : Shared) (H : Hp) (C : Addr) (cl : List (Str × Addr)) (fp : List Addr), PG (X.blk s H scope (compEnvC scope cl C X.env) fp) tg (gName iX))
    (he : ∀ (s : Shared) (H : Hp) (C : Addr) (cl : List (Str × Addr)) (fp : List Addr), PE (X.blk s H scope (compEnvC scope cl C X.env) fp) elt (tElt X.K iKn iK iC iX))
    (hC : X.N[iC]? = some x := by rfl) (hV : Vis X.env.scope x := by first | exact Or.inl rfl | exact Or.inr (Or.inl rfl) | exact Or.inr (Or.inr rfl)) (hd : (x == ("__debug__" : Str)) = false := by decide) (hcd : (x == ("__classdict__" : Str)) = false := by decide)
    (hgl : Gl X "any" := by rfl) (hst : starEach [.ListComp elt [⟨tg, .Name x px, [], 0⟩] scope pos] X.env = (false, eval (.ListComp elt [⟨tg, .Name x px, [], 0⟩] scope pos) X.env) :: starEach [] X.env := by rfl) (hpl : (backTo pos2 (starEach [] X.env)).any (·.1) = false := by rfl)
    (hs : ∀ y, foldedSetIterable (.Name x px) X.env y = pure y := by intro _; rfl) :
    PED X (.Call (.Name "any" p2) [.ListComp elt [⟨tg, .Name x px, [], 0⟩] scope pos] [] pos2) (dAnyK iC iKn iK iX) :=
  impPE (pe_callB (cr_any hc) hgl hm (by decide +kernel) (pa_cons (pe_lock (pe_lc hc hN (pi_keys (pe_var hC hV hd hcd)) ok hg (fun _ _ _ _ _ => pts_nil) he hs)) pa_nil hst) (by decide) (by decide) hst hpl) fun σ H R h => by
    obtain ⟨B, ρ, S, Q, E, ⟨hlt, h⟩, k⟩ := h
    obtain ⟨ad, vs, kvs, eq, ha, hS, hH, hds, kn, n, z, tab, rfl, hnd, hl, g1, g2, hz, q⟩ := dicOf_at E h
    obtain ⟨x1, hx1, d1⟩ := E.dat g1
    obtain ⟨x2, hx2, d2⟩ := E.dat g2
    cases d1
    cases d2
    rename_i A xs hA hdA
    obtain rfl := hdA.ints_inv
    have hln : vs.length = tab.length := by rw [hds.length]; exact List.length_map ..
    have knd : (vs.map (·.1)).Nodup := by
      rw [hds.keys]
      show (List.map (·.1) (tabD tab)).Nodup
      unfold tabD
      rw [List.map_map]
      have e : ((fun x : Key × PD => x.1) ∘ fun p : Int × List Int => ((.inl p.1 : Key), PyData.list (p.2.map .int))) = (fun i : Int => (.inl i : Key)) ∘ (·.1) := rfl
      rw [e, ← List.map_map]
      exact hnd.map _ (fun a b hab q => hab (Sum.inl.inj q))
    have neA : A ≠ ad := fun z => by rw [z, hS] at hA; cases hA
    rw [hv]
    let bs : List Bool := tab.map fun p => decide (z ∈ p.2)
    refine ⟨ad, .dK vs, hH, trivial, fun od => ⟨.ref ad, ha, ad, od, rfl, .inl ⟨vs, upd_same, fun D hD => ?_⟩⟩⟩
    have neD : D ≠ ad := fun z => by rw [z, upd_same] at hD; cases hD
    have hD0 : H D = none := by rw [upd_ne neD] at hD; exact hD
    have hA1 : ∀ u, upd (upd H ad (.frz od (.dK vs))) D u A = some (.lst (kn.map .int)) := fun u => by
      have : A ≠ D := fun z => by rw [← z, E.sub _ _ hA] at hD0; cases hD0
      rw [upd_ne this, upd_ne neA]
      exact E.sub _ _ hA
    have hF : ∀ u, upd (upd H ad (.frz od (.dK vs))) D u ad = some (.frz od (.dK vs)) := fun u => by
      rw [upd_ne (Ne.symm neD), upd_same]
    have wk := walk_keys (d := ad) (o := od) (kvs := vs)
    refine ⟨fun i m H' => m = vs.length - i ∧ i ≤ vs.length ∧ H' = upd (upd H ad (.frz od (.dK vs))) D (.lst ((bs.take i).map V.bl)), ⟨vs.length, by simp, Nat.zero_le _, by simp⟩, ?_⟩
    rintro i m H' ⟨rfl, hi, rfl⟩
    by_cases hlt2 : i < vs.length
    · refine .inr ⟨wk.goes i _ hlt2 (hF _), fun H' => H' = upd (upd H ad (.frz od (.dK vs))) D (.lst ((bs.take (i + 1)).map V.bl)), fun H' q => ⟨vs.length - (i + 1), by omega, rfl, hlt2, q⟩, fun y H' hy => ?_⟩
      obtain ⟨rfl, ky, v, hkv, rfl⟩ := wk.yields i _ y H' hlt2 (hF _) hy
      obtain ⟨d, hd1, dv⟩ := hds.at hkv
      have hi2 : i < tab.length := by rw [← hln]; exact hlt2
      have e1 : (tabD tab)[i]? = some (.inl tab[i].1, .list (tab[i].2.map .int)) := by
        unfold tabD
        rw [List.getElem?_map, List.getElem?_eq_getElem hi2]
        rfl
      rw [e1] at hd1
      cases hd1
      cases dv
      rename_i p0 xs0 hp0 hdp
      obtain rfl := hdp.ints_inv
      have hX : iX < σ.length := by rw [E.len]; exact hlt
      have nep0 : p0 ≠ ad := fun z => by rw [z, hS] at hp0; cases hp0
      have hp1 : ∀ u, upd (upd H ad (.frz od (.dK vs))) D u p0 = some (.lst (tab[i].2.map .int)) := fun u => by
        have : p0 ≠ D := fun z => by rw [← z, E.sub _ _ hp0] at hD0; cases hD0
        rw [upd_ne this, upd_ne nep0]
        exact E.sub _ _ hp0
      have look : ∀ {j : Nat} {v : Option V}, iX ≠ j → σ[j]? = some v → ((L2.wipe σ [iX]).set iX (some (kV (.inl tab[i].1))))[j]? = some v := fun {j v} hne hj => by
        rw [List.getElem?_set_ne hne, wipe_out (by simpa using Ne.symm hne)]
        exact hj
      refine ⟨?_, ?_⟩
      · rw [wipe_set1]
        exact wipe_idem σ [iX]
      · unfold tYes
        dsimp only
        rw [if_pos rfl]
        refine ⟨.ref A, look h2 hx1, .int n, look h3 hx2, .inl ⟨A, _, n, .int z, rfl, rfl, SqL.of (hA1 _), ?_, .ref ad, look h1 ha, kV (.inl tab[i].1), ?_, ad, .ref p0, rfl, .inl ⟨vs, .inl tab[i].1, .inr ⟨od, hF _⟩, rfl, (valV_at knd hkv).symm⟩, p0, _, rfl, .inl (SqL.of (hp1 _)), rfl, flat_ints _, (bs.take i).map V.bl, upd_same, ?_, ?_⟩⟩
        · exact atI_map hz
        · rw [List.getElem?_set_self (by rw [wipe_length]; exact hX)]
        · rw [List.length_map, List.length_take]
          exact Nat.lt_of_le_of_lt (Nat.min_le_left _ _) (Nat.lt_of_lt_of_le (Nat.lt_of_lt_of_le hlt2 (by rw [hln]; exact hl)) (by decide))
        · show upd (upd (upd H ad _) D _) D _ = upd (upd H ad _) D _
          rw [upd_upd]
          have e2 : bs.take (i + 1) = bs.take i ++ [decide (z ∈ tab[i].2)] := by
            have hb : bs[i]? = some (decide (z ∈ tab[i].2)) := by
              show (tab.map _)[i]? = _
              rw [List.getElem?_map, List.getElem?_eq_getElem hi2]
              rfl
            rw [List.take_add_one, hb]
            rfl
          rw [e2, List.map_append]
          have e3 : inV (.int z) (tab[i].2.map V.int) = decide (z ∈ tab[i].2) := inV_ints z _
          show upd _ D (.lst (_ ++ [.bl (inV (.int z) (tab[i].2.map V.int))])) = _
          rw [e3]
          rfl
    · have e : i = vs.length := by omega
      subst e
      refine .inl ⟨wk.stops _ (hF _), hF _, D, bs, rfl, SqL.of ?_, ?_⟩
      · have e3 : bs.take vs.length = bs := List.take_of_length_le (by show (tab.map _).length ≤ _; rw [List.length_map, hln]; exact Nat.le_refl _)
        rw [upd_ne neD, upd_same, e3]
      · have e4 : upd (upd (upd H ad (.frz od (.dK vs))) D (.lst ((bs.take vs.length).map V.bl))) ad (.dK vs) = upd H D (.lst ((bs.take vs.length).map V.bl)) := funext fun b => by
          by_cases q1 : b = ad
          · subst q1
            rw [upd_same, upd_ne (Ne.symm neD), hH]
          · rw [upd_ne q1]
            by_cases q2 : b = D
            · subst q2
              rw [upd_same, upd_same]
            · rw [upd_ne q2, upd_ne q2, upd_ne q1]
        rw [e4]
        have e5 : bs.any id = tab.any fun p => decide (z ∈ p.2) := by
          show (tab.map _).any id = _
          rw [List.any_map]
          rfl
        rw [e5]
        exact k _ _ _ ρ S (E.grow (Grow.lay1 E.sub hD0)) (Ex.refl _) (.bl _) q
end
end CK
set_option Elab.async false
set_option linter.all false
set_option maxRecDepth 100000
set_option maxHeartbeats 2000000
namespace CK
open PySem PySem.Spec PyProof.Rows L2
section
variable {ρ ρ1 : Rho} {Q : PD → Rho → Prop} {QT : Bool → Rho → Prop} {QA : List PD → Rho → Prop} {t u : TSD} {td ta tb tc tx : TED} {tt tu : TTD} {tA tr : TAD} {i j : Nat} {nx : Rho → Prop} {rt : En → Rho → Prop} {bk ct : Rho → Prop} {d x y : PD} {ds : List PD} {k : PD → Prop} {w w' : WD2} {w1 : WD1} {wa : WDA}
theorem br_nT {P R : Prop} (h : R) : br (!true) P R := br_f rfl h
theorem br_nF {P R : Prop} (h : P) : br (!false) P R := br_t rfl h
theorem r_enT (h : td ρ fun d ρ1 => tupK d fun ds => QA (enumD ds) ρ1) : dEnT td ρ QA := h
theorem r_par00 (h : nx (rset (rset ρ i (.own [])) j (.own []))) : dPar00 i j ⟨nx, rt, bk, ct⟩ ρ := h
theorem r_all {bs : List Bool} (h : k (.bool (bs.all id))) : wAll [.list (bs.map .bool)] k := ⟨bs, rfl, h⟩
theorem r_any {bs : List Bool} (h : k (.bool (bs.any id))) : wAny [.list (bs.map .bool)] k := ⟨bs, rfl, h⟩
theorem r_lenS {z : Str} (h : z.length ≤ 100000 ∧ k (.int (z.length : Int))) : wLen [.str z] k := h
/-- every item true -/
theorem wAll_true {ds : List PD} (h : ∀ d, d ∈ ds → d = .bool true) (hk : k (.bool true)) : wAll [.list ds] k := by
  refine ⟨ds.map fun _ => true, ?_, ?_⟩
  · rw [List.map_map]
    conv => lhs; rw [← List.map_id ds]
    exact List.map_congr_left fun d hd => h d hd
  · have e : (ds.map fun _ => true).all id = true := by
      rw [List.all_map]
      exact List.all_eq_true.mpr fun _ _ => rfl
    rw [e]
    exact hk
/-- a for loop by what stands before each turn -/
theorem for_inv {g : TGD} {tb : TSD} (I : Nat → Rho → Prop) : ∀ (items : List PD) (n : Nat) {ρ : Rho}, I n ρ →
    (∀ (i : Nat) (x : PD) (ρ : Rho) (nx' : Rho → Prop), items[i]? = some x → I (n + i) ρ → (∀ ρ', I (n + i + 1) ρ' → nx' ρ') → g x ρ fun ρ1 => tb ⟨nx', rt, nx, nx'⟩ ρ1) →
    (∀ ρ, I (n + items.length) ρ → nx ρ) → forW g tb ⟨nx, rt, bk, ct⟩ items ρ
  | [], n, ρ, h0, _, hf => hf ρ h0
  | x :: xs, n, ρ, h0, hs, hf => hs 0 x ρ _ rfl h0 fun ρ' h' => for_inv I xs (n + 1) h' (fun i y ρ nx' hi hI hn => by
      refine hs (i + 1) y ρ nx' hi ?_ ?_
      · have e : n + (i + 1) = n + 1 + i := by omega
        rw [e]; exact hI
      · have e : n + (i + 1) + 1 = n + 1 + i + 1 := by omega
        rw [e]; exact hn) fun ρ hl => hf ρ (by
      have e : n + (x :: xs).length = n + 1 + xs.length := by rw [List.length_cons]; omega
      rw [e]; exact hl)
/-- a comprehension by what stands before each turn -/
theorem lc_inv {g : TGD} {vs : List Nat} {fin : List PD → Rho → Prop} (I : Nat → List PD → Rho → Prop) : ∀ (items : List PD) (n : Nat) (acc : List PD) {ρ : Rho}, I n acc ρ →
    (∀ (i : Nat) (x : PD) (acc : List PD) (ρ : Rho) (k : PD → Rho → Prop) (k0 : Rho → Prop), items[i]? = some x → I (n + i) acc ρ → (∀ y ρ', I (n + i + 1) (acc ++ [y]) (wipeR ρ' vs) → k y ρ') → (∀ ρ', I (n + i + 1) acc (wipeR ρ' vs) → k0 ρ') →
      acc.length < 100000 ∧ g x ρ fun ρ1 => tt ρ1 fun b ρ2 => br b (td ρ2 fun y ρ3 => k y ρ3) (k0 ρ2)) →
    (∀ acc ρ, I (n + items.length) acc ρ → fin acc ρ) → lcW g tt td vs fin items acc ρ
  | [], n, acc, ρ, h0, _, hf => hf acc ρ h0
  | x :: xs, n, acc, ρ, h0, hs, hf => by
    have rest : ∀ acc ρ, I (n + 1) acc ρ → lcW g tt td vs fin xs acc ρ := fun acc ρ h' => lc_inv I xs (n + 1) acc h' (fun i y acc ρ k k0 hi hI hk hk0 => by
      refine hs (i + 1) y acc ρ k k0 hi ?_ ?_ ?_
      · have e : n + (i + 1) = n + 1 + i := by omega
        rw [e]; exact hI
      · have e : n + (i + 1) + 1 = n + 1 + i + 1 := by omega
        rw [e]; exact hk
      · have e : n + (i + 1) + 1 = n + 1 + i + 1 := by omega
        rw [e]; exact hk0) fun acc ρ hl => hf acc ρ (by
      have e : n + (x :: xs).length = n + 1 + xs.length := by rw [List.length_cons]; omega
      rw [e]; exact hl)
    obtain ⟨hl, _⟩ := hs 0 x acc ρ (fun y ρ3 => I (n + 1) (acc ++ [y]) (wipeR ρ3 vs)) (fun ρ2 => I (n + 1) acc (wipeR ρ2 vs)) rfl h0 (fun _ _ h => h) (fun _ h => h)
    exact (hs 0 x acc ρ (fun y ρ3 => acc.length < 100000 ∧ lcW g tt td vs fin xs (acc ++ [y]) (wipeR ρ3 vs)) (fun ρ2 => lcW g tt td vs fin xs acc (wipeR ρ2 vs)) rfl h0 (fun y ρ' h => ⟨hl, rest _ _ h⟩) (fun ρ' h => rest _ _ h)).2
end
end CK
set_option Elab.async false
set_option linter.all false
set_option maxRecDepth 100000
namespace CK
open PySem
/-! ### fractions -/
abbrev Fr := Int × Int
def qv (x : Fr) : Rat := (x.1 : Rat) / (x.2 : Rat)
structure Red (x : Fr) : Prop where
  pos : 0 < x.2
  gcd : Nat.gcd x.1.natAbs x.2.natAbs = 1
structure FrOk (x : Fr) : Prop where
  red : Red x
  n : x.1.natAbs < 2 ^ 3800
  d : x.2.natAbs < 2 ^ 3600
def fracM (a b : Int) : Fr := (a / ((Nat.gcd a.natAbs b.natAbs : Nat) : Int), b / ((Nat.gcd a.natAbs b.natAbs : Nat) : Int))
theorem castne {b : Int} (hb : 0 < b) : (b : Rat) ≠ 0 := by
  intro h
  have := Rat.intCast_eq_zero_iff.mp h
  omega
theorem gpos {a b : Int} (hb : 0 < b) : 0 < ((Nat.gcd a.natAbs b.natAbs : Nat) : Int) := by
  have : 0 < Nat.gcd a.natAbs b.natAbs := Nat.gcd_pos_of_pos_right _ (by omega)
  omega
theorem gmul_l {a b : Int} : a / ((Nat.gcd a.natAbs b.natAbs : Nat) : Int) * ((Nat.gcd a.natAbs b.natAbs : Nat) : Int) = a :=
  Int.ediv_mul_cancel (Int.ofNat_dvd_left.mpr (Nat.gcd_dvd_left _ _))
theorem gmul_r {a b : Int} : b / ((Nat.gcd a.natAbs b.natAbs : Nat) : Int) * ((Nat.gcd a.natAbs b.natAbs : Nat) : Int) = b :=
  Int.ediv_mul_cancel (Int.ofNat_dvd_left.mpr (Nat.gcd_dvd_right _ _))
theorem fracM_pos {a b : Int} (hb : 0 < b) : 0 < (fracM a b).2 := by
  have g := gpos (a := a) hb
  have h := gmul_r (a := a) (b := b)
  have : 0 < b / ((Nat.gcd a.natAbs b.natAbs : Nat) : Int) * ((Nat.gcd a.natAbs b.natAbs : Nat) : Int) := by rw [h]; exact hb
  exact Int.pos_of_mul_pos_left this g
theorem fracM_red {a b : Int} (hb : 0 < b) : Red (fracM a b) := by
  refine ⟨fracM_pos hb, ?_⟩
  show Nat.gcd (a / ((Nat.gcd a.natAbs b.natAbs : Nat) : Int)).natAbs (b / ((Nat.gcd a.natAbs b.natAbs : Nat) : Int)).natAbs = 1
  rw [Int.natAbs_ediv_of_dvd (Int.ofNat_dvd_left.mpr (Nat.gcd_dvd_left _ _)), Int.natAbs_ediv_of_dvd (Int.ofNat_dvd_left.mpr (Nat.gcd_dvd_right _ _)), Int.natAbs_natCast]
  exact Nat.gcd_div_gcd_div_gcd_of_pos_right (by omega)
theorem qv_fracM {a b : Int} (hb : 0 < b) : qv (fracM a b) = (a : Rat) / (b : Rat) := by
  have h1 := castne (fracM_pos (a := a) hb)
  have h2 := castne (gpos (a := a) hb)
  have e1 := gmul_l (a := a) (b := b)
  have e2 := gmul_r (a := a) (b := b)
  unfold qv
  have c1 : ((fracM a b).1 : Rat) * ((((Nat.gcd a.natAbs b.natAbs : Nat) : Int)) : Rat) = (a : Rat) := by
    rw [← Rat.intCast_mul]
    exact congrArg _ e1
  have c2 : ((fracM a b).2 : Rat) * ((((Nat.gcd a.natAbs b.natAbs : Nat) : Int)) : Rat) = (b : Rat) := by
    rw [← Rat.intCast_mul]
    exact congrArg _ e2
  rw [← c1, ← c2]
  generalize ((((Nat.gcd a.natAbs b.natAbs : Nat) : Int)) : Rat) = g at *
  generalize ((fracM a b).1 : Rat) = u at *
  generalize ((fracM a b).2 : Rat) = v at *
  grind
theorem castpos {b : Int} (hb : 0 < b) : (0 : Rat) < (b : Rat) := by exact_mod_cast hb
theorem qv_mul {x : Fr} (h : 0 < x.2) : qv x * (x.2 : Rat) = (x.1 : Rat) := by
  have := castne h
  unfold qv
  grind
theorem qv_pos {x : Fr} (h : 0 < x.2) : 0 < qv x ↔ 0 < x.1 := by
  have e := qv_mul h
  have p := castpos h
  constructor
  · intro q
    have h3 : (0 : Rat) < (x.1 : Rat) := by rw [← e]; exact Rat.mul_pos q p
    exact_mod_cast h3
  · intro q
    have h3 : (0 : Rat) < (x.1 : Rat) := by exact_mod_cast q
    unfold qv
    exact (Rat.lt_div_iff p).mpr (by rw [Rat.zero_mul]; exact h3)
theorem qv_le {x y : Fr} (hx : 0 < x.2) (hy : 0 < y.2) : qv x ≤ qv y ↔ x.1 * y.2 ≤ y.1 * x.2 := by
  have ex := qv_mul hx
  have ey := qv_mul hy
  have px := castpos hx
  have py := castpos hy
  have pp := Rat.mul_pos px py
  have e1 : ((x.1 * y.2 : Int) : Rat) = qv x * ((x.2 : Rat) * (y.2 : Rat)) := by push_cast; rw [← ex]; grind
  have e2 : ((y.1 * x.2 : Int) : Rat) = qv y * ((x.2 : Rat) * (y.2 : Rat)) := by push_cast; rw [← ey]; grind
  rw [← Rat.intCast_le_intCast, e1, e2]
  exact ⟨fun h => Rat.mul_le_mul_of_nonneg_right h (Rat.le_of_lt pp), fun h => Rat.le_of_mul_le_mul_right h pp⟩
theorem qv_nonneg {x : Fr} (h : 0 < x.2) : 0 ≤ qv x ↔ 0 ≤ x.1 := by
  have := qv_le (x := (0, 1)) (y := x) (by decide) h
  have e : qv (0, 1) = 0 := by unfold qv; grind
  rw [e] at this
  rw [this]
  simp
theorem qv_le_int {x : Fr} (h : 0 < x.2) (M : Int) : qv x ≤ (M : Rat) ↔ x.1 ≤ M * x.2 := by
  have := qv_le (x := x) (y := (M, 1)) h Int.one_pos
  have e : qv (M, 1) = (M : Rat) := by unfold qv; grind
  rw [e] at this
  rw [this]
  simp
/-- a multiple of 1 / N -/
def IsOf (N : Int) (q : Rat) : Prop := ∃ m : Int, q * (N : Rat) = (m : Rat)
theorem IsOf.zero {N : Int} : IsOf N 0 := ⟨0, by grind⟩
theorem IsOf.add {N : Int} {a b : Rat} (h : IsOf N a) (h2 : IsOf N b) : IsOf N (a + b) := by
  obtain ⟨m, h⟩ := h
  obtain ⟨n, h2⟩ := h2
  exact ⟨m + n, by push_cast; rw [← h, ← h2]; grind⟩
theorem IsOf.sub {N : Int} {a b : Rat} (h : IsOf N a) (h2 : IsOf N b) : IsOf N (a - b) := by
  obtain ⟨m, h⟩ := h
  obtain ⟨n, h2⟩ := h2
  exact ⟨m - n, by push_cast; rw [← h, ← h2]; grind⟩
theorem IsOf.share {N : Int} {a : Rat} {s : Fr} (hs : 0 < s.2) (h : IsOf N a) : IsOf (N * s.2) (a * qv s) := by
  obtain ⟨m, h⟩ := h
  have e := qv_mul hs
  exact ⟨m * s.1, by push_cast; rw [← h, ← e]; grind⟩
theorem IsOf.more {N K : Int} {a : Rat} (h : IsOf N a) : IsOf (N * K) a := by
  obtain ⟨m, h⟩ := h
  exact ⟨m * K, by push_cast; rw [← h]; grind⟩
theorem den_dvd {x : Fr} (h : Red x) {N : Int} (e : IsOf N (qv x)) : x.2 ∣ N := by
  obtain ⟨m, e⟩ := e
  have q := qv_mul h.pos
  have e1 : x.1 * N = m * x.2 := by
    have : ((x.1 * N : Int) : Rat) = ((m * x.2 : Int) : Rat) := by
      push_cast
      rw [← q, ← e]
      grind
    exact_mod_cast this
  have d : x.2 ∣ x.1 * N := ⟨m, by rw [e1, Int.mul_comm]⟩
  have d2 : x.2.natAbs ∣ x.1.natAbs * N.natAbs := by
    rw [← Int.natAbs_mul]
    exact Int.natAbs_dvd_natAbs.mpr d
  have co : Nat.Coprime x.2.natAbs x.1.natAbs := by
    show Nat.gcd x.2.natAbs x.1.natAbs = 1
    rw [Nat.gcd_comm]
    exact h.gcd
  exact Int.natAbs_dvd_natAbs.mp (co.dvd_of_dvd_mul_left d2)
structure Lim (N M : Int) : Prop where
  np : 0 < N
  nb : N < 2 ^ 3600
  mp : 0 ≤ M
  mb : M < 2 ^ 200
theorem natAbs_lt {a : Int} {n : Nat} (h : -(2 ^ n : Int) < a) (h2 : a < 2 ^ n) : a.natAbs < 2 ^ n := by
  have e : ((2 ^ n : Nat) : Int) = 2 ^ n := by push_cast; rfl
  generalize 2 ^ n = t at *
  omega
theorem Red.ok {x : Fr} {N M : Int} (h : Red x) (L : Lim N M) (h0 : 0 ≤ qv x) (h1 : qv x ≤ (M : Rat)) (hN : IsOf N (qv x)) : FrOk x := by
  have d := den_dvd h hN
  have d1 : x.2 ≤ N := Int.le_of_dvd L.np d
  have n0 := (qv_nonneg h.pos).mp h0
  have n1 := (qv_le_int h.pos M).mp h1
  have p := h.pos
  refine ⟨h, ?_, ?_⟩
  · have e1 : M * x.2 ≤ M * N := Int.mul_le_mul_of_nonneg_left d1 L.mp
    have e2 : M * N ≤ 2 ^ 200 * N := Int.mul_le_mul_of_nonneg_right (Int.le_of_lt L.mb) (Int.le_of_lt L.np)
    have e3 : (2 : Int) ^ 200 * N < 2 ^ 200 * 2 ^ 3600 := Int.mul_lt_mul_of_pos_left L.nb (Int.pow_pos (by decide))
    have e4 : (2 : Int) ^ 200 * 2 ^ 3600 = 2 ^ 3800 := by rw [← Int.pow_add]
    have e5 : (0 : Int) < 2 ^ 3800 := Int.pow_pos (by decide)
    rw [e4] at e3
    refine natAbs_lt ?_ ?_
    · generalize (2 : Int) ^ 3800 = t at *
      omega
    · generalize (2 : Int) ^ 3800 = t at *
      generalize (2 : Int) ^ 200 * N = t2 at *
      omega
  · have e5 : (0 : Int) < 2 ^ 3600 := Int.pow_pos (by decide)
    have := L.nb
    refine natAbs_lt ?_ ?_
    · generalize (2 : Int) ^ 3600 = t at *
      omega
    · generalize (2 : Int) ^ 3600 = t at *
      omega
end CK
set_option Elab.async false
set_option linter.all false
set_option maxRecDepth 100000
namespace CK
open PySem
/-! ### fills -/
abbrev Fill := List (Str × Fr)
def kcp (k : Str) : List Nat := k.cps.toList
theorem kcp_inj {a b : Str} (h : kcp a = kcp b) : a = b := by
  cases a
  cases b
  unfold kcp at h
  congr
  exact Array.toList_inj.mp h
structure KindOk (k : Str) : Prop where
  lo : 1 ≤ k.length
  hi : k.length ≤ 8
  az : ∀ c, c ∈ kcp k → 97 ≤ c ∧ c ≤ 122
structure EntOk (e : Str × Fr) : Prop where
  kind : KindOk e.1
  fr : FrOk e.2
  pos : 0 < e.2.1
abbrev Asc (f : Fill) : Prop := f.Pairwise fun a b => kcp a.1 < kcp b.1
structure FillOk (f : Fill) : Prop where
  ent : ∀ e, e ∈ f → EntOk e
  asc : Asc f
  len : f.length < 64
/-- kinds of Ks, amounts multiples of 1 / N, none above M -/
def FillIn (Ks : List Str) (N M : Int) (f : Fill) : Prop := ∀ e, e ∈ f → e.1 ∈ Ks ∧ IsOf N (qv e.2) ∧ qv e.2 ≤ (M : Rat)
def val : Fill → Str → Rat
  | [], _ => 0
  | e :: es, k => (if e.1 = k then qv e.2 else 0) + val es k
def amt : Fill → Str → Fr
  | [], _ => (0, 1)
  | e :: es, k => if e.1 = k then e.2 else amt es k
theorem qv01 : qv (0, 1) = 0 := by unfold qv; grind
theorem qv11 : qv (1, 1) = 1 := by unfold qv; grind
theorem EntOk.qpos {e : Str × Fr} (h : EntOk e) : 0 < qv e.2 := (qv_pos h.fr.red.pos).mpr h.pos
theorem FillOk.tail {e : Str × Fr} {f : Fill} (h : FillOk (e :: f)) : FillOk f := ⟨fun x hx => h.ent x (List.mem_cons_of_mem _ hx), (List.pairwise_cons.mp h.asc).2, by have := h.len; rw [List.length_cons] at this; omega⟩
theorem val_nonneg {f : Fill} (h : ∀ e, e ∈ f → 0 ≤ qv e.2) (k : Str) : 0 ≤ val f k := by
  induction f with
  | nil => exact Rat.le_refl
  | cons e es ih =>
    have h1 := ih fun x hx => h x (List.mem_cons_of_mem _ hx)
    have h2 := h e List.mem_cons_self
    unfold val
    split <;> grind
theorem FillOk.nonneg {f : Fill} (h : FillOk f) (k : Str) : 0 ≤ val f k := val_nonneg (fun e he => Rat.le_of_lt (h.ent e he).qpos) k
theorem val_absent {f : Fill} {k : Str} (h : ∀ e, e ∈ f → e.1 ≠ k) : val f k = 0 := by
  induction f with
  | nil => rfl
  | cons e es ih =>
    unfold val
    rw [if_neg (h e List.mem_cons_self), ih fun x hx => h x (List.mem_cons_of_mem _ hx)]
    grind
theorem lt_irrefl_cp (a : List Nat) : ¬ a < a := List.lt_irrefl a
theorem asc_ne {e : Str × Fr} {f : Fill} (h : Asc (e :: f)) : ∀ x, x ∈ f → x.1 ≠ e.1 := fun x hx z => by
  have := (List.pairwise_cons.mp h).1 x hx
  rw [z] at this
  exact lt_irrefl_cp _ this
theorem val_amt {f : Fill} (h : Asc f) (k : Str) : qv (amt f k) = val f k := by
  induction f with
  | nil => exact qv01
  | cons e es ih =>
    unfold amt val
    by_cases q : e.1 = k
    · rw [if_pos q, if_pos q, val_absent fun x hx => by rw [← q]; exact asc_ne h x hx]
      grind
    · rw [if_neg q, if_neg q, ih (List.pairwise_cons.mp h).2]
      grind
theorem amt_ok {f : Fill} (h : FillOk f) (k : Str) : FrOk (amt f k) := by
  induction f with
  | nil => exact (show FrOk (0, 1) from ⟨⟨by decide, by decide⟩, by show 0 < 2 ^ 3800; exact Nat.pow_pos (by decide), by show 1 < 2 ^ 3600; exact Nat.one_lt_two_pow (by decide)⟩)
  | cons e es ih =>
    unfold amt
    split
    · exact (h.ent e List.mem_cons_self).fr
    · exact ih h.tail
theorem amt_mem {f : Fill} {k : Str} (h : 0 < (amt f k).1) : ∃ x, (k, x) ∈ f ∧ amt f k = x := by
  induction f with
  | nil => exact absurd (show (0 : Int) < 0 from h) (by decide)
  | cons e es ih =>
    unfold amt at h ⊢
    split at h
    · rename_i q
      subst q
      rw [if_pos rfl]
      exact ⟨e.2, List.mem_cons_self, rfl⟩
    · rename_i q
      obtain ⟨x, h1, h2⟩ := ih h
      rw [if_neg q]
      exact ⟨x, List.mem_cons_of_mem _ h1, h2⟩
theorem val_pos_mem {f : Fill} (h : FillOk f) {k : Str} : 0 < val f k ↔ ∃ e, e ∈ f ∧ e.1 = k := by
  constructor
  · intro q
    by_cases z : ∃ e, e ∈ f ∧ e.1 = k
    · exact z
    · rw [val_absent (fun e he z2 => z ⟨e, he, z2⟩)] at q
      exact absurd q Rat.lt_irrefl
  · rintro ⟨e, he, rfl⟩
    rw [← val_amt h.asc]
    have : ∀ {f : Fill}, Asc f → e ∈ f → amt f e.1 = e.2 := by
      intro f
      induction f with
      | nil => intro _ h; cases h
      | cons x xs ih =>
        intro ha hm
        unfold amt
        by_cases q : x.1 = e.1
        · rw [if_pos q]
          rcases List.mem_cons.mp hm with z | z
          · rw [z]
          · exact absurd q.symm (asc_ne ha e z)
        · rw [if_neg q]
          rcases List.mem_cons.mp hm with z | z
          · exact absurd (by rw [z]) q
          · exact ih (List.pairwise_cons.mp ha).2 z
    rw [this h.asc he]
    exact (h.ent e he).qpos
theorem FillIn.val {Ks : List Str} {N M : Int} {f : Fill} (h : FillIn Ks N M f) (ha : Asc f) (hM : 0 ≤ M) (k : Str) : IsOf N (val f k) ∧ CK.val f k ≤ (M : Rat) := by
  have hM' : (0 : Rat) ≤ (M : Rat) := by exact_mod_cast hM
  induction f with
  | nil => exact ⟨IsOf.zero, hM'⟩
  | cons e es ih =>
    have h1 := ih (fun x hx => h x (List.mem_cons_of_mem _ hx)) (List.pairwise_cons.mp ha).2
    obtain ⟨h2, h3, h4⟩ := h e List.mem_cons_self
    unfold CK.val
    by_cases q : e.1 = k
    · rw [if_pos q, val_absent fun x hx => by rw [← q]; exact asc_ne ha x hx]
      have e0 : qv e.2 + 0 = qv e.2 := by grind
      rw [e0]
      exact ⟨h3, h4⟩
    · rw [if_neg q]
      have e0 : 0 + CK.val es k = CK.val es k := by grind
      rw [e0]
      exact h1
/-! ### part -/
def plusM (x y : Fr) : Fr := fracM (x.1 * y.2 + y.1 * x.2) (x.2 * y.2)
def lessM (x y : Fr) : Fr := fracM (x.1 * y.2 - y.1 * x.2) (x.2 * y.2)
def timesM (x y : Fr) : Fr := fracM (x.1 * y.1) (x.2 * y.2)
theorem qv_plus {x y : Fr} (hx : 0 < x.2) (hy : 0 < y.2) : qv (plusM x y) = qv x + qv y := by
  unfold plusM
  rw [qv_fracM (Int.mul_pos hx hy)]
  have h1 := castne hx
  have h2 := castne hy
  unfold qv
  push_cast
  grind
theorem qv_less {x y : Fr} (hx : 0 < x.2) (hy : 0 < y.2) : qv (lessM x y) = qv x - qv y := by
  unfold lessM
  rw [qv_fracM (Int.mul_pos hx hy)]
  have h1 := castne hx
  have h2 := castne hy
  unfold qv
  push_cast
  grind
theorem qv_times {x y : Fr} (hx : 0 < x.2) (hy : 0 < y.2) : qv (timesM x y) = qv x * qv y := by
  unfold timesM
  rw [qv_fracM (Int.mul_pos hx hy)]
  have h1 := castne hx
  have h2 := castne hy
  unfold qv
  push_cast
  grind
theorem plusM_red {x y : Fr} (hx : 0 < x.2) (hy : 0 < y.2) : Red (plusM x y) := fracM_red (Int.mul_pos hx hy)
theorem lessM_red {x y : Fr} (hx : 0 < x.2) (hy : 0 < y.2) : Red (lessM x y) := fracM_red (Int.mul_pos hx hy)
theorem timesM_red {x y : Fr} (hx : 0 < x.2) (hy : 0 < y.2) : Red (timesM x y) := fracM_red (Int.mul_pos hx hy)
structure ShOk (s : Fr) : Prop where
  fr : FrOk s
  lo : 0 ≤ s.1
  hi : s.1 ≤ s.2
theorem ShOk.q0 {s : Fr} (h : ShOk s) : 0 ≤ qv s := (qv_nonneg h.fr.red.pos).mpr h.lo
theorem ShOk.q1 {s : Fr} (h : ShOk s) : qv s ≤ 1 := by
  have := (qv_le_int h.fr.red.pos 1).mpr (by have := h.hi; omega)
  simpa using this
/-- entries told anew, kinds as they were -/
theorem asc_map {f : Fill} {g : Str × Fr → Fr} (h : Asc f) : Asc (f.map fun e => (e.1, g e)) := by
  rw [Asc, List.pairwise_map]
  exact h
def partM (f : Fill) (s : Fr) : Fill := if s.1 = 0 then [] else f.map fun e => (e.1, timesM e.2 s)
theorem part_spec {f : Fill} {s : Fr} {Ks : List Str} {N M : Int} (hf : FillOk f) (hi : FillIn Ks N M f) (hs : ShOk s) (L : Lim (N * s.2) M) :
    FillOk (partM f s) ∧ FillIn Ks (N * s.2) M (partM f s) ∧ ∀ k, val (partM f s) k = val f k * qv s := by
  have ps := hs.fr.red.pos
  have q0 := hs.q0
  have q1 := hs.q1
  unfold partM
  split
  · rename_i z
    have e0 : qv s = 0 := by unfold qv; rw [z]; grind
    refine ⟨⟨fun _ h => (nomatch h), .nil, by decide⟩, (fun _ h => nomatch h), fun k => ?_⟩
    rw [e0]
    show (0 : Rat) = _
    grind
  · rename_i z
    have sp : 0 < qv s := (qv_pos ps).mpr (by have := hs.lo; omega)
    have key : ∀ e, e ∈ f → 0 < qv (timesM e.2 s) ∧ IsOf (N * s.2) (qv (timesM e.2 s)) ∧ qv (timesM e.2 s) ≤ (M : Rat) := fun e he => by
      have pe := (hf.ent e he).fr.red.pos
      have qe := (hf.ent e he).qpos
      obtain ⟨h1, h2, h3⟩ := hi e he
      rw [qv_times pe ps]
      refine ⟨Rat.mul_pos qe sp, h2.share ps, ?_⟩
      have := Rat.mul_le_mul_of_nonneg_left q1 (Rat.le_of_lt qe)
      grind
    refine ⟨⟨fun e he => ?_, asc_map hf.asc, by rw [List.length_map]; exact hf.len⟩, fun e he => ?_, fun k => ?_⟩
    · obtain ⟨x, hx, rfl⟩ := List.mem_map.mp he
      obtain ⟨h1, h2, h3⟩ := key x hx
      have rd := timesM_red (hf.ent x hx).fr.red.pos ps
      exact ⟨(hf.ent x hx).kind, rd.ok L (Rat.le_of_lt h1) h3 h2, (qv_pos rd.pos).mp h1⟩
    · obtain ⟨x, hx, rfl⟩ := List.mem_map.mp he
      exact ⟨(hi x hx).1, (key x hx).2⟩
    · have gen : ∀ {f : Fill}, (∀ e, e ∈ f → 0 < e.2.2) → val (f.map fun e => (e.1, timesM e.2 s)) k = val f k * qv s := by
        intro f
        induction f with
        | nil =>
          intro _
          show (0 : Rat) = 0 * qv s
          grind
        | cons x xs ih =>
          intro h
          have e1 := ih fun e he => h e (List.mem_cons_of_mem _ he)
          have e2 := qv_times (h x List.mem_cons_self) ps
          show (if x.1 = k then qv (timesM x.2 s) else 0) + val (xs.map _) k = ((if x.1 = k then qv x.2 else 0) + val xs k) * qv s
          rw [e1, e2]
          split <;> grind
      exact gen fun e he => (hf.ent e he).fr.red.pos
/-! ### rest -/
def restM (f o : Fill) : Fill := (f.map fun e => (e.1, lessM e.2 (amt o e.1))).filter fun e => decide (0 < e.2.1)
theorem rest_spec {f o : Fill} {Ks : List Str} {N M : Int} (hf : FillOk f) (ho : FillOk o) (hi : FillIn Ks N M f) (hio : FillIn Ks N M o) (L : Lim N M) (hle : ∀ k, val o k ≤ val f k) :
    FillOk (restM f o) ∧ FillIn Ks N M (restM f o) ∧ ∀ k, val (restM f o) k = val f k - val o k := by
  have key : ∀ e, e ∈ f → qv (lessM e.2 (amt o e.1)) = val f e.1 - val o e.1 ∧ Red (lessM e.2 (amt o e.1)) := fun e he => by
    have pe := (hf.ent e he).fr.red.pos
    have pa := (amt_ok ho e.1).red.pos
    have e1 : val f e.1 = qv e.2 := by
      have : ∀ {f : Fill}, Asc f → e ∈ f → val f e.1 = qv e.2 := by
        intro f
        induction f with
        | nil => intro _ h; cases h
        | cons x xs ih =>
          intro ha hm
          unfold val
          rcases List.mem_cons.mp hm with z | z
          · subst z
            rw [if_pos rfl, val_absent fun y hy => asc_ne ha y hy]
            grind
          · rw [if_neg (Ne.symm (asc_ne ha e z)), ih (List.pairwise_cons.mp ha).2 z]
            grind
      exact this hf.asc he
    exact ⟨by rw [qv_less pe pa, val_amt ho.asc, e1], lessM_red pe pa⟩
  have mem : ∀ e, e ∈ restM f o → ∃ x, x ∈ f ∧ e = (x.1, lessM x.2 (amt o x.1)) ∧ 0 < e.2.1 := fun e he => by
    obtain ⟨h1, h2⟩ := List.mem_filter.mp he
    obtain ⟨x, hx, rfl⟩ := List.mem_map.mp h1
    exact ⟨x, hx, rfl, of_decide_eq_true h2⟩
  have isin : ∀ e, e ∈ restM f o → e.1 ∈ Ks ∧ IsOf N (qv e.2) ∧ qv e.2 ≤ (M : Rat) := fun e he => by
    obtain ⟨x, hx, rfl, hp⟩ := mem e he
    obtain ⟨h1, h2⟩ := key x hx
    have v1 := hi.val hf.asc L.mp x.1
    have v2 := hio.val ho.asc L.mp x.1
    have n2 := ho.nonneg x.1
    refine ⟨(hi x hx).1, ?_, ?_⟩
    · rw [h1]
      exact v1.1.sub v2.1
    · show qv (lessM x.2 (amt o x.1)) ≤ _
      rw [h1]
      have := v1.2
      grind
  refine ⟨⟨fun e he => ?_, (asc_map hf.asc).filter _, ?_⟩, isin, fun k => ?_⟩
  · obtain ⟨x, hx, rfl, hp⟩ := mem e he
    obtain ⟨h1, h2⟩ := key x hx
    have i := isin _ he
    exact ⟨(hf.ent x hx).kind, h2.ok L (Rat.le_of_lt ((qv_pos h2.pos).mpr hp)) i.2.2 i.2.1, hp⟩
  · refine Nat.lt_of_le_of_lt (List.length_filter_le _ _) ?_
    rw [List.length_map]
    exact hf.len
  · by_cases hk : ∃ e, e ∈ f ∧ e.1 = k
    · obtain ⟨x, hx, rfl⟩ := hk
      have gen : ∀ {g : Fill}, Asc g → x ∈ g → (∀ e, e ∈ g → e ∈ f) → val ((g.map fun e => (e.1, lessM e.2 (amt o e.1))).filter fun e => decide (0 < e.2.1)) x.1 = qv (lessM x.2 (amt o x.1)) := by
        intro g
        induction g with
        | nil => intro _ h; cases h
        | cons y ys ih =>
          intro ha hm hsub
          rw [List.map_cons, List.filter_cons]
          rcases List.mem_cons.mp hm with z | z
          · subst z
            have ab : val ((ys.map fun e => (e.1, lessM e.2 (amt o e.1))).filter fun e => decide (0 < e.2.1)) x.1 = 0 := val_absent fun e he z => by
              obtain ⟨h1, _⟩ := List.mem_filter.mp he
              obtain ⟨w, hw, rfl⟩ := List.mem_map.mp h1
              exact asc_ne ha w hw z
            by_cases q : 0 < (lessM x.2 (amt o x.1)).1
            · rw [if_pos (decide_eq_true q)]
              unfold val
              rw [if_pos rfl, ab]
              grind
            · rw [if_neg (by simpa using q), ab]
              obtain ⟨h1, h2⟩ := key x hx
              have p := mt (qv_pos h2.pos).mp q
              have n := hle x.1
              rw [h1] at p ⊢
              grind
          · have e1 := ih (List.pairwise_cons.mp ha).2 z fun e he => hsub e (List.mem_cons_of_mem _ he)
            have ne : y.1 ≠ x.1 := Ne.symm (asc_ne ha x z)
            split
            · unfold val
              rw [if_neg ne, e1]
              grind
            · exact e1
      rw [← (key x hx).1]
      exact gen hf.asc hx fun _ h => h
    · have e1 : val f k = 0 := val_absent fun e he z => hk ⟨e, he, z⟩
      have e2 : val (restM f o) k = 0 := val_absent fun e he z => by
        obtain ⟨x, hx, rfl, _⟩ := mem e he
        exact hk ⟨x, hx, z⟩
      have n := hle k
      have n2 := ho.nonneg k
      rw [e2, e1] at *
      grind
end CK
set_option Elab.async false
set_option linter.all false
set_option maxRecDepth 100000
namespace CK
open PySem
/-! ### together -/
theorem val_append (a b : Fill) (k : Str) : val (a ++ b) k = val a k + val b k := by
  induction a with
  | nil =>
    show val b k = 0 + val b k
    grind
  | cons e es ih =>
    show (if e.1 = k then qv e.2 else 0) + val (es ++ b) k = ((if e.1 = k then qv e.2 else 0) + val es k) + val b k
    rw [ih]
    grind
def putT : Fill → Str → Fr → Fill
  | [], k, x => [(k, x)]
  | e :: es, k, x => if e.1 = k then (k, x) :: es else e :: putT es k x
theorem putT_keys (tot : Fill) (k : Str) (x : Fr) : (∀ y, y ∈ (putT tot k x).map (·.1) ↔ y ∈ tot.map (·.1) ∨ y = k) := by
  induction tot with
  | nil => intro y; simp [putT]
  | cons e es ih =>
    intro y
    unfold putT
    split
    · rename_i q
      simp only [List.map_cons, List.mem_cons]
      rw [q]
      constructor
      · rintro (h | h)
        · exact .inr h
        · exact .inl (.inr h)
      · rintro ((h | h) | h)
        · exact .inl h
        · exact .inr h
        · exact .inl h
    · simp only [List.map_cons, List.mem_cons]
      rw [ih y]
      constructor
      · rintro (h | h | h)
        · exact .inl (.inl h)
        · exact .inl (.inr h)
        · exact .inr h
      · rintro ((h | h) | h)
        · exact .inl h
        · exact .inr (.inl h)
        · exact .inr (.inr h)
theorem putT_nodup {tot : Fill} {k : Str} {x : Fr} (h : (tot.map (·.1)).Nodup) : ((putT tot k x).map (·.1)).Nodup := by
  induction tot with
  | nil => simp [putT]
  | cons e es ih =>
    rw [List.map_cons, List.nodup_cons] at h
    unfold putT
    split
    · rename_i q
      rw [List.map_cons, List.nodup_cons, ← q]
      exact h
    · rename_i q
      rw [List.map_cons, List.nodup_cons]
      refine ⟨fun z => ?_, ih h.2⟩
      rcases (putT_keys es k x e.1).mp z with z | z
      · exact h.1 z
      · exact q z
theorem putT_mem {tot : Fill} {k : Str} {x : Fr} {e : Str × Fr} (h : e ∈ putT tot k x) : e ∈ tot ∨ e = (k, x) := by
  induction tot with
  | nil => exact .inr (List.mem_singleton.mp h)
  | cons y ys ih =>
    unfold putT at h
    split at h
    · rcases List.mem_cons.mp h with z | z
      · exact .inr z
      · exact .inl (List.mem_cons_of_mem _ z)
    · rcases List.mem_cons.mp h with z | z
      · exact .inl (z ▸ List.mem_cons_self)
      · exact (ih z).imp (List.mem_cons_of_mem _) id
theorem nodup_absent {e : Str × Fr} {es : Fill} (h : ((e :: es).map (·.1)).Nodup) : val es e.1 = 0 := val_absent fun x hx z => by
  rw [List.map_cons, List.nodup_cons] at h
  exact h.1 (by rw [← z]; exact List.mem_map.mpr ⟨x, hx, rfl⟩)
theorem val_amt_nd {f : Fill} (h : (f.map (·.1)).Nodup) (k : Str) : qv (amt f k) = val f k := by
  induction f with
  | nil => exact qv01
  | cons e es ih =>
    have ab := nodup_absent h
    rw [List.map_cons, List.nodup_cons] at h
    unfold amt val
    by_cases q : e.1 = k
    · rw [if_pos q, if_pos q, ← q, ab]
      grind
    · rw [if_neg q, if_neg q, ih h.2]
      grind
theorem putT_val {tot : Fill} {k : Str} {x : Fr} (h : (tot.map (·.1)).Nodup) (k' : Str) : val (putT tot k x) k' = if k = k' then qv x else val tot k' := by
  induction tot with
  | nil =>
    show (if k = k' then qv x else 0) + 0 = if k = k' then qv x else 0
    grind
  | cons e es ih =>
    have ab := nodup_absent h
    rw [List.map_cons, List.nodup_cons] at h
    unfold putT
    by_cases q : e.1 = k
    · rw [if_pos q]
      show (if k = k' then qv x else 0) + val es k' = if k = k' then qv x else ((if e.1 = k' then qv e.2 else 0) + val es k')
      by_cases z : k = k'
      · rw [if_pos z, if_pos z, ← z, ← q, ab]
        grind
      · rw [if_neg z, if_neg z, if_neg (by rw [q]; exact z)]
    · rw [if_neg q]
      show (if e.1 = k' then qv e.2 else 0) + val (putT es k x) k' = if k = k' then qv x else ((if e.1 = k' then qv e.2 else 0) + val es k')
      rw [ih h.2]
      by_cases z : k = k'
      · rw [if_pos z, if_pos z, if_neg (by rw [← z]; exact q)]
        grind
      · rw [if_neg z, if_neg z]
/-- what the totals are behind the entries es -/
structure TotOk (Ks : List Str) (N : Int) (tot es : Fill) : Prop where
  nd : (tot.map (·.1)).Nodup
  ks : ∀ e, e ∈ tot → e.1 ∈ Ks ∧ KindOk e.1
  red : ∀ e, e ∈ tot → Red e.2 ∧ 0 < qv e.2 ∧ IsOf N (qv e.2)
  val : ∀ k, CK.val tot k = CK.val es k
theorem TotOk.nil {Ks : List Str} {N : Int} : TotOk Ks N [] [] := ⟨List.nodup_nil, fun _ h => (nomatch h), fun _ h => (nomatch h), fun _ => rfl⟩
theorem val_mem {f : Fill} (hn : (f.map (·.1)).Nodup) {e : Str × Fr} (he : e ∈ f) : val f e.1 = qv e.2 := by
  induction f with
  | nil => cases he
  | cons x xs ih =>
    have ab := nodup_absent hn
    rw [List.map_cons, List.nodup_cons] at hn
    unfold val
    rcases List.mem_cons.mp he with z | z
    · subst z
      rw [if_pos rfl, ab]
      grind
    · rw [if_neg (fun z2 => hn.1 (by rw [z2]; exact List.mem_map.mpr ⟨e, z, rfl⟩)), ih hn.2 z]
      grind
theorem amt_red {Ks : List Str} {N : Int} {tot es : Fill} (h : TotOk Ks N tot es) (k : Str) : Red (amt tot k) := by
  have : ∀ {f : Fill}, (∀ e, e ∈ f → Red e.2) → Red (amt f k) := by
    intro f
    induction f with
    | nil => intro _; exact (show Red (0, 1) from ⟨by decide, by decide⟩)
    | cons x xs ih =>
      intro h
      unfold amt
      split
      · exact h x List.mem_cons_self
      · exact ih fun e he => h e (List.mem_cons_of_mem _ he)
  exact this fun e he => (h.red e he).1
theorem TotOk.add {Ks : List Str} {N : Int} {tot es : Fill} (h : TotOk Ks N tot es) {e : Str × Fr} (he : EntOk e) (hk : e.1 ∈ Ks) (hN : IsOf N (qv e.2)) : TotOk Ks N (putT tot e.1 (plusM (amt tot e.1) e.2)) (es ++ [e]) := by
  have ra := amt_red h e.1
  have rp := plusM_red (x := amt tot e.1) (y := e.2) ra.pos he.fr.red.pos
  have q := qv_plus (x := amt tot e.1) (y := e.2) ra.pos he.fr.red.pos
  have va := val_amt_nd h.nd e.1
  have n0 : 0 ≤ CK.val tot e.1 := val_nonneg (fun x hx => Rat.le_of_lt (h.red x hx).2.1) _
  have iN : IsOf N (CK.val tot e.1) := by
    have : ∀ {f : Fill}, (∀ x, x ∈ f → IsOf N (qv x.2)) → IsOf N (CK.val f e.1) := by
      intro f
      induction f with
      | nil => intro _; exact IsOf.zero
      | cons x xs ih =>
        intro hh
        unfold CK.val
        refine IsOf.add ?_ (ih fun y hy => hh y (List.mem_cons_of_mem _ hy))
        split
        · exact hh x List.mem_cons_self
        · exact IsOf.zero
    exact this fun x hx => (h.red x hx).2.2
  have qp := he.qpos
  refine ⟨putT_nodup h.nd, fun x hx => ?_, fun x hx => ?_, fun k => ?_⟩
  · rcases putT_mem hx with z | z
    · exact h.ks x z
    · subst z; exact ⟨hk, he.kind⟩
  · rcases putT_mem hx with z | z
    · exact h.red x z
    · subst z
      refine ⟨rp, ?_, ?_⟩
      · show 0 < qv (plusM (amt tot e.1) e.2)
        rw [q, va]
        grind
      · show IsOf N (qv (plusM (amt tot e.1) e.2))
        rw [q, va]
        exact iN.add hN
  · rw [putT_val h.nd, val_append, q, va]
    show (if e.1 = k then CK.val tot e.1 + qv e.2 else CK.val tot k) = CK.val es k + ((if e.1 = k then qv e.2 else 0) + 0)
    rw [← h.val k]
    by_cases z : e.1 = k
    · rw [if_pos z, if_pos z, z]
      grind
    · rw [if_neg z, if_neg z]
      grind
theorem nodup_len {α : Type} [DecidableEq α] : ∀ {xs ys : List α}, xs.Nodup → (∀ x, x ∈ xs → x ∈ ys) → xs.length ≤ ys.length
  | [], _, _, _ => Nat.zero_le _
  | x :: xs, ys, h, hs => by
    rw [List.nodup_cons] at h
    have hx := hs x List.mem_cons_self
    have := nodup_len (ys := ys.erase x) h.2 fun y hy => (List.mem_erase_of_ne (fun z => h.1 (by rw [← z]; exact hy))).mpr (hs y (List.mem_cons_of_mem _ hy))
    rw [List.length_erase_of_mem hx] at this
    have p : 0 < ys.length := List.length_pos_of_mem hx
    rw [List.length_cons]
    omega
/-- the fill told by its kinds in their order -/
theorem tot_fill {Ks : List Str} {N M : Int} {tot es : Fill} (h : TotOk Ks N tot es) (L : Lim N M) (hv : ∀ k, CK.val es k ≤ (M : Rat)) (hl : Ks.length < 64) {ys : List Str} (hp : ys.Perm (tot.map (·.1))) (hs : ys.Pairwise fun a b => kcp a < kcp b) :
    FillOk (ys.map fun k => (k, amt tot k)) ∧ FillIn Ks N M (ys.map fun k => (k, amt tot k)) ∧ ∀ k, CK.val (ys.map fun k => (k, amt tot k)) k = CK.val es k := by
  have key : ∀ k, k ∈ ys → ∃ e, e ∈ tot ∧ e.1 = k ∧ amt tot k = e.2 ∧ qv e.2 = CK.val es k := fun k hk => by
    obtain ⟨e, he, rfl⟩ := List.mem_map.mp (hp.mem_iff.mp hk)
    have e1 := val_mem h.nd he
    refine ⟨e, he, rfl, ?_, by rw [← e1, h.val]⟩
    have : ∀ {f : Fill}, (f.map (·.1)).Nodup → e ∈ f → amt f e.1 = e.2 := by
      intro f
      induction f with
      | nil => intro _ h; cases h
      | cons x xs ih =>
        intro hn hm
        rw [List.map_cons, List.nodup_cons] at hn
        unfold amt
        rcases List.mem_cons.mp hm with z | z
        · rw [z, if_pos rfl]
        · rw [if_neg (fun z2 => hn.1 (by rw [z2]; exact List.mem_map.mpr ⟨e, z, rfl⟩))]
          exact ih hn.2 z
    exact this h.nd he
  have isin : FillIn Ks N M (ys.map fun k => (k, amt tot k)) := fun x hx => by
    obtain ⟨k, hk, rfl⟩ := List.mem_map.mp hx
    obtain ⟨e, he, rfl, h1, h2⟩ := key k hk
    refine ⟨(h.ks e he).1, ?_, ?_⟩
    · show IsOf N (qv (amt tot e.1))
      rw [h1]
      exact (h.red e he).2.2
    · show qv (amt tot e.1) ≤ _
      rw [h1, h2]
      exact hv _
  have nd : ys.Nodup := hp.nodup_iff.mpr h.nd
  refine ⟨⟨fun x hx => ?_, ?_, ?_⟩, isin, fun k => ?_⟩
  · obtain ⟨_, i2, i3⟩ := isin x hx
    obtain ⟨k, hk, rfl⟩ := List.mem_map.mp hx
    obtain ⟨e, he, rfl, h1, h2⟩ := key k hk
    obtain ⟨r1, r2, r3⟩ := h.red e he
    refine ⟨(h.ks e he).2, ?_, ?_⟩
    · show FrOk (amt tot e.1)
      rw [h1]
      exact r1.ok L (Rat.le_of_lt r2) (by rw [← h1]; exact i3) r3
    · show 0 < (amt tot e.1).1
      rw [h1]
      exact (qv_pos r1.pos).mp r2
  · rw [Asc, List.pairwise_map]
    exact hs
  · rw [List.length_map]
    refine Nat.lt_of_le_of_lt ?_ hl
    exact nodup_len nd fun k hk => by
      obtain ⟨e, he, rfl, _⟩ := key k hk
      exact (h.ks e he).1
  · have gen : ∀ {zs : List Str}, zs.Nodup → CK.val (zs.map fun k => (k, amt tot k)) k = if k ∈ zs then qv (amt tot k) else 0 := by
      intro zs
      induction zs with
      | nil => intro _; rfl
      | cons z zs ih =>
        intro hn
        rw [List.nodup_cons] at hn
        show (if z = k then qv (amt tot z) else 0) + CK.val (zs.map _) k = _
        rw [ih hn.2]
        by_cases q : z = k
        · subst q
          rw [if_pos rfl, if_neg hn.1, if_pos List.mem_cons_self]
          grind
        · rw [if_neg q]
          by_cases q2 : k ∈ zs
          · rw [if_pos q2, if_pos (List.mem_cons_of_mem _ q2)]
            grind
          · rw [if_neg q2, if_neg (by rw [List.mem_cons, not_or]; exact ⟨Ne.symm q, q2⟩)]
            grind
    rw [gen nd, val_amt_nd h.nd, ← h.val]
    split
    · rfl
    · rename_i q
      exact (val_absent fun e he z => q (by rw [← z]; exact hp.mem_iff.mpr (List.mem_map.mpr ⟨e, he, rfl⟩))).symm
end CK
namespace CK
open PySem
theorem val_flatten_le {fs : List Fill} (h : ∀ f, f ∈ fs → FillOk f) (k : Str) (i : Nat) : val (fs.take i).flatten k ≤ val fs.flatten k := by
  have e : fs.flatten = (fs.take i).flatten ++ (fs.drop i).flatten := by rw [← List.flatten_append, List.take_append_drop]
  rw [e, val_append]
  have : 0 ≤ val (fs.drop i).flatten k := val_nonneg (fun x hx => by
    obtain ⟨f, hf, hx⟩ := List.mem_flatten.mp hx
    exact Rat.le_of_lt ((h f (List.mem_of_mem_drop hf)).ent x hx).qpos) k
  grind
theorem amt_fr {Ks : List Str} {N M : Int} {tot es : Fill} (h : TotOk Ks N tot es) (L : Lim N M) (hv : ∀ k, val es k ≤ (M : Rat)) (k : Str) : FrOk (amt tot k) := by
  have ra := amt_red h k
  have va := val_amt_nd h.nd k
  have n0 : 0 ≤ val tot k := val_nonneg (fun x hx => Rat.le_of_lt (h.red x hx).2.1) _
  have iN : IsOf N (val tot k) := by
    have : ∀ {f : Fill}, (∀ x, x ∈ f → IsOf N (qv x.2)) → IsOf N (val f k) := by
      intro f
      induction f with
      | nil => intro _; exact IsOf.zero
      | cons x xs ih =>
        intro hh
        unfold val
        refine IsOf.add ?_ (ih fun y hy => hh y (List.mem_cons_of_mem _ hy))
        split
        · exact hh x List.mem_cons_self
        · exact IsOf.zero
    exact this fun x hx => (h.red x hx).2.2
  exact ra.ok L (by rw [va]; exact n0) (by rw [va, h.val]; exact hv k) (by rw [va]; exact iN)
theorem tot_len {Ks : List Str} {N : Int} {tot es : Fill} (h : TotOk Ks N tot es) : tot.length ≤ Ks.length := by
  rw [← List.length_map (f := (·.1)) (as := tot)]
  exact nodup_len h.nd fun k hk => by
    obtain ⟨e, he, rfl⟩ := List.mem_map.mp hk
    exact (h.ks e he).1
end CK
set_option Elab.async false
set_option linter.all false
set_option maxRecDepth 100000
namespace CK
open PySem
/-! ### deeds -/
inductive Deed
  | move (a b : Nat) (s : Fr)
  | swap (a b : Nat) (s : Fr)
  | draw (a : Nat) (s : Fr)
  | keep (a : Nat) (s : Fr)
  | add (a : Nat) (f : Fill)
abbrev Cell := List Fill
structure CellOk (c : Cell) : Prop where
  lo : 1 ≤ c.length
  hi : c.length ≤ 8
  fill : ∀ f, f ∈ c → FillOk f
def Deed.Ok (n : Nat) : Deed → Prop
  | .move a b s => a < n ∧ b < n ∧ a ≠ b ∧ ShOk s
  | .swap a b s => a < n ∧ b < n ∧ a ≠ b ∧ ShOk s
  | .draw a s => a < n ∧ ShOk s
  | .keep a s => a < n ∧ ShOk s
  | .add a f => a < n ∧ FillOk f
def Deed.casks : Deed → List Nat
  | .move a b _ => [a, b]
  | .swap a b _ => [a, b]
  | .draw a _ => [a]
  | .keep a _ => [a]
  | .add a _ => [a]
def Deed.den : Deed → Int
  | .move _ _ s => s.2
  | .swap _ _ s => s.2
  | .draw _ s => s.2
  | .keep _ s => s.2
  | .add _ _ => 1
def Deed.AddIn (Ks : List Str) (N M : Int) : Deed → Prop
  | .add _ f => FillIn Ks N M f
  | _ => True
theorem Deed.Ok.den {n : Nat} {d : Deed} (h : d.Ok n) : 0 < d.den := by
  cases d with
  | move a b s => exact h.2.2.2.fr.red.pos
  | swap a b s => exact h.2.2.2.fr.red.pos
  | draw a s => exact h.2.fr.red.pos
  | keep a s => exact h.2.fr.red.pos
  | add a f => exact Int.one_pos
/-- what stands in the casks -/
def valC (c : Cell) (a : Nat) (k : Str) : Rat := val (c.getD a []) k
def stepV (V : Nat → Str → Rat) (d : Deed) (a : Nat) (k : Str) : Rat := match d with
  | .move p q s => if a = p then V p k - V p k * qv s else if a = q then V q k + V p k * qv s else V a k
  | .swap p q s => if a = p then V p k - V p k * qv s + V q k * qv s else if a = q then V q k - V q k * qv s + V p k * qv s else V a k
  | .draw p s => if a = p then V p k - V p k * qv s else V a k
  | .keep p s => if a = p then V p k * qv s else V a k
  | .add p f => if a = p then V p k + val f k else V a k
theorem FillIn.more {Ks : List Str} {N M K M' : Int} {f : Fill} (h : FillIn Ks N M f) (hM : M ≤ M') : FillIn Ks (N * K) M' f := fun e he => by
  obtain ⟨h1, h2, h3⟩ := h e he
  have : (M : Rat) ≤ (M' : Rat) := by exact_mod_cast hM
  exact ⟨h1, h2.more, by grind⟩
theorem Lim.half {N M : Int} (L : Lim N (2 * M)) : Lim N M := by
  obtain ⟨h1, h2, h3, h4⟩ := L
  exact ⟨h1, h2, by omega, by generalize (2 : Int) ^ 200 = t at *; omega⟩
theorem FillOk.nil : FillOk [] := ⟨fun _ h => (nomatch h), .nil, by decide⟩
theorem FillIn.nil {Ks : List Str} {N M : Int} : FillIn Ks N M [] := fun _ h => nomatch h
theorem getD_mem {c : Cell} {a : Nat} (h : a < c.length) : c.getD a [] ∈ c := by
  rw [List.getD_eq_getElem?_getD, List.getElem?_eq_getElem h]
  exact List.getElem_mem h
theorem CellOk.at {c : Cell} (h : CellOk c) (a : Nat) : FillOk (c.getD a []) := by
  by_cases q : a < c.length
  · exact h.fill _ (getD_mem q)
  · rw [List.getD_eq_getElem?_getD, List.getElem?_eq_none (by omega)]
    exact FillOk.nil
theorem CellOk.set {c : Cell} (h : CellOk c) (a : Nat) {f : Fill} (hf : FillOk f) : CellOk (c.set a f) := by
  refine ⟨by rw [List.length_set]; exact h.lo, by rw [List.length_set]; exact h.hi, fun g hg => ?_⟩
  rcases List.mem_or_eq_of_mem_set hg with z | z
  · exact h.fill g z
  · rw [z]; exact hf
theorem valC_set {c : Cell} {a : Nat} (h : a < c.length) (f : Fill) (b : Nat) (k : Str) : valC (c.set a f) b k = if b = a then val f k else valC c b k := by
  unfold valC
  by_cases q : b = a
  · subst q
    rw [if_pos rfl, List.getD_eq_getElem?_getD, List.getElem?_set_self h]
    rfl
  · rw [if_neg q, List.getD_eq_getElem?_getD, List.getElem?_set_ne (Ne.symm q), ← List.getD_eq_getElem?_getD]
def InC (Ks : List Str) (N M : Int) (c : Cell) : Prop := ∀ f, f ∈ c → FillIn Ks N M f
theorem InC.at {Ks : List Str} {N M : Int} {c : Cell} (h : InC Ks N M c) (a : Nat) : FillIn Ks N M (c.getD a []) := by
  by_cases q : a < c.length
  · exact h _ (getD_mem q)
  · rw [List.getD_eq_getElem?_getD, List.getElem?_eq_none (by omega)]
    exact FillIn.nil
theorem InC.set {Ks : List Str} {N M : Int} {c : Cell} (h : InC Ks N M c) (a : Nat) {f : Fill} (hf : FillIn Ks N M f) : InC Ks N M (c.set a f) := fun g hg => by
  rcases List.mem_or_eq_of_mem_set hg with z | z
  · exact h g z
  · rw [z]; exact hf
/-- the denominators behind some deeds -/
def pN (N : Int) (ds : List Deed) : Int := ds.foldl (fun n d => n * d.den) N
theorem pN_append (N : Int) (a b : List Deed) : pN N (a ++ b) = pN (pN N a) b := List.foldl_append ..
theorem pN_le {n : Nat} : ∀ {ds : List Deed} {N : Int}, 0 < N → (∀ d, d ∈ ds → d.Ok n) → N ≤ pN N ds ∧ ∃ K, pN N ds = N * K
  | [], N, _, _ => ⟨Int.le_refl _, 1, (Int.mul_one N).symm⟩
  | d :: ds, N, hN, h => by
    have hd := (h d List.mem_cons_self).den
    obtain ⟨h1, K, h2⟩ := pN_le (ds := ds) (N := N * d.den) (Int.mul_pos hN hd) fun x hx => h x (List.mem_cons_of_mem _ hx)
    refine ⟨?_, d.den * K, ?_⟩
    · have e : pN N (d :: ds) = pN (N * d.den) ds := rfl
      rw [e]
      have : N * 1 ≤ N * d.den := Int.mul_le_mul_of_nonneg_left hd (by omega)
      omega
    · show pN (N * d.den) ds = _
      rw [h2, Int.mul_assoc]
structure RunOk (c : Cell) (deeds : List Deed) (Ks : List Str) (N M : Int) (st : List Cell) : Prop where
  len : st.length = deeds.length + 1
  head : st[0]? = some c
  ok : ∀ i c', st[i]? = some c' → CellOk c' ∧ c'.length = c.length ∧ InC Ks (pN N (deeds.take i)) (2 ^ i * M) c'
  step : ∀ i d c1 c2, deeds[i]? = some d → st[i]? = some c1 → st[i + 1]? = some c2 → ∀ a k, valC c2 a k = stepV (valC c1) d a k
/-- what is drawn in all -/
def dsum : List (Cell × Deed) → Str → Rat
  | [], _ => 0
  | (c, .draw a s) :: r, k => valC c a k * qv s + dsum r k
  | _ :: r, k => dsum r k
theorem RunOk.nil {c : Cell} {Ks : List Str} {N M : Int} (hc : CellOk c) (hi : InC Ks N M c) : RunOk c [] Ks N M [c] := by
  refine ⟨rfl, rfl, fun i c' h => ?_, fun i d c1 c2 h => by cases h⟩
  cases i with
  | zero =>
    cases h
    refine ⟨hc, rfl, ?_⟩
    show InC Ks N (2 ^ 0 * M) c
    rw [Int.pow_zero, Int.one_mul]
    exact hi
  | succ i => cases h
theorem RunOk.snoc {c c1 c2 : Cell} {ds : List Deed} {d : Deed} {Ks : List Str} {N M : Int} {st : List Cell} (h : RunOk c ds Ks N M st) (h1 : st[ds.length]? = some c1) (hc : CellOk c2) (hl : c2.length = c.length) (hi : InC Ks (pN N ds * d.den) (2 * (2 ^ ds.length * M)) c2)
    (hs : ∀ a k, valC c2 a k = stepV (valC c1) d a k) : RunOk c (ds ++ [d]) Ks N M (st ++ [c2]) := by
  have hlen := h.len
  refine ⟨by rw [List.length_append, List.length_append, hlen]; rfl, ?_, fun i c' hi' => ?_, fun i d' x y hd hx hy => ?_⟩
  · rw [List.getElem?_append_left (by omega)]
    exact h.head
  · by_cases q : i < st.length
    · rw [List.getElem?_append_left q] at hi'
      have := h.ok i c' hi'
      rw [List.take_append_of_le_length (by omega)]
      exact this
    · have e : i = st.length := by
        have := (List.getElem?_eq_some_iff.mp hi').1
        rw [List.length_append, List.length_singleton] at this
        omega
      subst e
      rw [List.getElem?_append_right (Nat.le_refl _), Nat.sub_self] at hi'
      cases hi'
      refine ⟨hc, hl, ?_⟩
      rw [List.take_of_length_le (by rw [List.length_append, List.length_singleton]; omega), pN_append, hlen, Int.pow_succ]
      show InC Ks (pN N ds * d.den) _ c2
      rw [show (2 : Int) ^ ds.length * 2 * M = 2 * (2 ^ ds.length * M) by rw [Int.mul_comm (2 ^ ds.length) 2, Int.mul_assoc]]
      exact hi
  · by_cases q : i < ds.length
    · rw [List.getElem?_append_left q] at hd
      rw [List.getElem?_append_left (by omega)] at hx hy
      exact h.step i d' x y hd hx hy
    · have e : i = ds.length := by
        have := (List.getElem?_eq_some_iff.mp hd).1
        rw [List.length_append, List.length_singleton] at this
        omega
      subst e
      rw [List.getElem?_append_right (Nat.le_refl _), Nat.sub_self] at hd
      cases hd
      rw [List.getElem?_append_left (by omega), h1] at hx
      cases hx
      rw [List.getElem?_append_right (by omega), hlen, Nat.sub_self] at hy
      cases hy
      exact hs
theorem pow2_le {i n : Nat} {M : Int} (h : i ≤ n) (hM : 0 ≤ M) : (2 : Int) ^ i * M ≤ 2 ^ n * M :=
  Int.mul_le_mul_of_nonneg_right (by
    have e : (2 : Int) ^ n = 2 ^ i * 2 ^ (n - i) := by rw [← Int.pow_add]; congr 1; omega
    have p : (0 : Int) < 2 ^ i := Int.pow_pos (by decide)
    have q : (1 : Int) ≤ 2 ^ (n - i) := Int.pow_pos (by decide)
    rw [e]
    have := Int.mul_le_mul_of_nonneg_left q (Int.le_of_lt p)
    rw [Int.mul_one] at this
    exact this) hM
theorem lim_at {c : Cell} {ds : List Deed} {N M : Int} (L : Lim (pN N ds) (2 ^ ds.length * M)) (hN : 0 < N) (hM : 0 ≤ M) (hd : ∀ d, d ∈ ds → d.Ok c.length) {i : Nat} {d : Deed} (hi : ds[i]? = some d) :
    Lim (pN N (ds.take i) * d.den) (2 * (2 ^ i * M)) ∧ ∃ K, pN N ds = pN N (ds.take i) * d.den * K := by
  have hlt := (List.getElem?_eq_some_iff.mp hi).1
  have e1 : pN N (ds.take (i + 1)) = pN N (ds.take i) * d.den := by
    rw [List.take_add_one, hi, pN_append]
    rfl
  have e2 : pN N ds = pN (pN N (ds.take (i + 1))) (ds.drop (i + 1)) := by rw [← pN_append, List.take_append_drop]
  have p1 := (pN_le (ds := ds.take (i + 1)) hN fun d hd' => hd d (List.mem_of_mem_take hd')).1
  have p2 := pN_le (ds := ds.drop (i + 1)) (N := pN N (ds.take (i + 1))) (by omega) fun d hd' => hd d (List.mem_of_mem_drop hd')
  have m := pow2_le (i := i + 1) (n := ds.length) hlt hM
  have e3 : (2 : Int) ^ (i + 1) * M = 2 * (2 ^ i * M) := by rw [Int.pow_succ, Int.mul_comm (2 ^ i) 2, Int.mul_assoc]
  have m0 : 0 ≤ (2 : Int) ^ i * M := Int.mul_nonneg (Int.le_of_lt (Int.pow_pos (by decide))) hM
  obtain ⟨l1, l2, l3, l4⟩ := L
  refine ⟨⟨?_, ?_, by omega, ?_⟩, ?_⟩
  · rw [← e1]; omega
  · rw [← e1]
    rw [← e2] at p2
    generalize (2 : Int) ^ 3600 = t at *
    omega
  · rw [← e3]
    generalize (2 : Int) ^ 200 = t at *
    omega
  · obtain ⟨K, hK⟩ := p2.2
    exact ⟨K, by rw [e2, hK, e1]⟩
theorem AddIn.more {d : Deed} {Ks : List Str} {N M K M' : Int} (h : d.AddIn Ks N M) (hM : M ≤ M') : d.AddIn Ks (N * K) M' := by
  cases d with
  | add a f => exact FillIn.more h hM
  | _ => exact True.intro
theorem dsum_append (a b : List (Cell × Deed)) (k : Str) : dsum (a ++ b) k = dsum a k + dsum b k := by
  induction a with
  | nil =>
    show dsum b k = 0 + dsum b k
    grind
  | cons x xs ih =>
    obtain ⟨c, d⟩ := x
    cases d with
    | draw p s =>
      show valC c p k * qv s + dsum (xs ++ b) k = (valC c p k * qv s + dsum xs k) + dsum b k
      rw [ih]
      grind
    | move p q s => exact ih
    | swap p q s => exact ih
    | keep p s => exact ih
    | add p f => exact ih
end CK
set_option Elab.async false
set_option linter.all false
set_option maxRecDepth 100000
set_option maxHeartbeats 2000000
namespace CK
open PySem PySem.Spec PyProof.Rows L2
section
variable {ρ ρ1 : Rho} {Q : PD → Rho → Prop} {QT : Bool → Rho → Prop} {QA : List PD → Rho → Prop} {t u tb : TSD} {td ta tc tx : TED} {tt tu : TTD} {tA tr : TAD} {i j : Nat} {nx : Rho → Prop} {rt : En → Rho → Prop} {bk ct : Rho → Prop} {d x y : PD} {ds : List PD} {k : PD → Prop} {w w' : WD2} {w1 : WD1} {wa : WDA}
variable {kvs : List (Key × PD)} {en : En} {kk : List (Key × PD) → Prop} {kl : List PD → (List PD → En) → Prop} {te tj tk : TED} {pk : Key → Prop}
theorem r_ltS {a b : Str} (h : k (.bool (decide (a.cps.toList < b.cps.toList)))) : wLtS (.str a) (.str b) k := h
theorem r_dic (e : en = .dic kvs) (h : kk kvs) : dicOf en kk := by rw [e]; exact h
theorem r_dkO (e : en = .own ds) (h : kl ds .own) : dkOf en kl := by rw [e]; exact h
theorem r_dkD (e : en = .dck ds) (h : kl ds .dck) : dkOf en kl := by rw [e]; exact h
theorem r_keyS {z : Str} (h : pk (.inr z)) : ∃ k, keyD (.str z) = some k ∧ pk k := ⟨.inr z, rfl, h⟩
theorem r_keyI {z : Int} (h : pk (.inl z)) : ∃ k, keyD (.int z) = some k ∧ pk k := ⟨.inl z, rfl, h⟩
theorem r_get2 (e : rget ρ i = .dic kvs) (h : tk ρ fun y ρ1 => tx ρ1 fun z ρ2 => dicOf (rget ρ2 i) fun kvs => ∃ k, keyD y = some k ∧ Q ((valD kvs k).getD z) ρ2) : dGet2 i tk tx ρ Q := ⟨by rw [e]; exact True.intro, h⟩
theorem r_getD (e : rget ρ i = .dic kvs) (h : tk ρ fun y ρ1 => dicOf (rget ρ1 i) fun kvs => ∃ k d, keyD y = some k ∧ valD kvs k = some d ∧ Q d ρ1) : dGetD i tk ρ Q := ⟨by rw [e]; exact True.intro, h⟩
theorem r_putD (h : te ρ fun d ρ1 => dicOf (rget ρ1 i) (fun _ => True) ∧ tk ρ1 fun y ρ2 => dicOf (rget ρ2 i) fun kvs => ∃ k, keyD y = some k ∧ kvs.length < 100000 ∧ nx (rset ρ2 i (.dic (putD kvs k d)))) : dPutD i tk te ⟨nx, rt, bk, ct⟩ ρ := h
theorem r_dicT {p : Prop} (e : en = .dic kvs) (h : p) : dicOf en (fun _ => True) ∧ p := ⟨by rw [e]; exact True.intro, h⟩
theorem r_dkT {p : Prop} (e : en = .own ds) (h : p) : dkOf en (fun _ _ => True) ∧ p := ⟨by rw [e]; exact True.intro, h⟩
theorem r_dkTD {p : Prop} (e : en = .dck ds) (h : p) : dkOf en (fun _ _ => True) ∧ p := ⟨by rw [e]; exact True.intro, h⟩
theorem r_app (h : dkOf (rget ρ i) (fun _ _ => True) ∧ te ρ fun d ρ1 => dkOf (rget ρ1 i) fun ds c => ds.length < 100000 ∧ nx (rset ρ1 i (c (ds ++ [d])))) : dApp i te ⟨nx, rt, bk, ct⟩ ρ := h
theorem r_setI (h : te ρ fun d ρ1 => dkOf (rget ρ1 i) (fun _ _ => True) ∧ tj ρ1 fun y ρ2 => dkOf (rget ρ2 i) fun ds c => intK y fun k => ∃ j, ixN ds.length k = some j ∧ nx (rset ρ2 i (c (ds.set j d)))) : dSetI i tj te ⟨nx, rt, bk, ct⟩ ρ := h
theorem r_cK {wk : List PD → List PD → (List PD → PD → Prop) → Prop} (h : dkOf (rget ρ i) (fun _ _ => True) ∧ tA ρ fun ds ρ1 => dkOf (rget ρ1 i) fun dk c => wk dk ds fun dk' d => Q d (rset ρ1 i (c dk'))) : dCallK i wk tA ρ Q := h
theorem r_sortS (h : dicOf (rget ρ i) fun kvs => ∃ ks : List Str, kvs.map (·.1) = ks.map Sum.inr ∧ ks.length < 64 ∧ ∀ ys : List Str, ys.Perm ks → sortedS ys = true → Q (.list (ys.map .str)) ρ) : dSortS i ρ Q := h
theorem r_sortI (h : dicOf (rget ρ i) fun kvs => ∃ ks : List Int, kvs.map (·.1) = ks.map Sum.inl ∧ ks.length < 64 ∧ ∀ ys : List Int, ys.Perm ks → ys.Pairwise (· ≤ ·) → Q (.list (ys.map .int)) ρ) : dSortI i ρ Q := h
theorem r_sortSet (h : td ρ fun d ρ1 => lstK d fun ds => ∃ ns : List Int, ds = ns.map .int ∧ ns.length < 64 ∧ ∀ ys : List Int, ys.Pairwise (· < ·) → (∀ k : Int, k ∈ ys ↔ k ∈ ns) → Q (.list (ys.map .int)) ρ1) : dSortSet td ρ Q := h
theorem r_index {to : TED} (h : to ρ fun d ρ1 => lstK d fun ds => td ρ1 fun y ρ2 => intK y fun n => ∃ ns : List Int, ds = ns.map .int ∧ ∃ j : Nat, ns[j]? = some n ∧ (∀ (m : Nat), m < j → ns[m]? ≠ some n) ∧ Q (.int (j : Int)) ρ2) : dIndex to td ρ Q := h
theorem r_join {to : TED} (h : to ρ fun a ρ1 => strK a fun z => td ρ1 fun d ρ2 => lstK d fun ds => ∃ ys : List Str, ds = ys.map .str ∧ (ys.map (·.length)).sum + ys.length * z.length ≤ 16777216 ∧ Q (.str (Txt.join z ys)) ρ2) : dJoin to td ρ Q := h
theorem r_getC {tdc : Rho → (List (Key × PD) → Rho → Prop) → Prop} (h : tdc ρ fun kvs ρ1 => datK (rget ρ1 i) fun y => ∃ k d, keyD y = some k ∧ valD kvs k = some d ∧ Q d ρ1) : dGetC tdc i ρ Q := h
theorem r_datK {kd : PD → Prop} (e : en = .dat d) (h : kd d) : datK en kd := by rw [e]; exact h
theorem r_ixn {n : Nat} {j : Nat} {pj : Nat → Prop} (hj : j < n) (h : pj j) : ∃ m, ixN n ((j : Nat) : Int) = some m ∧ pj m := ⟨j, ixN_nat hj, h⟩
/-! ### walks over what a Lean list tells -/
theorem for_map {α : Type} {g : TGD} (enc : α → PD) (I : Nat → Rho → Prop) (xs : List α) (h0 : I 0 ρ)
    (hs : ∀ (i : Nat) (x : α) (ρ : Rho) (nx' : Rho → Prop), xs[i]? = some x → I i ρ → (∀ ρ', I (i + 1) ρ' → nx' ρ') → g (enc x) ρ fun ρ1 => tb ⟨nx', rt, nx, nx'⟩ ρ1) (hf : ∀ ρ, I xs.length ρ → nx ρ) : forW g tb ⟨nx, rt, bk, ct⟩ (xs.map enc) ρ := by
  refine for_inv (fun n ρ => I n ρ) (xs.map enc) 0 h0 (fun i x ρ nx' hi hI hn => ?_) fun ρ hl => hf ρ (by
    rw [List.length_map, Nat.zero_add] at hl
    exact hl)
  rw [List.getElem?_map] at hi
  cases e : xs[i]? with
  | none => rw [e] at hi; cases hi
  | some y =>
    rw [e] at hi
    cases hi
    rw [Nat.zero_add] at hI
    exact hs i y ρ nx' e hI fun ρ' h' => hn ρ' (by rw [Nat.zero_add]; exact h')
theorem lc_map {α : Type} {g : TGD} {vs : List Nat} {fin : List PD → Rho → Prop} (enc : α → PD) (f : α → PD) : ∀ (xs : List α) (acc : List PD) {ρ : Rho}, xs.length + acc.length ≤ 100000 →
    (∀ x, x ∈ xs → ∀ (k : PD → Rho → Prop) (k0 : Rho → Prop), k (f x) ρ → g (enc x) ρ fun ρ1 => tt ρ1 fun b ρ2 => br b (td ρ2 fun y ρ3 => k y (wipeR ρ3 vs)) (k0 (wipeR ρ2 vs))) →
    fin (acc ++ xs.map f) ρ → lcW g tt td vs fin (xs.map enc) acc ρ
  | [], acc, ρ, _, _, hf => by
    have e : acc ++ ([] : List α).map f = acc := List.append_nil acc
    rw [e] at hf
    exact hf
  | x :: xs, acc, ρ, hl, h, hf => by
    rw [List.length_cons] at hl
    refine h x List.mem_cons_self (fun y ρ' => acc.length < 100000 ∧ lcW g tt td vs fin (xs.map enc) (acc ++ [y]) ρ') (fun ρ' => lcW g tt td vs fin (xs.map enc) acc ρ') ⟨by omega, ?_⟩
    refine lc_map enc f xs (acc ++ [f x]) (by rw [List.length_append]; show xs.length + (acc.length + 1) ≤ 100000; omega) (fun y hy => h y (List.mem_cons_of_mem _ hy)) ?_
    rw [List.append_assoc]
    exact hf
theorem lc_filter {α : Type} {g : TGD} {vs : List Nat} {fin : List PD → Rho → Prop} (enc : α → PD) (p : α → Bool) (f : α → PD) : ∀ (xs : List α) (acc : List PD) {ρ : Rho}, xs.length + acc.length ≤ 100000 →
    (∀ x, x ∈ xs → ∀ (k : PD → Rho → Prop) (k0 : Rho → Prop), br (p x) (k (f x) ρ) (k0 ρ) → g (enc x) ρ fun ρ1 => tt ρ1 fun b ρ2 => br b (td ρ2 fun y ρ3 => k y (wipeR ρ3 vs)) (k0 (wipeR ρ2 vs))) →
    fin (acc ++ (xs.filter p).map f) ρ → lcW g tt td vs fin (xs.map enc) acc ρ
  | [], acc, ρ, _, _, hf => by
    have e : acc ++ (([] : List α).filter p).map f = acc := List.append_nil acc
    rw [e] at hf
    exact hf
  | x :: xs, acc, ρ, hl, h, hf => by
    rw [List.length_cons] at hl
    refine h x List.mem_cons_self (fun y ρ' => acc.length < 100000 ∧ lcW g tt td vs fin (xs.map enc) (acc ++ [y]) ρ') (fun ρ' => lcW g tt td vs fin (xs.map enc) acc ρ') ⟨fun q => ⟨by omega, ?_⟩, fun q => ?_⟩
    · refine lc_filter enc p f xs (acc ++ [f x]) (by rw [List.length_append]; show xs.length + (acc.length + 1) ≤ 100000; omega) (fun y hy => h y (List.mem_cons_of_mem _ hy)) ?_
      rw [List.filter_cons, if_pos q, List.map_cons] at hf
      rw [List.append_assoc]
      exact hf
    · refine lc_filter enc p f xs acc (by omega) (fun y hy => h y (List.mem_cons_of_mem _ hy)) ?_
      rw [List.filter_cons, if_neg (by rw [q]; decide)] at hf
      exact hf
theorem cut1 (xs : List PD) : cutD xs (some 1) none = xs.drop 1 := by
  unfold cutD
  rw [show HT.sIx xs.length 0 (some 1) = min 1 xs.length from HT.sIx_nat _ _ 1, HT.sIx_none]
  cases xs with
  | nil => rfl
  | cons a r =>
    rw [show min 1 (a :: r).length = 1 by rw [List.length_cons]; omega]
    exact List.take_of_length_le (by simp)
theorem zip_next {R : PD → PD → Prop} : ∀ {xs : List PD}, xs.Pairwise R → ∀ z, z ∈ zipD xs (xs.drop 1) → ∃ a b, z = .tuple [a, b] ∧ R a b
  | [], _, z, h => by cases h
  | [x], _, z, h => by cases h
  | x :: y :: r, hp, z, h => by
    rw [List.pairwise_cons] at hp
    have h : z ∈ .tuple [x, y] :: zipD (y :: r) ((y :: r).drop 1) := h
    rcases List.mem_cons.mp h with e | e
    · exact ⟨x, y, e, hp.1 y List.mem_cons_self⟩
    · exact zip_next hp.2 z e
theorem zip_len {xs : List PD} : (zipD xs (xs.drop 1)).length ≤ xs.length := by
  unfold zipD
  rw [List.length_zipWith]
  omega
/-- all([one < other for one, other in zip(xs, xs[1:])]) -/
theorem wAll_map {α : Type} {f : α → PD} {xs : List α} (h : ∀ x, x ∈ xs → f x = .bool true) (hk : k (.bool true)) : wAll [.list ([] ++ xs.map f)] k := wAll_true (fun d hd => by
  rw [List.nil_append] at hd
  obtain ⟨x, hx, rfl⟩ := List.mem_map.mp hd
  exact h x hx) hk
theorem wAll_fm {p : PD → Bool} {f : PD → PD} {xs : List PD} (h : ∀ x, x ∈ xs → f x = .bool true) (hk : k (.bool true)) : wAll [.list ([] ++ (xs.filter p).map f)] k := wAll_true (fun d hd => by
  rw [List.nil_append] at hd
  obtain ⟨x, hx, rfl⟩ := List.mem_map.mp hd
  exact h x (List.mem_filter.mp hx).1) hk
end
/-! ### the totals' dict -/
abbrev frD (x : Fr) : PD := .tuple [.int x.1, .int x.2]
abbrev entD (e : Str × Fr) : PD := .tuple [.str e.1, frD e.2]
abbrev fillD (f : Fill) : PD := .tuple (f.map entD)
abbrev totD (tot : Fill) : List (Key × PD) := tot.map fun e => (.inr e.1, frD e.2)
theorem totD_keys (tot : Fill) : (totD tot).map (·.1) = (tot.map (·.1)).map Sum.inr := by rw [List.map_map, List.map_map]; rfl
theorem totD_val : ∀ (tot : Fill) (k : Str), valD (totD tot) (.inr k) = if k ∈ tot.map (·.1) then some (frD (amt tot k)) else none
  | [], k => rfl
  | e :: es, k => by
    have ih := totD_val es k
    by_cases q : e.1 = k
    · subst q
      rw [if_pos (by simp)]
      unfold amt
      rw [if_pos rfl]
      simp [valD]
    · have e1 : valD (totD (e :: es)) (.inr k) = valD (totD es) (.inr k) := by
        have : ¬ ((Sum.inr e.1 : Key) = .inr k) := fun z => q (Sum.inr.inj z)
        simp [valD, this]
      rw [e1, ih, show amt (e :: es) k = amt es k from if_neg q]
      by_cases z : k ∈ es.map (·.1)
      · rw [if_pos z, if_pos (by rw [List.map_cons]; exact List.mem_cons_of_mem _ z)]
      · rw [if_neg z, if_neg (by rw [List.map_cons, List.mem_cons, not_or]; exact ⟨Ne.symm q, z⟩)]
theorem amt_out {tot : Fill} {k : Str} (h : k ∉ tot.map (·.1)) : amt tot k = (0, 1) := by
  induction tot with
  | nil => rfl
  | cons e es ih =>
    rw [List.map_cons, List.mem_cons, not_or] at h
    unfold amt
    rw [if_neg (Ne.symm h.1), ih h.2]
theorem totD_get (tot : Fill) (k : Str) : (valD (totD tot) (.inr k)).getD (frD (0, 1)) = frD (amt tot k) := by
  rw [totD_val]
  split
  · rfl
  · rename_i h
    rw [amt_out h]
    rfl
theorem putT_out {tot : Fill} {k : Str} {x : Fr} (h : k ∉ tot.map (·.1)) : putT tot k x = tot ++ [(k, x)] := by
  induction tot with
  | nil => rfl
  | cons e es ih =>
    rw [List.map_cons, List.mem_cons, not_or] at h
    unfold putT
    rw [if_neg (Ne.symm h.1), ih h.2]
    rfl
theorem totD_put {tot : Fill} (hn : (tot.map (·.1)).Nodup) (k : Str) (x : Fr) : putD (totD tot) (.inr k) (frD x) = totD (putT tot k x) := by
  have ha : ((totD tot).any fun kv => decide (kv.1 = .inr k)) = decide (k ∈ tot.map (·.1)) := by
    rw [Bool.eq_iff_iff, List.any_eq_true, decide_eq_true_eq]
    constructor
    · rintro ⟨kv, h1, h2⟩
      obtain ⟨e, he, rfl⟩ := List.mem_map.mp h1
      exact List.mem_map.mpr ⟨e, he, Sum.inr.inj (of_decide_eq_true h2)⟩
    · intro h
      obtain ⟨e, he, rfl⟩ := List.mem_map.mp h
      exact ⟨_, List.mem_map.mpr ⟨e, he, rfl⟩, decide_eq_true rfl⟩
  unfold putD
  rw [ha]
  by_cases q : k ∈ tot.map (·.1)
  · rw [if_pos (decide_eq_true q)]
    clear ha
    induction tot with
    | nil => cases q
    | cons e es ih =>
      rw [List.map_cons, List.nodup_cons] at hn
      unfold putT
      by_cases z : e.1 = k
      · subst z
        rw [if_pos rfl]
        show (if (Sum.inr e.1 : Key) = Sum.inr e.1 then ((Sum.inr e.1 : Key), frD x) else (Sum.inr e.1, frD e.2)) :: (totD es).map _ = (Sum.inr e.1, frD x) :: totD es
        rw [if_pos rfl]
        congr 1
        refine (List.map_congr_left fun kv hkv => ?_).trans (List.map_id _)
        obtain ⟨y, hy, rfl⟩ := List.mem_map.mp hkv
        rw [if_neg (fun z => hn.1 (by rw [← Sum.inr.inj z]; exact List.mem_map.mpr ⟨y, hy, rfl⟩))]
        rfl
      · rw [if_neg z]
        show (if (Sum.inr e.1 : Key) = Sum.inr k then ((Sum.inr e.1 : Key), frD x) else (Sum.inr e.1, frD e.2)) :: (totD es).map _ = (Sum.inr e.1, frD e.2) :: totD (putT es k x)
        rw [if_neg (fun z2 => z (Sum.inr.inj z2))]
        congr 1
        refine ih hn.2 ?_
        rcases List.mem_cons.mp (by rw [List.map_cons] at q; exact q) with w | w
        · exact absurd w.symm z
        · exact w
  · rw [if_neg (by rw [decide_eq_true_eq]; exact q), putT_out q]
    show _ = (tot ++ [(k, x)]).map _
    rw [List.map_append]
    rfl
theorem rising_asc : ∀ (p : Str) (ss : List Str), risingS p ss = true → (p :: ss).Nodup → (p :: ss).Pairwise fun a b => kcp a < kcp b
  | p, [], _, _ => List.pairwise_singleton _ _
  | p, x :: r, h, hn => by
    have h : (!ltCps x.cps.toList p.cps.toList && risingS x r) = true := h
    rw [Bool.and_eq_true] at h
    have ih := rising_asc x r h.2 (List.nodup_cons.mp hn).2
    have h1 : kcp p < kcp x := by
      have nl : ¬ kcp x < kcp p := by
        have q := h.1
        rw [ltCps_eq, Bool.not_eq_true', decide_eq_false_iff_not] at q
        exact q
      rcases List.le_iff_lt_or_eq.mp (List.not_lt.mp nl) with z | z
      · exact z
      · exact absurd (kcp_inj z) (fun z => (List.nodup_cons.mp hn).1 (by rw [z]; exact List.mem_cons_self))
    refine List.pairwise_cons.mpr ⟨fun y hy => ?_, ih⟩
    rcases List.mem_cons.mp hy with e | e
    · rw [e]; exact h1
    · exact List.lt_trans h1 ((List.pairwise_cons.mp ih).1 y e)
theorem sorted_asc {ss : List Str} (h : sortedS ss = true) (hn : ss.Nodup) : ss.Pairwise fun a b => kcp a < kcp b := by
  cases ss with
  | nil => exact .nil
  | cons x r => exact rising_asc x r h hn
end CK
set_option Elab.async false
set_option linter.all false
set_option maxRecDepth 100000
namespace CK
open PySem
/-! ### lots and roads -/
def ways : Deed → List (Nat × Nat)
  | .move a b s => if s.1 = 0 then [] else [(a, b)]
  | .swap a b s => if s.1 = 0 then [] else [(a, b), (b, a)]
  | _ => []
def emptied : Deed → List Nat
  | .keep a s => if s.1 = 0 then [a] else []
  | .add _ _ => []
  | .swap a b s => if s = (1, 1) then [a, b] else []
  | .move a _ s => if s = (1, 1) then [a] else []
  | .draw a s => if s = (1, 1) then [a] else []
def IsLot (c : Cell) (ds : List Deed) (z : Int) : Prop := (∃ a : Nat, z = -1 - (a : Int) ∧ a < c.length ∧ c.getD a [] ≠ []) ∨ ∃ (i a : Nat) (f : Fill), z = (i : Int) ∧ ds[i]? = some (.add a f) ∧ f ≠ []
structure Lots (c : Cell) (ds : List Deed) (L : List Int) : Prop where
  asc : L.Pairwise (· < ·)
  mem : ∀ z, z ∈ L ↔ IsLot c ds z
def Reach (c : Cell) (ds : List Deed) (z : Int) : Nat → Nat → Prop
  | 0, a => z = -1 - (a : Int) ∧ a < c.length ∧ c.getD a [] ≠ []
  | t + 1, a => ∃ d, ds[t]? = some d ∧ ((Reach c ds z t a ∧ a ∉ emptied d) ∨ (∃ o, (o, a) ∈ ways d ∧ Reach c ds z t o) ∨ ∃ f, d = .add a f ∧ f ≠ [] ∧ z = (t : Int))
def Carr (c : Cell) (ds : List Deed) (z : Int) (i : Nat) : Prop := ∃ a s, ds[i]? = some (.draw a s) ∧ 0 < s.1 ∧ Reach c ds z i a
theorem asc_unique : ∀ {xs ys : List Int}, xs.Pairwise (· < ·) → ys.Pairwise (· < ·) → (∀ z, z ∈ xs ↔ z ∈ ys) → xs = ys
  | [], [], _, _, _ => rfl
  | [], y :: ys, _, _, h => by
    have := (h y).mpr List.mem_cons_self
    cases this
  | x :: xs, [], _, _, h => by
    have := (h x).mp List.mem_cons_self
    cases this
  | x :: xs, y :: ys, hx, hy, h => by
    rw [List.pairwise_cons] at hx hy
    have e : x = y := by
      have h1 := (h x).mp List.mem_cons_self
      have h2 := (h y).mpr List.mem_cons_self
      rcases List.mem_cons.mp h1 with z | z
      · exact z
      · rcases List.mem_cons.mp h2 with z2 | z2
        · exact z2.symm
        · have := hy.1 x z
          have := hx.1 y z2
          omega
    subst e
    congr 1
    refine asc_unique hx.2 hy.2 fun z => ?_
    constructor
    · intro q
      rcases List.mem_cons.mp ((h z).mp (List.mem_cons_of_mem _ q)) with w | w
      · have := hx.1 z q
        omega
      · exact w
    · intro q
      rcases List.mem_cons.mp ((h z).mpr (List.mem_cons_of_mem _ q)) with w | w
      · have := hy.1 z q
        omega
      · exact w
theorem Lots.unique {c : Cell} {ds : List Deed} {L L' : List Int} (h : Lots c ds L) (h' : Lots c ds L') : L = L' := asc_unique h.asc h'.asc fun z => (h.mem z).trans (h'.mem z).symm
theorem asc_nodup {L : List Int} (h : L.Pairwise (· < ·)) : L.Nodup := h.imp fun {a b} q (z : a = b) => by omega
theorem reach_lot {c : Cell} {ds : List Deed} {z : Int} : ∀ {t a : Nat}, Reach c ds z t a → IsLot c ds z ∧ z < (t : Int)
  | 0, a, h => ⟨.inl ⟨a, h⟩, by have := h.1; omega⟩
  | t + 1, a, ⟨d, hd, h⟩ => by
    rcases h with ⟨h, _⟩ | ⟨o, _, h⟩ | ⟨f, rfl, hf, rfl⟩
    · obtain ⟨h1, h2⟩ := reach_lot h
      exact ⟨h1, by omega⟩
    · obtain ⟨h1, h2⟩ := reach_lot h
      exact ⟨h1, by omega⟩
    · exact ⟨.inr ⟨t, a, f, rfl, hd, hf⟩, by omega⟩
theorem ways_lt {d : Deed} {n o a : Nat} (h : d.Ok n) (hm : (o, a) ∈ ways d) : o < n ∧ a < n ∧ o ≠ a := by
  cases d with
  | move p q s =>
    have hm : (o, a) ∈ (if s.1 = 0 then [] else [(p, q)]) := hm
    split at hm
    · cases hm
    · have e := List.mem_singleton.mp hm
      cases e
      exact ⟨h.1, h.2.1, h.2.2.1⟩
  | swap p q s =>
    have hm : (o, a) ∈ (if s.1 = 0 then [] else [(p, q), (q, p)]) := hm
    split at hm
    · cases hm
    · rcases List.mem_cons.mp hm with e | e
      · cases e
        exact ⟨h.1, h.2.1, h.2.2.1⟩
      · have e := List.mem_singleton.mp e
        cases e
        exact ⟨h.2.1, h.1, Ne.symm h.2.2.1⟩
  | _ => cases hm
theorem reach_lt {c : Cell} {ds : List Deed} (hd : ∀ d, d ∈ ds → d.Ok c.length) {z : Int} : ∀ {t a : Nat}, Reach c ds z t a → a < c.length
  | 0, a, h => h.2.1
  | t + 1, a, ⟨d, hi, h⟩ => by
    have ok := hd d (List.mem_of_getElem? hi)
    rcases h with ⟨h, _⟩ | ⟨o, hw, h⟩ | ⟨f, rfl, hf, rfl⟩
    · exact reach_lt hd h
    · exact (ways_lt ok hw).2.1
    · exact ok.1
structure AheadOk (c : Cell) (ds : List Deed) (t : Nat) (nss : List (List Int)) : Prop where
  len : nss.length = c.length
  asc : ∀ (a : Nat) (ns : List Int), nss[a]? = some ns → ns.Pairwise (· < ·)
  mem : ∀ (a : Nat) (ns : List Int), nss[a]? = some ns → ∀ z, z ∈ ns ↔ Reach c ds z t a
theorem AheadOk.len_le {c : Cell} {ds : List Deed} {t : Nat} {nss : List (List Int)} {L : List Int} (h : AheadOk c ds t nss) (hL : Lots c ds L) {a : Nat} {ns : List Int} (hn : nss[a]? = some ns) : ns.length ≤ L.length :=
  nodup_len (asc_nodup (h.asc a ns hn)) fun z hz => (hL.mem z).mpr (reach_lot ((h.mem a ns hn z).mp hz)).1
/-- the first step: what stays -/
def stayN (d : Deed) (nss : List (List Int)) : List (List Int) := nss.mapIdx fun a ns => if a ∈ emptied d then [] else ns
/-- behind some of the ways -/
structure MidOk (c : Cell) (ds : List Deed) (t : Nat) (d : Deed) (ws : List (Nat × Nat)) (nss : List (List Int)) : Prop where
  len : nss.length = c.length
  asc : ∀ (a : Nat) (ns : List Int), nss[a]? = some ns → ns.Pairwise (· < ·)
  mem : ∀ (a : Nat) (ns : List Int), nss[a]? = some ns → ∀ z, z ∈ ns ↔ (Reach c ds z t a ∧ a ∉ emptied d) ∨ ∃ o, (o, a) ∈ ws ∧ Reach c ds z t o
theorem MidOk.start {c : Cell} {ds : List Deed} {t : Nat} {d : Deed} {nss : List (List Int)} (h : AheadOk c ds t nss) : MidOk c ds t d [] (stayN d nss) := by
  have key : ∀ (a : Nat) (ns : List Int), (stayN d nss)[a]? = some ns → ∃ ms, nss[a]? = some ms ∧ ns = if a ∈ emptied d then [] else ms := fun a ns hn => by
    unfold stayN at hn
    rw [List.getElem?_mapIdx] at hn
    cases e : nss[a]? with
    | none => rw [e] at hn; cases hn
    | some ms =>
      rw [e] at hn
      cases hn
      exact ⟨ms, rfl, rfl⟩
  refine ⟨by unfold stayN; rw [List.length_mapIdx]; exact h.len, fun a ns hn => ?_, fun a ns hn z => ?_⟩
  · obtain ⟨ms, hm, rfl⟩ := key a ns hn
    split
    · exact .nil
    · exact h.asc a ms hm
  · obtain ⟨ms, hm, rfl⟩ := key a ns hn
    split
    · rename_i q
      exact ⟨fun z => (nomatch z), fun z => z.elim (fun w => absurd q w.2) (fun ⟨o, w, _⟩ => nomatch w)⟩
    · rename_i q
      rw [h.mem a ms hm z]
      exact ⟨fun w => .inl ⟨w, q⟩, fun w => w.elim (fun w => w.1) (fun ⟨o, w, _⟩ => nomatch w)⟩
theorem MidOk.add {c : Cell} {ds : List Deed} {t : Nat} {d : Deed} {ws : List (Nat × Nat)} {now nss : List (List Int)} {o b : Nat} {ns ms ys : List Int} (h : MidOk c ds t d ws nss) (ha : AheadOk c ds t now) (hn : nss[b]? = some ns) (hm : now[o]? = some ms)
    (asc : ys.Pairwise (· < ·)) (hy : ∀ z : Int, z ∈ ys ↔ z ∈ ns ∨ z ∈ ms) : MidOk c ds t d (ws ++ [(o, b)]) (nss.set b ys) := by
  have hb := (List.getElem?_eq_some_iff.mp hn).1
  refine ⟨by rw [List.length_set]; exact h.len, fun a ns' ha' => ?_, fun a ns' ha' z => ?_⟩
  · by_cases q : a = b
    · subst q
      rw [List.getElem?_set_self hb] at ha'
      cases ha'
      exact asc
    · rw [List.getElem?_set_ne (Ne.symm q)] at ha'
      exact h.asc a ns' ha'
  · by_cases q : a = b
    · subst q
      rw [List.getElem?_set_self hb] at ha'
      cases ha'
      rw [hy z, h.mem a ns hn z, ha.mem o ms hm z]
      constructor
      · rintro ((w | ⟨o', w, r⟩) | w)
        · exact .inl w
        · exact .inr ⟨o', List.mem_append_left _ w, r⟩
        · exact .inr ⟨o, List.mem_append_right _ (List.mem_singleton.mpr rfl), w⟩
      · rintro (w | ⟨o', w, r⟩)
        · exact .inl (.inl w)
        · rcases List.mem_append.mp w with w | w
          · exact .inl (.inr ⟨o', w, r⟩)
          · cases List.mem_singleton.mp w
            exact .inr r
    · rw [List.getElem?_set_ne (Ne.symm q)] at ha'
      rw [h.mem a ns' ha' z]
      constructor
      · rintro (w | ⟨o', w, r⟩)
        · exact .inl w
        · exact .inr ⟨o', List.mem_append_left _ w, r⟩
      · rintro (w | ⟨o', w, r⟩)
        · exact .inl w
        · rcases List.mem_append.mp w with w | w
          · exact .inr ⟨o', w, r⟩
          · cases List.mem_singleton.mp w
            exact absurd rfl q
theorem MidOk.len_le {c : Cell} {ds : List Deed} {t : Nat} {d : Deed} {ws : List (Nat × Nat)} {nss : List (List Int)} {L : List Int} (h : MidOk c ds t d ws nss) (hL : Lots c ds L) {a : Nat} {ns : List Int} (hn : nss[a]? = some ns) : ns.length ≤ L.length :=
  nodup_len (asc_nodup (h.asc a ns hn)) fun z hz => (hL.mem z).mpr (by
    rcases (h.mem a ns hn z).mp hz with w | ⟨o, _, w⟩
    · exact (reach_lot w.1).1
    · exact (reach_lot w).1)
/-- a step that brings no lot -/
theorem MidOk.plain {c : Cell} {ds : List Deed} {t : Nat} {d : Deed} {nss : List (List Int)} (h : MidOk c ds t d (ways d) nss) (hd : ds[t]? = some d) (hn : ∀ a f, d = .add a f → f = []) : AheadOk c ds (t + 1) nss := by
  refine ⟨h.len, h.asc, fun a ns ha z => ?_⟩
  rw [h.mem a ns ha z]
  constructor
  · rintro (w | w)
    · exact ⟨d, hd, .inl w⟩
    · exact ⟨d, hd, .inr (.inl w)⟩
  · rintro ⟨d', hd', w⟩
    rw [hd] at hd'
    cases hd'
    rcases w with w | w | ⟨f, rfl, hf, _⟩
    · exact .inl w
    · exact .inr w
    · exact absurd (hn a f rfl) hf
/-- a step that brings one -/
theorem MidOk.born {c : Cell} {ds : List Deed} {t b : Nat} {f : Fill} {nss : List (List Int)} {ns : List Int} (h : MidOk c ds t (.add b f) (ways (.add b f)) nss) (hd : ds[t]? = some (.add b f)) (hf : f ≠ []) (hn : nss[b]? = some ns) : AheadOk c ds (t + 1) (nss.set b (ns ++ [(t : Int)])) := by
  have hb := (List.getElem?_eq_some_iff.mp hn).1
  have base : ∀ (a : Nat) (ns : List Int), nss[a]? = some ns → ∀ z, z ∈ ns ↔ Reach c ds z t a := fun a ns ha z => by
    rw [h.mem a ns ha z]
    exact ⟨fun w => w.elim (fun w => w.1) (fun ⟨o, w, _⟩ => nomatch w), fun w => .inl ⟨w, fun z => nomatch z⟩⟩
  refine ⟨by rw [List.length_set]; exact h.len, fun a ns' ha => ?_, fun a ns' ha z => ?_⟩
  · by_cases q : a = b
    · subst q
      rw [List.getElem?_set_self hb] at ha
      cases ha
      refine List.pairwise_append.mpr ⟨h.asc a ns hn, List.pairwise_singleton _ _, fun x hx y hy => ?_⟩
      rw [List.mem_singleton.mp hy]
      exact (reach_lot ((base a ns hn x).mp hx)).2
    · rw [List.getElem?_set_ne (Ne.symm q)] at ha
      exact h.asc a ns' ha
  · have out : Reach c ds z (t + 1) a ↔ Reach c ds z t a ∨ (a = b ∧ z = (t : Int)) := by
      constructor
      · rintro ⟨d', hd', w⟩
        rw [hd] at hd'
        cases hd'
        rcases w with w | ⟨o, w, _⟩ | ⟨g, e, _, w⟩
        · exact .inl w.1
        · cases w
        · cases e
          exact .inr ⟨rfl, w⟩
      · rintro (w | ⟨rfl, w⟩)
        · exact ⟨_, hd, .inl ⟨w, fun z => nomatch z⟩⟩
        · exact ⟨_, hd, .inr (.inr ⟨f, rfl, hf, w⟩)⟩
    rw [out]
    by_cases q : a = b
    · subst q
      rw [List.getElem?_set_self hb] at ha
      cases ha
      rw [List.mem_append, List.mem_singleton, base a ns hn z]
      exact ⟨fun w => w.imp id fun w => ⟨rfl, w⟩, fun w => w.imp id fun w => w.2⟩
    · rw [List.getElem?_set_ne (Ne.symm q)] at ha
      rw [base a ns' ha z]
      exact ⟨fun w => .inl w, fun w => w.elim id fun w => absurd w.1 q⟩
end CK
set_option Elab.async false
set_option linter.all false
set_option maxRecDepth 100000
set_option maxHeartbeats 2000000
namespace CK
open PySem PySem.Spec PyProof.Rows L2
/-! ### comparisons of data -/
theorem eqv_ints : ∀ xs ys : List Int, PyData.eqvAll (xs.map .int) (ys.map .int) = decide (xs = ys)
  | [], [] => by simp [PyData.eqvAll]
  | [], y :: ys => by simp [PyData.eqvAll]
  | x :: xs, [] => by simp [PyData.eqvAll]
  | x :: xs, y :: ys => by
    simp only [List.map_cons, PyData.eqvAll, PyData.eqv, eqv_ints xs ys]
    by_cases h : x = y
    · subst h; simp
    · simp [h]
theorem eqv_strs : ∀ xs ys : List Str, PyData.eqvAll (xs.map .str) (ys.map .str) = decide (xs = ys)
  | [], [] => by simp [PyData.eqvAll]
  | [], y :: ys => by simp [PyData.eqvAll]
  | x :: xs, [] => by simp [PyData.eqvAll]
  | x :: xs, y :: ys => by
    simp only [List.map_cons, PyData.eqvAll, PyData.eqv, eqv_strs xs ys]
    by_cases h : x = y
    · subst h; simp
    · simp [h]
theorem eqv_nil {f : Fill} : PyData.eqv (fillD f) (.tuple []) = decide (f = []) := by
  cases f with
  | nil => simp [PyData.eqv, PyData.eqvAll]
  | cons e es => simp [PyData.eqv, PyData.eqvAll]
theorem eqv_fr (s t : Fr) : PyData.eqv (frD s) (frD t) = decide (s = t) := by
  obtain ⟨a, b⟩ := s
  obtain ⟨c, d⟩ := t
  simp only [PyData.eqv, PyData.eqvAll, Bool.and_true]
  by_cases h : a = c
  · subst h
    by_cases h2 : b = d
    · subst h2; simp
    · simp [h2]
  · simp [h]
theorem eqv_ent (e : Str × Fr) : PyData.eqv (entD e) (entD e) = true := by
  simp [PyData.eqv, PyData.eqvAll]
theorem eqv_fill (f : Fill) : PyData.eqv (fillD f) (fillD f) = true := by
  simp only [PyData.eqv]
  induction f with
  | nil => simp [PyData.eqvAll]
  | cons e es ih => simp only [List.map_cons, PyData.eqvAll, ih, eqv_ent, Bool.and_true]
theorem eqv_cell (c : Cell) : PyData.eqv (.tuple (c.map fillD)) (.tuple (c.map fillD)) = true := by
  simp only [PyData.eqv]
  induction c with
  | nil => simp [PyData.eqvAll]
  | cons e es ih => simp only [List.map_cons, PyData.eqvAll, ih, eqv_fill, Bool.and_true]
theorem lay_ints : ∀ xs : List Int, PyData.canLayAll0 (xs.map .int) = true
  | [] => by simp [PyData.canLayAll0]
  | x :: xs => by simp only [List.map_cons, PyData.canLayAll0, PyData.canLay0, lay_ints xs, Bool.and_self]
theorem dep_ints : ∀ xs : List Int, PyData.depthAll (xs.map .int) = 0
  | [] => by simp [PyData.depthAll]
  | x :: xs => by simp only [List.map_cons, PyData.depthAll, PyData.depth, dep_ints xs, Nat.max_self]
theorem kind_str {z : Str} (h : KindOk z) : PyData.strOk z = true := by
  unfold PyData.strOk
  rw [← Array.all_toList, List.all_eq_true]
  intro c hc
  have := (h.az c hc).2
  exact decide_eq_true (by omega)
theorem lay_strs : ∀ xs : List Str, (∀ x, x ∈ xs → KindOk x) → PyData.canLayAll0 (xs.map .str) = true
  | [], _ => by simp [PyData.canLayAll0]
  | x :: xs, h => by simp only [List.map_cons, PyData.canLayAll0, PyData.canLay0, kind_str (h x List.mem_cons_self), lay_strs xs fun y hy => h y (List.mem_cons_of_mem _ hy), Bool.and_self]
theorem dep_strs : ∀ xs : List Str, PyData.depthAll (xs.map .str) = 0
  | [] => by simp [PyData.depthAll]
  | x :: xs => by simp only [List.map_cons, PyData.depthAll, PyData.depth, dep_strs xs, Nat.max_self]
theorem sh_ints (xs : List Int) : SeqAt.shaped (.list (xs.map .int)) = true := by simp [SeqAt.shaped, PyData.canLay0, PyData.depth, lay_ints, dep_ints]
theorem sh_strs {xs : List Str} (h : ∀ x, x ∈ xs → KindOk x) : SeqAt.shaped (.list (xs.map .str)) = true := by simp [SeqAt.shaped, PyData.canLay0, PyData.depth, lay_strs xs h, dep_strs]
theorem sh_fr (s : Fr) : SeqAt.shaped (frD s) = true := by simp [SeqAt.shaped, PyData.canLay0, PyData.canLayAll0, PyData.depth, PyData.depthAll]
theorem sh_nil : SeqAt.shaped (.tuple []) = true := by simp [SeqAt.shaped, PyData.canLay0, PyData.canLayAll0, PyData.depth, PyData.depthAll]
theorem sh_lnil : SeqAt.shaped (.list []) = true := by simp [SeqAt.shaped, PyData.canLay0, PyData.canLayAll0, PyData.depth, PyData.depthAll]
theorem fill_lay {f : Fill} (h : ∀ e, e ∈ f → KindOk e.1) : PyData.canLayAll0 (f.map entD) = true ∧ PyData.depthAll (f.map entD) ≤ 2 := by
  induction f with
  | nil => simp [PyData.canLayAll0, PyData.depthAll]
  | cons e es ih =>
    have ih := ih fun x hx => h x (List.mem_cons_of_mem _ hx)
    have hk := kind_str (h e List.mem_cons_self)
    refine ⟨?_, ?_⟩
    · simp [PyData.canLayAll0, PyData.canLay0, ih.1, hk]
    · have := ih.2
      simp [PyData.depthAll, PyData.depth]
      omega
theorem sh_fill {f : Fill} (hf : FillOk f) : SeqAt.shaped (fillD f) = true := by
  have h := fill_lay (f := f) fun e he => (hf.ent e he).kind
  have h2 := h.2
  simp [SeqAt.shaped, PyData.canLay0, PyData.depth, h.1]
  omega
theorem cell_lay {c : Cell} (hc : ∀ f, f ∈ c → FillOk f) : PyData.canLayAll0 (c.map fillD) = true ∧ PyData.depthAll (c.map fillD) ≤ 3 := by
  induction c with
  | nil => simp [PyData.canLayAll0, PyData.depthAll]
  | cons f es ih =>
    have ih := ih fun x hx => hc x (List.mem_cons_of_mem _ hx)
    have h := fill_lay (f := f) fun e he => ((hc f List.mem_cons_self).ent e he).kind
    have h2 := h.2
    refine ⟨?_, ?_⟩
    · simp [PyData.canLayAll0, PyData.canLay0, ih.1, h.1]
    · have := ih.2
      simp [PyData.depthAll, PyData.depth]
      omega
theorem sh_cell {c : Cell} (hc : CellOk c) : SeqAt.shaped (.tuple (c.map fillD)) = true := by
  have h := cell_lay hc.fill
  have h2 := h.2
  simp [SeqAt.shaped, PyData.canLay0, PyData.depth, h.1]
  omega
section
variable {k : PD → Prop}
theorem r_neFill {f : Fill} (hf : FillOk f) (h : k (.bool (!decide (f = [])))) : wNe (fillD f) (.tuple []) k := ⟨sh_fill hf, sh_nil, by rw [eqv_nil]; exact h⟩
theorem r_neFr {s t : Fr} (h : k (.bool (!decide (s = t)))) : wNe (frD s) (frD t) k := ⟨sh_fr s, sh_fr t, by rw [eqv_fr]; exact h⟩
theorem r_neFr1 {s : Fr} (h : k (.bool (!decide (s = (1, 1))))) : wNe (frD s) (.tuple [.int 1, .int 1]) k := r_neFr (t := (1, 1)) h
theorem r_neInts {xs ys : List Int} (h : k (.bool (!decide (xs = ys)))) : wNe (.list (xs.map .int)) (.list (ys.map .int)) k := ⟨sh_ints xs, sh_ints ys, by
  have e : PyData.eqv (.list (xs.map .int)) (.list (ys.map .int)) = decide (xs = ys) := by
    rw [← eqv_ints]
    simp only [PyData.eqv]
  rw [e]
  exact h⟩
theorem r_eqInil {xs : List Int} (h : k (.bool (decide (xs = [])))) : wEq (.list (xs.map .int)) (.list []) k := ⟨sh_ints xs, sh_lnil, by
  have e : PyData.eqv (.list (xs.map .int)) (.list []) = decide (xs = []) := by
    have := eqv_ints xs []
    rw [← this]
    simp only [PyData.eqv, List.map_nil]
  rw [e]
  exact h⟩
theorem r_neStrs {xs ys : List Str} (hx : ∀ x, x ∈ xs → KindOk x) (hy : ∀ x, x ∈ ys → KindOk x) (h : k (.bool (!decide (xs = ys)))) : wNe (.list (xs.map .str)) (.list (ys.map .str)) k := ⟨sh_strs hx, sh_strs hy, by
  have e : PyData.eqv (.list (xs.map .str)) (.list (ys.map .str)) = decide (xs = ys) := by
    rw [← eqv_strs]
    simp only [PyData.eqv]
  rw [e]
  exact h⟩
theorem r_neCell {c : Cell} (hc : CellOk c) (h : k (.bool false)) : wNe (.tuple (c.map fillD)) (.tuple (c.map fillD)) k := ⟨sh_cell hc, sh_cell hc, by rw [eqv_cell]; exact h⟩
theorem inD_ints (z : Int) : ∀ xs : List Int, inD (.int z) (xs.map .int) = decide (z ∈ xs)
  | [] => rfl
  | x :: xs => by
    show (eqD (.int x) (.int z) || inD (.int z) (xs.map .int)) = _
    rw [inD_ints z xs]
    have e : eqD (.int x) (.int z) = decide (z = x) := by
      show (x == z) = _
      by_cases q : z = x
      · subst q; simp
      · simp [q, Ne.symm q]
    rw [e, ← Bool.decide_or, decide_eq_decide, List.mem_cons]
theorem flat_intsD : ∀ xs : List Int, (xs.map PyData.int).all flatD = true
  | [] => rfl
  | x :: xs => by
    rw [List.map_cons, List.all_cons, flat_intsD xs]
    rfl
theorem r_inI {z : Int} {xs : List Int} (h : k (.bool (decide (z ∈ xs)))) : wIn false (.int z) (.list (xs.map .int)) k := ⟨rfl, flat_intsD xs, by rw [inD_ints]; exact h⟩
theorem r_ninI {z : Int} {xs : List Int} (h : k (.bool (!decide (z ∈ xs)))) : wIn true (.int z) (.list (xs.map .int)) k := ⟨rfl, flat_intsD xs, by rw [inD_ints]; exact h⟩
theorem r_inN {z : Nat} {xs : List Nat} (h : k (.bool (decide (z ∈ xs)))) : wIn false (.int (z : Int)) (.list (xs.map fun a : Nat => PyData.int (a : Int))) k := by
  have e : (xs.map fun a : Nat => PyData.int (a : Int)) = (xs.map fun a : Nat => (a : Int)).map PyData.int := by rw [List.map_map]; rfl
  rw [e]
  refine r_inI ?_
  have e2 : decide ((z : Int) ∈ xs.map fun a : Nat => (a : Int)) = decide (z ∈ xs) := by
    rw [decide_eq_decide, List.mem_map]
    exact ⟨fun ⟨a, h1, h2⟩ => (by have : a = z := by omega
                                  exact this ▸ h1), fun h => ⟨z, h, rfl⟩⟩
  rw [e2]
  exact h
theorem enumD_map {α : Type} (enc : α → PD) (xs : List α) : enumD (xs.map enc) = xs.zipIdx.map fun p => .tuple [.int (p.2 : Int), enc p.1] := by
  unfold enumD
  refine List.ext_getElem? fun i => ?_
  rw [List.getElem?_mapIdx, List.getElem?_map, List.getElem?_map, List.getElem?_zipIdx]
  cases xs[i]? with
  | none => rfl
  | some x => simp
theorem r_ixnE {n : Nat} {i : Int} {j : Nat} {pj : Nat → Prop} (e : ixN n i = some j) (h : pj j) : ∃ m, ixN n i = some m ∧ pj m := ⟨j, e, h⟩
theorem r_while {c : TTD} {tb : TSD} {D : DEnds} {ρ : Rho} (h : ∃ W : Nat → Rho → Prop, (∃ m, W m ρ) ∧ ∀ m ρ, W m ρ → c ρ fun b ρ1 => br b (tb { D with nx := fun ρ' => ∃ m', m' < m ∧ W m' ρ', ct := fun ρ' => ∃ m', m' < m ∧ W m' ρ', bk := D.nx } ρ1) (D.nx ρ1)) : dWhile c tb D ρ := h
theorem r_powC {i j v : Int} (hc : CPowW i j) (e : i ^ j.toNat = v) (h : k (.int v)) : wPow (.int i) (.int j) k := by
  subst e
  exact ⟨hc, h⟩
theorem seq_inv {t u : TSD} {ρ : Rho} {nx : Rho → Prop} {rt : En → Rho → Prop} {bk ct : Rho → Prop} (I : Rho → Prop) (h1 : ∀ nx' : Rho → Prop, (∀ ρ', I ρ' → nx' ρ') → t ⟨nx', rt, bk, ct⟩ ρ) (h2 : ∀ ρ', I ρ' → u ⟨nx, rt, bk, ct⟩ ρ') : dSeq t u ⟨nx, rt, bk, ct⟩ ρ := h1 _ fun ρ' h => h2 ρ' h
end
end CK
set_option Elab.async false
set_option linter.all false
set_option maxRecDepth 100000
namespace CK
open PySem
/-! ### roads -/
def startOf (z : Int) : Nat := (z + 1).toNat
def Home (c : Cell) (ds : List Deed) (z : Int) (a : Nat) : Prop := (z = -1 - (a : Int) ∧ a < c.length ∧ c.getD a [] ≠ []) ∨ ∃ (i : Nat) (f : Fill), z = (i : Int) ∧ ds[i]? = some (.add a f) ∧ f ≠ []
structure Path (c : Cell) (ds : List Deed) (z : Int) (w : List Int) (t a : Nat) : Prop where
  st : startOf z ≤ t
  asc : w.Pairwise (· < ·)
  rng : ∀ x, x ∈ w → (startOf z : Int) ≤ x ∧ x < (t : Int)
  pos : ∃ pos : Nat → Nat, Home c ds z (pos (startOf z)) ∧ pos t = a ∧ ∀ u, startOf z ≤ u → u < t → ∃ d, ds[u]? = some d ∧ if (u : Int) ∈ w then (pos u, pos (u + 1)) ∈ ways d else pos (u + 1) = pos u ∧ pos u ∉ emptied d
section
variable {c : Cell} {ds : List Deed} {z : Int} {w : List Int} {t a o : Nat} {d : Deed}
theorem Path.init (h : Home c ds z a) (ht : startOf z = t) : Path c ds z [] t a :=
  ⟨by omega, .nil, fun _ h => (nomatch h), fun _ => a, h, rfl, fun u h1 h2 => absurd h2 (by omega)⟩
theorem Path.stay (h : Path c ds z w t a) (hd : ds[t]? = some d) (he : a ∉ emptied d) : Path c ds z w (t + 1) a := by
  obtain ⟨st, asc, rng, pos, p1, p2, p3⟩ := h
  refine ⟨by omega, asc, fun x hx => ⟨(rng x hx).1, by have := (rng x hx).2; omega⟩, fun u => if u ≤ t then pos u else a, ?_, ?_, fun u h1 h2 => ?_⟩
  · show Home c ds z (if startOf z ≤ t then pos (startOf z) else a)
    rw [if_pos st]; exact p1
  · exact if_neg (by omega)
  · by_cases q : u < t
    · obtain ⟨d', h3, h4⟩ := p3 u h1 q
      refine ⟨d', h3, ?_⟩
      show if (u : Int) ∈ w then ((if u ≤ t then pos u else a), (if u + 1 ≤ t then pos (u + 1) else a)) ∈ ways d' else (if u + 1 ≤ t then pos (u + 1) else a) = (if u ≤ t then pos u else a) ∧ (if u ≤ t then pos u else a) ∉ emptied d'
      rw [if_pos (show u ≤ t by omega), if_pos (show u + 1 ≤ t by omega)]
      exact h4
    · have e : u = t := by omega
      subst e
      refine ⟨d, hd, ?_⟩
      show if (u : Int) ∈ w then ((if u ≤ u then pos u else a), (if u + 1 ≤ u then pos (u + 1) else a)) ∈ ways d else (if u + 1 ≤ u then pos (u + 1) else a) = (if u ≤ u then pos u else a) ∧ (if u ≤ u then pos u else a) ∉ emptied d
      have nw : ¬ (u : Int) ∈ w := fun z => by have := (rng _ z).2; omega
      rw [if_neg nw, if_pos (Nat.le_refl u), if_neg (show ¬ u + 1 ≤ u by omega), p2]
      exact ⟨rfl, he⟩
theorem Path.over (h : Path c ds z w t o) (hd : ds[t]? = some d) (hw : (o, a) ∈ ways d) : Path c ds z (w ++ [(t : Int)]) (t + 1) a := by
  obtain ⟨st, asc, rng, pos, p1, p2, p3⟩ := h
  refine ⟨by omega, List.pairwise_append.mpr ⟨asc, List.pairwise_singleton _ _, fun x hx y hy => by rw [List.mem_singleton.mp hy]; exact (rng x hx).2⟩, fun x hx => ?_, fun u => if u ≤ t then pos u else a, ?_, ?_, fun u h1 h2 => ?_⟩
  · rcases List.mem_append.mp hx with q | q
    · have := rng x q
      exact ⟨this.1, by omega⟩
    · rw [List.mem_singleton.mp q]
      exact ⟨by omega, by omega⟩
  · show Home c ds z (if startOf z ≤ t then pos (startOf z) else a)
    rw [if_pos st]; exact p1
  · exact if_neg (by omega)
  · by_cases q : u < t
    · obtain ⟨d', h3, h4⟩ := p3 u h1 q
      refine ⟨d', h3, ?_⟩
      show if (u : Int) ∈ w ++ [(t : Int)] then ((if u ≤ t then pos u else a), (if u + 1 ≤ t then pos (u + 1) else a)) ∈ ways d' else (if u + 1 ≤ t then pos (u + 1) else a) = (if u ≤ t then pos u else a) ∧ (if u ≤ t then pos u else a) ∉ emptied d'
      rw [if_pos (show u ≤ t by omega), if_pos (show u + 1 ≤ t by omega)]
      have e : ((u : Int) ∈ w ++ [(t : Int)]) ↔ (u : Int) ∈ w := by
        rw [List.mem_append, List.mem_singleton]
        exact ⟨fun z => z.elim id fun z => absurd z (by omega), .inl⟩
      by_cases m : (u : Int) ∈ w
      · rw [if_pos (e.mpr m)]
        rw [if_pos m] at h4
        exact h4
      · rw [if_neg (fun z => m (e.mp z))]
        rw [if_neg m] at h4
        exact h4
    · have e : u = t := by omega
      subst e
      refine ⟨d, hd, ?_⟩
      show if (u : Int) ∈ w ++ [(u : Int)] then ((if u ≤ u then pos u else a), (if u + 1 ≤ u then pos (u + 1) else a)) ∈ ways d else (if u + 1 ≤ u then pos (u + 1) else a) = (if u ≤ u then pos u else a) ∧ (if u ≤ u then pos u else a) ∉ emptied d
      rw [if_pos (List.mem_append_right _ (List.mem_singleton.mpr rfl)), if_pos (Nat.le_refl u), if_neg (show ¬ u + 1 ≤ u by omega), p2]
      exact hw
theorem home_reach (h : Home c ds z a) : Reach c ds z (startOf z) a := by
  rcases h with h | ⟨i, f, rfl, h1, h2⟩
  · have e : startOf z = 0 := by unfold startOf; omega
    rw [e]
    exact h
  · have e : startOf (i : Int) = i + 1 := by unfold startOf; omega
    rw [e]
    exact ⟨_, h1, .inr (.inr ⟨f, rfl, h2, rfl⟩)⟩
theorem Path.reachAt (h : Path c ds z w t a) : ∃ pos : Nat → Nat, Home c ds z (pos (startOf z)) ∧ pos t = a ∧ (∀ u, startOf z ≤ u → u < t → ∃ d, ds[u]? = some d ∧ if (u : Int) ∈ w then (pos u, pos (u + 1)) ∈ ways d else pos (u + 1) = pos u ∧ pos u ∉ emptied d) ∧ ∀ u, startOf z ≤ u → u ≤ t → Reach c ds z u (pos u) := by
  obtain ⟨st, asc, rng, pos, p1, p2, p3⟩ := h
  refine ⟨pos, p1, p2, p3, fun u h1 h2 => ?_⟩
  obtain ⟨n, rfl⟩ : ∃ n, u = startOf z + n := ⟨u - startOf z, by omega⟩
  induction n with
  | zero => exact home_reach p1
  | succ n ih =>
    have ih := ih (by omega) (by omega)
    obtain ⟨d, h3, h4⟩ := p3 (startOf z + n) (by omega) (by omega)
    refine ⟨d, h3, ?_⟩
    by_cases m : ((startOf z + n : Nat) : Int) ∈ w
    · rw [if_pos m] at h4
      exact .inr (.inl ⟨_, h4, ih⟩)
    · rw [if_neg m] at h4
      refine .inl ⟨?_, ?_⟩
      · rw [show pos (startOf z + (n + 1)) = pos (startOf z + n) from h4.1]
        exact ih
      · rw [show pos (startOf z + (n + 1)) = pos (startOf z + n) from h4.1]
        exact h4.2
theorem Path.reach (h : Path c ds z w t a) : Reach c ds z t a := by
  obtain ⟨pos, _, p2, _, p4⟩ := h.reachAt
  rw [← p2]
  exact p4 t h.st (Nat.le_refl t)
theorem Path.len (h : Path c ds z w t a) : w.length ≤ t := by
  have := nodup_len (xs := w) (ys := (List.range t).map fun i : Nat => (i : Int)) (asc_nodup h.asc) fun x hx => by
    have := h.rng x hx
    exact List.mem_map.mpr ⟨x.toNat, List.mem_range.mpr (by omega), by omega⟩
  rw [List.length_map, List.length_range] at this
  exact this
end
def RoadAt (c : Cell) (ds : List Deed) (z : Int) (t a : Nat) (r : Option (List Int)) : Prop := (r = none → ¬ Reach c ds z t a) ∧ ∀ w, r = some w → Path c ds z w t a
structure RoadsOk (c : Cell) (ds : List Deed) (z : Int) (t : Nat) (rs : List (Option (List Int))) : Prop where
  len : rs.length = c.length
  at' : ∀ (a : Nat) (r : Option (List Int)), rs[a]? = some r → RoadAt c ds z t a r
structure MidR (c : Cell) (ds : List Deed) (z : Int) (t : Nat) (d : Deed) (ws : List (Nat × Nat)) (rs : List (Option (List Int))) : Prop where
  len : rs.length = c.length
  non : ∀ (a : Nat), rs[a]? = some none → ¬ ((Reach c ds z t a ∧ a ∉ emptied d) ∨ ∃ o, (o, a) ∈ ws ∧ Reach c ds z t o)
  som : ∀ (a : Nat) (w : List Int), rs[a]? = some (some w) → Path c ds z w (t + 1) a
section
variable {c : Cell} {ds : List Deed} {z : Int} {w : List Int} {t a o : Nat} {d : Deed}
def rs0 (c : Cell) (z : Int) : List (Option (List Int)) := (List.range c.length).map fun a : Nat => if z = -1 - (a : Int) then some [] else none
theorem RoadsOk.zero (hz : IsLot c ds z) : RoadsOk c ds z 0 (rs0 c z) := by
  refine ⟨by unfold rs0; rw [List.length_map, List.length_range], fun a r hr => ?_⟩
  unfold rs0 at hr
  rw [List.getElem?_map] at hr
  by_cases q : a < c.length
  · rw [List.getElem?_range q] at hr
    cases hr
    refine ⟨fun e h => ?_, fun w e => ?_⟩
    · have e : (if z = -1 - (a : Int) then some ([] : List Int) else none) = none := e
      rw [if_pos h.1] at e
      cases e
    · have e : (if z = -1 - (a : Int) then some ([] : List Int) else none) = some w := e
      split at e
      · rename_i h
        cases e
        rcases hz with ⟨a', e1, e2, e3⟩ | ⟨i, a', f, e1, _⟩
        · have : a' = a := by omega
          subst this
          exact Path.init (.inl ⟨e1, e2, e3⟩) (by unfold startOf; omega)
        · omega
      · cases e
  · rw [List.getElem?_eq_none (by rw [List.length_range]; omega)] at hr
    cases hr
def stayR (d : Deed) (rs : List (Option (List Int))) : List (Option (List Int)) := rs.mapIdx fun a r => if a ∈ emptied d then none else r
theorem MidR.start {rs : List (Option (List Int))} (h : RoadsOk c ds z t rs) (hd : ds[t]? = some d) : MidR c ds z t d [] (stayR d rs) := by
  have key : ∀ (a : Nat) (r : Option (List Int)), (stayR d rs)[a]? = some r → ∃ r', rs[a]? = some r' ∧ r = if a ∈ emptied d then none else r' := fun a r hn => by
    unfold stayR at hn
    rw [List.getElem?_mapIdx] at hn
    cases e : rs[a]? with
    | none => rw [e] at hn; cases hn
    | some ms =>
      rw [e] at hn
      cases hn
      exact ⟨ms, rfl, rfl⟩
  refine ⟨by unfold stayR; rw [List.length_mapIdx]; exact h.len, fun a hn => ?_, fun a w hn => ?_⟩
  · obtain ⟨r', h1, h2⟩ := key a none hn
    rintro (q | ⟨o, q, _⟩)
    · rw [if_neg q.2] at h2
      exact (h.at' a r' h1).1 h2.symm q.1
    · cases q
  · obtain ⟨r', h1, h2⟩ := key a (some w) hn
    split at h2
    · cases h2
    · rename_i q
      exact ((h.at' a r' h1).2 w h2.symm).stay hd q
theorem MidR.skip {ws : List (Nat × Nat)} {rs : List (Option (List Int))} {o b : Nat} (h : MidR c ds z t d ws rs) (hn : ¬ Reach c ds z t o ∨ ∃ w, rs[b]? = some (some w)) : MidR c ds z t d (ws ++ [(o, b)]) rs := by
  refine ⟨h.len, fun a ha => ?_, h.som⟩
  rintro (q | ⟨o', q, r⟩)
  · exact h.non a ha (.inl q)
  · rcases List.mem_append.mp q with q | q
    · exact h.non a ha (.inr ⟨o', q, r⟩)
    · cases List.mem_singleton.mp q
      rcases hn with hn | ⟨w, hw⟩
      · exact hn r
      · rw [ha] at hw
        cases hw
theorem MidR.add {ws : List (Nat × Nat)} {rs : List (Option (List Int))} {o b : Nat} (h : MidR c ds z t d ws rs) (hd : ds[t]? = some d) (hw : (o, b) ∈ ways d) (hb : b < c.length) (hp : Path c ds z w t o) : MidR c ds z t d (ws ++ [(o, b)]) (rs.set b (some (w ++ [(t : Int)]))) := by
  refine ⟨by rw [List.length_set]; exact h.len, fun a ha => ?_, fun a w' ha => ?_⟩
  · by_cases q : a = b
    · subst q
      rw [List.getElem?_set_self (by rw [h.len]; exact hb)] at ha
      cases ha
    · rw [List.getElem?_set_ne (Ne.symm q)] at ha
      rintro (r | ⟨o', r, r2⟩)
      · exact h.non a ha (.inl r)
      · rcases List.mem_append.mp r with r | r
        · exact h.non a ha (.inr ⟨o', r, r2⟩)
        · cases List.mem_singleton.mp r
          exact q rfl
  · by_cases q : a = b
    · subst q
      rw [List.getElem?_set_self (by rw [h.len]; exact hb)] at ha
      cases ha
      exact hp.over hd hw
    · rw [List.getElem?_set_ne (Ne.symm q)] at ha
      exact h.som a w' ha
theorem MidR.plain {rs : List (Option (List Int))} (h : MidR c ds z t d (ways d) rs) (hd : ds[t]? = some d) (hz : z ≠ (t : Int)) : RoadsOk c ds z (t + 1) rs := by
  refine ⟨h.len, fun a r ha => ⟨fun e hr => ?_, fun w e => h.som a w (by rw [ha, e])⟩⟩
  subst e
  obtain ⟨d', hd', q⟩ := hr
  rw [hd] at hd'
  cases hd'
  rcases q with q | q | ⟨f, _, _, q⟩
  · exact h.non a ha (.inl q)
  · exact h.non a ha (.inr q)
  · exact hz q
theorem MidR.born {rs : List (Option (List Int))} {b : Nat} {f : Fill} (h : MidR c ds z t (.add b f) (ways (.add b f)) rs) (hd : ds[t]? = some (.add b f)) (hf : f ≠ []) (hz : z = (t : Int)) (hb : b < c.length) : RoadsOk c ds z (t + 1) (rs.set b (some [])) := by
  refine ⟨by rw [List.length_set]; exact h.len, fun a r ha => ?_⟩
  by_cases q : a = b
  · subst q
    rw [List.getElem?_set_self (by rw [h.len]; exact hb)] at ha
    cases ha
    refine ⟨fun e => (nomatch e), fun w e => ?_⟩
    cases e
    exact Path.init (.inr ⟨t, f, hz, hd, hf⟩) (by unfold startOf; omega)
  · rw [List.getElem?_set_ne (Ne.symm q)] at ha
    refine ⟨fun e hr => ?_, fun w e => h.som a w (by rw [ha, e])⟩
    subst e
    obtain ⟨d', hd', r⟩ := hr
    rw [hd] at hd'
    cases hd'
    rcases r with r | r | ⟨g, e, _, _⟩
    · exact h.non a ha (.inl r)
    · exact h.non a ha (.inr r)
    · cases e
      exact q rfl
end
/-- what road hands back -/
def RoadOk (c : Cell) (ds : List Deed) (z : Int) (i : Nat) (r : Option (List Int)) : Prop := (r = none → ¬ Carr c ds z i) ∧ ∀ w, r = some w → ∃ p a s, w = p ++ [(i : Int)] ∧ ds[i]? = some (.draw a s) ∧ 0 < s.1 ∧ Path c ds z p i a
structure CarrOk (c : Cell) (ds : List Deed) (i : Nat) (ns : List Int) : Prop where
  asc : ns.Pairwise (· < ·)
  mem : ∀ z, z ∈ ns ↔ Carr c ds z i
def isDraw : Deed → Bool
  | .draw _ _ => true
  | _ => false
/-- the carried lots of every draw -/
structure TabOk (c : Cell) (ds : List Deed) (n : Nat) (tab : List (Int × List Int)) : Prop where
  keys : tab.map (·.1) = ((ds.take n).zipIdx.filter fun p => isDraw p.1).map fun p => (p.2 : Int)
  ok : ∀ p, p ∈ tab → ∃ i : Nat, p.1 = (i : Int) ∧ CarrOk c ds i p.2
end CK
set_option Elab.async false
set_option linter.all false
set_option maxRecDepth 100000
namespace CK
open PySem
/-! ### the marked cellar -/
def kinds10 : List Str := ["lota", "lotb", "lotc", "lotd", "lote", "lotf", "lotg", "loth", "loti", "lotj"]
def kd (L : List Int) (z : Int) : Str := kinds10.getD (L.idxOf z) "lota"
def mkF (L : List Int) (z : Int) : Fill → Fill
  | [] => []
  | e :: _ => [(kd L z, e.2)]
def mkC (c : Cell) (L : List Int) : Cell := c.zipIdx.map fun p => mkF L (-1 - (p.2 : Int)) p.1
def mkD (L : List Int) (i : Nat) : Deed → Deed
  | .add a f => .add a (mkF L (i : Int) f)
  | d => d
def mkL (l : List Deed) (L : List Int) : List Deed := l.zipIdx.map fun p => mkD L p.2 p.1
theorem idx_of {L : List Int} (h : L.Pairwise (· < ·)) {z : Int} (hz : z ∈ L) : L[L.idxOf z]? = some z ∧ ∀ m, m < L.idxOf z → L[m]? ≠ some z := by
  have hlt := List.idxOf_lt_length_of_mem hz
  have h1 : L[L.idxOf z]? = some z := by
    rw [List.getElem?_eq_getElem hlt, List.getElem_idxOf]
  refine ⟨h1, fun m hm e => ?_⟩
  obtain ⟨hm2, e2⟩ := List.getElem?_eq_some_iff.mp e
  obtain ⟨hj2, e3⟩ := List.getElem?_eq_some_iff.mp h1
  have := List.pairwise_iff_getElem.mp h m (L.idxOf z) hm2 hj2 hm
  omega
theorem kd_at {L : List Int} (hL : L.length ≤ 10) {z : Int} (hz : z ∈ L) : kinds10[L.idxOf z]? = some (kd L z) := by
  have hlt := List.idxOf_lt_length_of_mem hz
  have : L.idxOf z < kinds10.length := by show _ < 10; omega
  unfold kd
  rw [List.getD_eq_getElem?_getD, List.getElem?_eq_getElem this]
  rfl
theorem mkC_at (c : Cell) (L : List Int) (a : Nat) : (mkC c L)[a]? = c[a]?.map fun f => mkF L (-1 - (a : Int)) f := by
  unfold mkC
  rw [List.getElem?_map, List.getElem?_zipIdx]
  cases c[a]? with
  | none => rfl
  | some f => simp
theorem mkL_at (l : List Deed) (L : List Int) (i : Nat) : (mkL l L)[i]? = l[i]?.map fun d => mkD L i d := by
  unfold mkL
  rw [List.getElem?_map, List.getElem?_zipIdx]
  cases l[i]? with
  | none => rfl
  | some f => simp
theorem mkC_len (c : Cell) (L : List Int) : (mkC c L).length = c.length := by unfold mkC; rw [List.length_map, List.length_zipIdx]
theorem mkL_len (l : List Deed) (L : List Int) : (mkL l L).length = l.length := by unfold mkL; rw [List.length_map, List.length_zipIdx]
end CK
set_option Elab.async false
set_option linter.all false
set_option maxRecDepth 100000
namespace CK
open PySem
/-! ### the marked run tells the lots -/
theorem qv_one {s : Fr} (h : Red s) : qv s = 1 ↔ s = (1, 1) := by
  constructor
  · intro q
    have e := qv_mul h.pos
    rw [q] at e
    have e2 : s.1 = s.2 := by
      have : (s.1 : Rat) = (s.2 : Rat) := by rw [← e]; grind
      exact_mod_cast this
    have g := h.gcd
    rw [e2, Nat.gcd_self] at g
    have p := h.pos
    have e3 : s.2 = 1 := by omega
    obtain ⟨a, b⟩ := s
    have e2 : a = b := e2
    have e3 : b = 1 := e3
    rw [e2, e3]
  · rintro rfl
    exact qv11
theorem ShOk.posq {s : Fr} (h : ShOk s) : 0 < qv s ↔ s.1 ≠ 0 := by
  rw [qv_pos h.fr.red.pos]
  have := h.lo
  omega
theorem pos_less {x q : Rat} (hx : 0 ≤ x) (h0 : 0 ≤ q) (h1 : q ≤ 1) : 0 < x - x * q ↔ 0 < x ∧ q ≠ 1 := by
  constructor
  · intro h
    refine ⟨?_, fun e => ?_⟩
    · rcases Rat.le_iff_lt_or_eq.mp hx with z | z
      · exact z
      · rw [← z] at h
        grind
    · rw [e] at h
      grind
  · rintro ⟨h2, h3⟩
    have h4 : 0 < 1 - q := by grind
    have := Rat.mul_pos h2 h4
    grind
theorem pos_times {x q : Rat} (hx : 0 ≤ x) (h0 : 0 ≤ q) : 0 < x * q ↔ 0 < x ∧ 0 < q := by
  constructor
  · intro h
    refine ⟨?_, ?_⟩
    · rcases Rat.le_iff_lt_or_eq.mp hx with z | z
      · exact z
      · rw [← z] at h
        grind
    · rcases Rat.le_iff_lt_or_eq.mp h0 with z | z
      · exact z
      · rw [← z] at h
        grind
  · rintro ⟨h2, h3⟩
    exact Rat.mul_pos h2 h3
theorem pos_add {x y : Rat} (hx : 0 ≤ x) (hy : 0 ≤ y) : 0 < x + y ↔ 0 < x ∨ 0 < y := by
  constructor
  · intro h
    rcases Rat.le_iff_lt_or_eq.mp hx with z | z
    · exact .inl z
    · rw [← z] at h
      exact .inr (by grind)
  · rintro (h | h) <;> grind
theorem nn_less {x q : Rat} (hx : 0 ≤ x) (h1 : q ≤ 1) : 0 ≤ x - x * q := by
  have := Rat.mul_le_mul_of_nonneg_left h1 hx
  grind
theorem mkF_val (L : List Int) (z : Int) (f : Fill) (hf : FillOk f) (k : Str) : 0 ≤ val (mkF L z f) k ∧ (0 < val (mkF L z f) k ↔ f ≠ [] ∧ kd L z = k) := by
  cases f with
  | nil => exact ⟨Rat.le_refl, fun h => absurd h Rat.lt_irrefl, fun h => absurd rfl h.1⟩
  | cons e es =>
    have p := (hf.ent e List.mem_cons_self).qpos
    show 0 ≤ (if kd L z = k then qv e.2 else 0) + 0 ∧ (0 < (if kd L z = k then qv e.2 else 0) + 0 ↔ _)
    split
    · rename_i h
      refine ⟨by grind, fun _ => ⟨fun z => (nomatch z), h⟩, fun _ => by grind⟩
    · rename_i h
      refine ⟨by grind, fun q => by grind, fun q => absurd q.2 h⟩
theorem step_pos {V : Nat → Str → Rat} {d : Deed} {n : Nat} {L : List Int} {t : Nat} {k : Str} (hV : ∀ a, 0 ≤ V a k) (ok : d.Ok n) (a : Nat) :
    0 < stepV V (mkD L t d) a k ↔ (0 < V a k ∧ a ∉ emptied d) ∨ (∃ o, (o, a) ∈ ways d ∧ 0 < V o k) ∨ ∃ f, d = .add a f ∧ f ≠ [] ∧ kd L (t : Int) = k := by
  cases d with
  | add p f =>
    have m := mkF_val L (t : Int) f ok.2 k
    have na : ¬ ∃ o, (o, a) ∈ ways (.add p f) ∧ 0 < V o k := fun ⟨o, h, _⟩ => nomatch h
    show 0 < (if a = p then V p k + val (mkF L (t : Int) f) k else V a k) ↔ _
    by_cases q : a = p
    · subst q
      rw [if_pos rfl, pos_add (hV a) m.1, m.2]
      constructor
      · rintro (h | h)
        · exact .inl ⟨h, fun z => nomatch z⟩
        · exact .inr (.inr ⟨f, rfl, h⟩)
      · rintro (h | h | ⟨g, e, h⟩)
        · exact .inl h.1
        · exact absurd h na
        · cases e
          exact .inr h
    · rw [if_neg q]
      constructor
      · exact fun h => .inl ⟨h, fun z => nomatch z⟩
      · rintro (h | h | ⟨g, e, h⟩)
        · exact h.1
        · exact absurd h na
        · cases e
          exact absurd rfl q
  | draw p s =>
    have na : ¬ ∃ o, (o, a) ∈ ways (.draw p s) ∧ 0 < V o k := fun ⟨o, h, _⟩ => nomatch h
    have nf : ¬ ∃ f, Deed.draw p s = .add a f ∧ f ≠ [] ∧ kd L (t : Int) = k := fun ⟨f, h, _⟩ => nomatch h
    have em : a ∉ emptied (.draw p s) ↔ (a = p → s ≠ (1, 1)) := by
      show a ∉ (if s = (1, 1) then [p] else []) ↔ _
      split <;> simp_all
    show 0 < (if a = p then V p k - V p k * qv s else V a k) ↔ _
    rw [em]
    by_cases q : a = p
    · subst q
      rw [if_pos rfl, pos_less (hV a) ok.2.q0 ok.2.q1]
      have e := qv_one ok.2.fr.red
      constructor
      · rintro ⟨h1, h2⟩
        exact .inl ⟨h1, fun _ z => h2 (e.mpr z)⟩
      · rintro (h | h | h)
        · exact ⟨h.1, fun z => h.2 rfl (e.mp z)⟩
        · exact absurd h na
        · exact absurd h nf
    · rw [if_neg q]
      exact ⟨fun h => .inl ⟨h, fun z => absurd z q⟩, fun h => h.elim (fun h => h.1) fun h => h.elim (fun h => absurd h na) fun h => absurd h nf⟩
  | keep p s =>
    have na : ¬ ∃ o, (o, a) ∈ ways (.keep p s) ∧ 0 < V o k := fun ⟨o, h, _⟩ => nomatch h
    have nf : ¬ ∃ f, Deed.keep p s = .add a f ∧ f ≠ [] ∧ kd L (t : Int) = k := fun ⟨f, h, _⟩ => nomatch h
    have em : a ∉ emptied (.keep p s) ↔ (a = p → s.1 ≠ 0) := by
      show a ∉ (if s.1 = 0 then [p] else []) ↔ _
      split <;> simp_all
    show 0 < (if a = p then V p k * qv s else V a k) ↔ _
    rw [em]
    by_cases q : a = p
    · subst q
      rw [if_pos rfl, pos_times (hV a) ok.2.q0, ok.2.posq]
      constructor
      · rintro ⟨h1, h2⟩
        exact .inl ⟨h1, fun _ => h2⟩
      · rintro (h | h | h)
        · exact ⟨h.1, h.2 rfl⟩
        · exact absurd h na
        · exact absurd h nf
    · rw [if_neg q]
      exact ⟨fun h => .inl ⟨h, fun z => absurd z q⟩, fun h => h.elim (fun h => h.1) fun h => h.elim (fun h => absurd h na) fun h => absurd h nf⟩
  | move p r s =>
    obtain ⟨_, _, hne, sh⟩ := ok
    have nf : ¬ ∃ f, Deed.move p r s = .add a f ∧ f ≠ [] ∧ kd L (t : Int) = k := fun ⟨f, h, _⟩ => nomatch h
    have em : a ∉ emptied (.move p r s) ↔ (a = p → s ≠ (1, 1)) := by
      show a ∉ (if s = (1, 1) then [p] else []) ↔ _
      split <;> simp_all
    have wa : (∃ o, (o, a) ∈ ways (.move p r s) ∧ 0 < V o k) ↔ a = r ∧ s.1 ≠ 0 ∧ 0 < V p k := by
      constructor
      · rintro ⟨o, h, hv⟩
        have h : (o, a) ∈ (if s.1 = 0 then [] else [(p, r)]) := h
        split at h
        · cases h
        · rename_i h0
          cases List.mem_singleton.mp h
          exact ⟨rfl, h0, hv⟩
      · rintro ⟨rfl, h0, hv⟩
        refine ⟨p, ?_, hv⟩
        show (p, a) ∈ (if s.1 = 0 then [] else [(p, a)])
        rw [if_neg h0]
        exact List.mem_singleton.mpr rfl
    have e := qv_one sh.fr.red
    show 0 < (if a = p then V p k - V p k * qv s else if a = r then V r k + V p k * qv s else V a k) ↔ _
    rw [em, wa]
    by_cases q : a = p
    · subst q
      rw [if_pos rfl, pos_less (hV a) sh.q0 sh.q1]
      constructor
      · rintro ⟨h1, h2⟩
        exact .inl ⟨h1, fun _ z => h2 (e.mpr z)⟩
      · rintro (h | h | h)
        · exact ⟨h.1, fun z => h.2 rfl (e.mp z)⟩
        · exact absurd h.1 hne
        · exact absurd h nf
    · rw [if_neg q]
      by_cases q2 : a = r
      · subst q2
        rw [if_pos rfl, pos_add (hV a) (Rat.mul_nonneg (hV p) sh.q0), pos_times (hV p) sh.q0, sh.posq]
        constructor
        · rintro (h | h)
          · exact .inl ⟨h, fun z => absurd z q⟩
          · exact .inr (.inl ⟨rfl, h.2, h.1⟩)
        · rintro (h | h | h)
          · exact .inl h.1
          · exact .inr ⟨h.2.2, h.2.1⟩
          · exact absurd h nf
      · rw [if_neg q2]
        exact ⟨fun h => .inl ⟨h, fun z => absurd z q⟩, fun h => h.elim (fun h => h.1) fun h => h.elim (fun h => absurd h.1 q2) fun h => absurd h nf⟩
  | swap p r s =>
    obtain ⟨_, _, hne, sh⟩ := ok
    have nf : ¬ ∃ f, Deed.swap p r s = .add a f ∧ f ≠ [] ∧ kd L (t : Int) = k := fun ⟨f, h, _⟩ => nomatch h
    have em : a ∉ emptied (.swap p r s) ↔ (a = p ∨ a = r → s ≠ (1, 1)) := by
      show a ∉ (if s = (1, 1) then [p, r] else []) ↔ _
      split <;> simp_all
    have wa : (∃ o, (o, a) ∈ ways (.swap p r s) ∧ 0 < V o k) ↔ s.1 ≠ 0 ∧ ((a = r ∧ 0 < V p k) ∨ (a = p ∧ 0 < V r k)) := by
      constructor
      · rintro ⟨o, h, hv⟩
        have h : (o, a) ∈ (if s.1 = 0 then [] else [(p, r), (r, p)]) := h
        split at h
        · cases h
        · rename_i h0
          rcases List.mem_cons.mp h with z | z
          · cases z
            exact ⟨h0, .inl ⟨rfl, hv⟩⟩
          · cases List.mem_singleton.mp z
            exact ⟨h0, .inr ⟨rfl, hv⟩⟩
      · rintro ⟨h0, h⟩
        have e : ways (.swap p r s) = [(p, r), (r, p)] := if_neg h0
        rw [e]
        rcases h with ⟨rfl, hv⟩ | ⟨rfl, hv⟩
        · exact ⟨p, List.mem_cons_self, hv⟩
        · exact ⟨r, List.mem_cons_of_mem _ (List.mem_singleton.mpr rfl), hv⟩
    have e := qv_one sh.fr.red
    show 0 < (if a = p then V p k - V p k * qv s + V r k * qv s else if a = r then V r k - V r k * qv s + V p k * qv s else V a k) ↔ _
    rw [em, wa]
    by_cases q : a = p
    · subst q
      rw [if_pos rfl, pos_add (nn_less (hV a) sh.q1) (Rat.mul_nonneg (hV r) sh.q0), pos_less (hV a) sh.q0 sh.q1, pos_times (hV r) sh.q0, sh.posq]
      constructor
      · rintro (⟨h1, h2⟩ | ⟨h1, h2⟩)
        · exact .inl ⟨h1, fun _ z => h2 (e.mpr z)⟩
        · exact .inr (.inl ⟨h2, .inr ⟨rfl, h1⟩⟩)
      · rintro (h | ⟨h0, h | h⟩ | h)
        · exact .inl ⟨h.1, fun z => h.2 (.inl rfl) (e.mp z)⟩
        · exact absurd h.1 hne
        · exact .inr ⟨h.2, h0⟩
        · exact absurd h nf
    · rw [if_neg q]
      by_cases q2 : a = r
      · subst q2
        rw [if_pos rfl, pos_add (nn_less (hV a) sh.q1) (Rat.mul_nonneg (hV p) sh.q0), pos_less (hV a) sh.q0 sh.q1, pos_times (hV p) sh.q0, sh.posq]
        constructor
        · rintro (⟨h1, h2⟩ | ⟨h1, h2⟩)
          · exact .inl ⟨h1, fun _ z => h2 (e.mpr z)⟩
          · exact .inr (.inl ⟨h2, .inl ⟨rfl, h1⟩⟩)
        · rintro (h | ⟨h0, h | h⟩ | h)
          · exact .inl ⟨h.1, fun z => h.2 (.inr rfl) (e.mp z)⟩
          · exact .inr ⟨h.2, h0⟩
          · exact absurd h.1 q
          · exact absurd h nf
      · rw [if_neg q2]
        exact ⟨fun h => .inl ⟨h, fun z => absurd z (by rintro (z | z) <;> contradiction)⟩, fun h => h.elim (fun h => h.1) fun h => h.elim (fun h => h.2.elim (fun h => absurd h.1 q2) fun h => absurd h.1 q) fun h => absurd h nf⟩
end CK
set_option Elab.async false
set_option linter.all false
set_option maxRecDepth 100000
namespace CK
open PySem
theorem kinds_nodup : kinds10.Nodup := by decide +kernel
theorem kd_inj {L : List Int} (hL : L.length ≤ 10) (ha : L.Pairwise (· < ·)) {z y : Int} (hz : z ∈ L) (hy : y ∈ L) (e : kd L z = kd L y) : z = y := by
  have h1 := kd_at hL hz
  have h2 := kd_at hL hy
  rw [← e] at h2
  obtain ⟨l1, e1⟩ := List.getElem?_eq_some_iff.mp h1
  obtain ⟨l2, e2⟩ := List.getElem?_eq_some_iff.mp h2
  have hi : L.idxOf z = L.idxOf y := by
    have nd := List.pairwise_iff_getElem.mp kinds_nodup
    rcases Nat.lt_trichotomy (L.idxOf z) (L.idxOf y) with q | q | q
    · exact absurd (e1.trans e2.symm) (nd _ _ l1 l2 q)
    · exact q
    · exact absurd (e2.trans e1.symm) (nd _ _ l2 l1 q)
  have i1 := (idx_of ha hz).1
  have i2 := (idx_of ha hy).1
  rw [hi, i2] at i1
  exact (Option.some.inj i1).symm
theorem mkC_get (c : Cell) (L : List Int) (a : Nat) : (mkC c L).getD a [] = mkF L (-1 - (a : Int)) (c.getD a []) := by
  rw [List.getD_eq_getElem?_getD, mkC_at, List.getD_eq_getElem?_getD]
  cases c[a]? with
  | none => rfl
  | some f => rfl
theorem getD_ne {c : Cell} {a : Nat} (h : c.getD a [] ≠ []) : a < c.length := by
  by_cases q : a < c.length
  · exact q
  · exact absurd (by rw [List.getD_eq_getElem?_getD, List.getElem?_eq_none (by omega)]; rfl) h
theorem marked_pos {c : Cell} {l : List Deed} {L : List Int} {Ks : List Str} {N M : Int} {st : List Cell} (hc : CellOk c) (hd : ∀ d, d ∈ l → d.Ok c.length) (hL : Lots c l L) (h10 : L.length ≤ 10) (run : RunOk (mkC c L) (mkL l L) Ks N M st) :
    ∀ (t : Nat) (c1 : Cell), st[t]? = some c1 → (∀ a z, z ∈ L → (0 < valC c1 a (kd L z) ↔ Reach c l z t a)) ∧ ∀ a k, 0 < valC c1 a k → ∃ z, z ∈ L ∧ k = kd L z := by
  intro t
  induction t with
  | zero =>
    intro c1 h1
    rw [run.head] at h1
    cases h1
    have key : ∀ a k, 0 < valC (mkC c L) a k ↔ c.getD a [] ≠ [] ∧ kd L (-1 - (a : Int)) = k := fun a k => by
      unfold valC
      rw [mkC_get]
      exact (mkF_val L _ _ (hc.at a) k).2
    refine ⟨fun a z hz => ?_, fun a k h => ?_⟩
    · rw [key]
      constructor
      · rintro ⟨h1, h2⟩
        have hl := getD_ne h1
        have hm : (-1 - (a : Int)) ∈ L := (hL.mem _).mpr (.inl ⟨a, rfl, hl, h1⟩)
        exact ⟨(kd_inj h10 hL.asc hm hz h2).symm, hl, h1⟩
      · rintro ⟨h1, h2, h3⟩
        exact ⟨h3, by rw [h1]⟩
    · obtain ⟨h1, h2⟩ := (key a k).mp h
      exact ⟨_, (hL.mem _).mpr (.inl ⟨a, rfl, getD_ne h1, h1⟩), h2.symm⟩
  | succ t ih =>
    intro c2 h2
    have hlt := (List.getElem?_eq_some_iff.mp h2).1
    rw [run.len, mkL_len] at hlt
    have hlt : t < l.length := by omega
    have h1 : st[t]? = some (st[t]'(by rw [run.len, mkL_len]; omega)) := List.getElem?_eq_getElem _
    generalize st[t]'(by rw [run.len, mkL_len]; omega) = c1 at h1
    obtain ⟨i1, i2⟩ := ih c1 h1
    have hdl : l[t]? = some l[t] := List.getElem?_eq_getElem hlt
    generalize l[t] = d at hdl
    have hd' : (mkL l L)[t]? = some (mkD L t d) := by rw [mkL_at, hdl]; rfl
    have ok := hd d (List.mem_of_getElem? hdl)
    have hst := run.step t _ c1 c2 hd' h1 h2
    have hV : ∀ k a, 0 ≤ valC c1 a k := fun k a => ((run.ok t c1 h1).1.at a).nonneg k
    refine ⟨fun a z hz => ?_, fun a k h => ?_⟩
    · rw [hst a (kd L z), step_pos (hV _) ok a]
      constructor
      · rintro (⟨h, he⟩ | ⟨o, hw, h⟩ | ⟨f, rfl, hf, hk⟩)
        · exact ⟨d, hdl, .inl ⟨(i1 a z hz).mp h, he⟩⟩
        · exact ⟨d, hdl, .inr (.inl ⟨o, hw, (i1 o z hz).mp h⟩)⟩
        · have hm : (t : Int) ∈ L := (hL.mem _).mpr (.inr ⟨t, a, f, rfl, hdl, hf⟩)
          exact ⟨_, hdl, .inr (.inr ⟨f, rfl, hf, (kd_inj h10 hL.asc hm hz hk).symm⟩)⟩
      · rintro ⟨d', hd2, h⟩
        rw [hdl] at hd2
        cases hd2
        rcases h with ⟨h, he⟩ | ⟨o, hw, h⟩ | ⟨f, rfl, hf, hk⟩
        · exact .inl ⟨(i1 a z hz).mpr h, he⟩
        · exact .inr (.inl ⟨o, hw, (i1 o z hz).mpr h⟩)
        · exact .inr (.inr ⟨f, rfl, hf, by rw [hk]⟩)
    · rw [hst a k, step_pos (hV _) ok a] at h
      rcases h with ⟨h, _⟩ | ⟨o, _, h⟩ | ⟨f, rfl, hf, hk⟩
      · exact i2 a k h
      · exact i2 o k h
      · exact ⟨_, (hL.mem _).mpr (.inr ⟨t, a, f, rfl, hdl, hf⟩), hk.symm⟩
end CK
set_option Elab.async false
set_option linter.all false
set_option maxRecDepth 100000
namespace CK
open PySem
/-! ### what is kept along a road -/
def keptM (d : Deed) (a : Nat) (over : Bool) : Fr := match d with
  | .add _ _ => (1, 1)
  | .move p _ s => if p = a then (if over then s else (s.2 - s.1, s.2)) else (1, 1)
  | .swap p q s => if p = a ∨ q = a then (if over then s else (s.2 - s.1, s.2)) else (1, 1)
  | .draw p s => if p = a then (if over then s else (s.2 - s.1, s.2)) else (1, 1)
  | .keep p s => if p = a then s else (1, 1)
theorem qv_rest {s : Fr} (h : 0 < s.2) : qv (s.2 - s.1, s.2) = 1 - qv s := by
  have := castne h
  unfold qv
  push_cast
  grind
structure Kept (x : Fr) (B : Int) : Prop where
  n : 0 < x.1
  d : 0 < x.2
  nb : x.1 ≤ B
  db : x.2 ≤ B
theorem ShOk.lt {s : Fr} (h : ShOk s) (h1 : s ≠ (1, 1)) : s.1 < s.2 := by
  have := h.hi
  by_cases q : s.1 = s.2
  · refine absurd ?_ h1
    have g := h.fr.red.gcd
    rw [q, Nat.gcd_self] at g
    have p := h.fr.red.pos
    obtain ⟨a, b⟩ := s
    have q : a = b := q
    have g : b.natAbs = 1 := g
    have p : 0 < b := p
    rw [q, show b = 1 by omega]
  · omega
theorem kept_over {V : Nat → Str → Rat} {d : Deed} {n : Nat} {L : List Int} {t : Nat} {k : Str} {B : Int} (hV : ∀ a, 0 ≤ V a k) (ok : d.Ok n) (hB : d.den ≤ B) {o b : Nat} (hw : (o, b) ∈ ways d) :
    V o k * qv (keptM d o true) ≤ stepV V (mkD L t d) b k ∧ Kept (keptM d o true) B := by
  cases d with
  | move p q s =>
    obtain ⟨_, _, hne, sh⟩ := ok
    have h : (o, b) ∈ (if s.1 = 0 then [] else [(p, q)]) := hw
    split at h
    · cases h
    · rename_i h0
      cases List.mem_singleton.mp h
      have e : keptM (.move o b s) o true = s := by show (if o = o then (if true = true then s else _) else _) = s; rw [if_pos rfl, if_pos rfl]
      rw [e]
      have lo := sh.lo
      have hi := sh.hi
      have hB : s.2 ≤ B := hB
      refine ⟨?_, ⟨by omega, sh.fr.red.pos, by omega, hB⟩⟩
      show _ ≤ (if b = o then V o k - V o k * qv s else if b = b then V b k + V o k * qv s else V b k)
      rw [if_neg (Ne.symm hne), if_pos rfl]
      have := hV b
      grind
  | swap p q s =>
    obtain ⟨_, _, hne, sh⟩ := ok
    have h : (o, b) ∈ (if s.1 = 0 then [] else [(p, q), (q, p)]) := hw
    have lo := sh.lo
    have hi := sh.hi
    have hB : s.2 ≤ B := hB
    have nb : 0 ≤ V b k - V b k * qv s := nn_less (hV b) sh.q1
    split at h
    · cases h
    · rename_i h0
      rcases List.mem_cons.mp h with z | z
      · cases z
        have e : keptM (.swap o b s) o true = s := by show (if o = o ∨ b = o then (if true = true then s else _) else _) = s; rw [if_pos (.inl rfl), if_pos rfl]
        rw [e]
        refine ⟨?_, ⟨by omega, sh.fr.red.pos, by omega, hB⟩⟩
        show _ ≤ (if b = o then V o k - V o k * qv s + V b k * qv s else if b = b then V b k - V b k * qv s + V o k * qv s else V b k)
        rw [if_neg (Ne.symm hne), if_pos rfl]
        grind
      · cases List.mem_singleton.mp z
        have e : keptM (.swap b o s) o true = s := by show (if b = o ∨ o = o then (if true = true then s else _) else _) = s; rw [if_pos (.inr rfl), if_pos rfl]
        rw [e]
        refine ⟨?_, ⟨by omega, sh.fr.red.pos, by omega, hB⟩⟩
        show _ ≤ (if b = b then V b k - V b k * qv s + V o k * qv s else if b = o then V o k - V o k * qv s + V b k * qv s else V b k)
        rw [if_pos rfl]
        grind
  | _ => cases hw
theorem kept_stay {V : Nat → Str → Rat} {d : Deed} {n : Nat} {L : List Int} {t : Nat} {k : Str} {B : Int} (hV : ∀ a, 0 ≤ V a k) (ok : d.Ok n) (hB : d.den ≤ B) (hB1 : 1 ≤ B) {a : Nat} (he : a ∉ emptied d) :
    V a k * qv (keptM d a false) ≤ stepV V (mkD L t d) a k ∧ Kept (keptM d a false) B := by
  have one : Kept (1, 1) B := ⟨by decide, by decide, hB1, hB1⟩
  have vone : V a k * qv (1, 1) = V a k := by rw [qv11]; grind
  cases d with
  | add p f =>
    refine ⟨?_, one⟩
    have m := (mkF_val L (t : Int) f ok.2 k).1
    show V a k * qv (1, 1) ≤ (if a = p then V p k + val (mkF L (t : Int) f) k else V a k)
    rw [vone]
    split
    · rename_i q
      rw [q]
      grind
    · exact Rat.le_refl
  | draw p s =>
    have hB : s.2 ≤ B := hB
    have he : a ∉ (if s = (1, 1) then [p] else []) := he
    show V a k * qv (if p = a then (s.2 - s.1, s.2) else (1, 1)) ≤ (if a = p then V p k - V p k * qv s else V a k) ∧ Kept (if p = a then (s.2 - s.1, s.2) else (1, 1)) B
    by_cases q : a = p
    · subst q
      have h1 : s ≠ (1, 1) := fun z => by rw [if_pos z] at he; exact he (List.mem_singleton.mpr rfl)
      have lt := ok.2.lt h1
      have lo := ok.2.lo
      rw [if_pos rfl, if_pos rfl, qv_rest ok.2.fr.red.pos]
      exact ⟨by grind, ⟨by show 0 < s.2 - s.1; omega, ok.2.fr.red.pos, by show s.2 - s.1 ≤ B; omega, hB⟩⟩
    · rw [if_neg (Ne.symm q), if_neg q, vone]
      exact ⟨Rat.le_refl, one⟩
  | keep p s =>
    have hB : s.2 ≤ B := hB
    have he : a ∉ (if s.1 = 0 then [p] else []) := he
    show V a k * qv (if p = a then s else (1, 1)) ≤ (if a = p then V p k * qv s else V a k) ∧ Kept (if p = a then s else (1, 1)) B
    by_cases q : a = p
    · subst q
      have h1 : s.1 ≠ 0 := fun z => by rw [if_pos z] at he; exact he (List.mem_singleton.mpr rfl)
      have lo := ok.2.lo
      have hi := ok.2.hi
      rw [if_pos rfl, if_pos rfl]
      exact ⟨Rat.le_refl, ⟨by omega, ok.2.fr.red.pos, by omega, hB⟩⟩
    · rw [if_neg (Ne.symm q), if_neg q, vone]
      exact ⟨Rat.le_refl, one⟩
  | move p r s =>
    obtain ⟨_, _, hne, sh⟩ := ok
    have hB : s.2 ≤ B := hB
    have he : a ∉ (if s = (1, 1) then [p] else []) := he
    have nr := Rat.mul_nonneg (hV p) sh.q0
    show V a k * qv (if p = a then (s.2 - s.1, s.2) else (1, 1)) ≤ (if a = p then V p k - V p k * qv s else if a = r then V r k + V p k * qv s else V a k) ∧ Kept (if p = a then (s.2 - s.1, s.2) else (1, 1)) B
    by_cases q : a = p
    · subst q
      have h1 : s ≠ (1, 1) := fun z => by rw [if_pos z] at he; exact he (List.mem_singleton.mpr rfl)
      have lt := sh.lt h1
      have lo := sh.lo
      rw [if_pos rfl, if_pos rfl, qv_rest sh.fr.red.pos]
      exact ⟨by grind, ⟨by show 0 < s.2 - s.1; omega, sh.fr.red.pos, by show s.2 - s.1 ≤ B; omega, hB⟩⟩
    · rw [if_neg (Ne.symm q), if_neg q, vone]
      refine ⟨?_, one⟩
      split
      · rename_i q2
        rw [q2]
        grind
      · exact Rat.le_refl
  | swap p r s =>
    obtain ⟨_, _, hne, sh⟩ := ok
    have hB : s.2 ≤ B := hB
    have he : a ∉ (if s = (1, 1) then [p, r] else []) := he
    have np := Rat.mul_nonneg (hV p) sh.q0
    have nr := Rat.mul_nonneg (hV r) sh.q0
    show V a k * qv (if p = a ∨ r = a then (s.2 - s.1, s.2) else (1, 1)) ≤ (if a = p then V p k - V p k * qv s + V r k * qv s else if a = r then V r k - V r k * qv s + V p k * qv s else V a k) ∧ Kept (if p = a ∨ r = a then (s.2 - s.1, s.2) else (1, 1)) B
    by_cases q : a = p ∨ a = r
    · have h1 : s ≠ (1, 1) := fun z => by
        rw [if_pos z] at he
        rcases q with q | q
        · exact he (by rw [q]; exact List.mem_cons_self)
        · exact he (by rw [q]; exact List.mem_cons_of_mem _ (List.mem_singleton.mpr rfl))
      have lt := sh.lt h1
      have lo := sh.lo
      rw [if_pos (q.imp Eq.symm Eq.symm), qv_rest sh.fr.red.pos]
      refine ⟨?_, ⟨by show 0 < s.2 - s.1; omega, sh.fr.red.pos, by show s.2 - s.1 ≤ B; omega, hB⟩⟩
      rcases q with q | q
      · subst q
        rw [if_pos rfl]
        grind
      · subst q
        rw [if_neg (Ne.symm hne), if_pos rfl]
        grind
    · rw [if_neg (fun z => q (z.imp Eq.symm Eq.symm)), if_neg (fun z => q (.inl z)), if_neg (fun z => q (.inr z)), vone]
      exact ⟨Rat.le_refl, one⟩
end CK
set_option Elab.async false
set_option linter.all false
set_option maxRecDepth 100000
namespace CK
open PySem
/-! ### what a lot begins with -/
section
variable {c : Cell} {l : List Deed} {L : List Int} {Ks : List Str} {N M : Int} {st : List Cell}
theorem left_neg (run : RunOk (mkC c L) (mkL l L) Ks N M st) {z : Int} {a : Nat} {e : Str × Fr} {es : Fill} (hz : z = -1 - (a : Int)) (hf : c.getD a [] = e :: es) {c1 : Cell} (h1 : st[0]? = some c1) : qv e.2 ≤ valC c1 a (kd L z) := by
  rw [run.head] at h1
  cases h1
  unfold valC
  rw [mkC_get, hf, ← hz]
  show qv e.2 ≤ (if kd L z = kd L z then qv e.2 else 0) + 0
  rw [if_pos rfl]
  grind
theorem left_pos (run : RunOk (mkC c L) (mkL l L) Ks N M st) {n a : Nat} {e : Str × Fr} {es : Fill} (hd : l[n]? = some (.add a (e :: es))) {c2 : Cell} (h2 : st[n + 1]? = some c2) : qv e.2 ≤ valC c2 a (kd L (n : Int)) := by
  have hlt := (List.getElem?_eq_some_iff.mp h2).1
  have h1 : st[n]? = some (st[n]'(by omega)) := List.getElem?_eq_getElem _
  generalize st[n]'(by omega) = c1 at h1
  have hd' : (mkL l L)[n]? = some (.add a [(kd L (n : Int), e.2)]) := by rw [mkL_at, hd]; rfl
  rw [run.step n _ c1 c2 hd' h1 h2]
  have n0 : 0 ≤ valC c1 a (kd L (n : Int)) := ((run.ok n c1 h1).1.at a).nonneg _
  show qv e.2 ≤ (if a = a then valC c1 a (kd L (n : Int)) + ((if kd L (n : Int) = kd L (n : Int) then qv e.2 else 0) + 0) else _)
  rw [if_pos rfl, if_pos rfl]
  grind
end
end CK
set_option Elab.async false
set_option linter.all false
set_option maxRecDepth 100000
namespace CK
open PySem
/-! ### what is left along a road -/
structure Lft (x : Fr) (n : Nat) : Prop where
  p : 0 < x.1
  d : 0 < x.2
  nb : x.1 < 2 ^ n
  db : x.2 < 2 ^ n
theorem big_lt : (1000000000000000000000000000000 : Int) < 2 ^ 100 := by decide
theorem lft_mul1 {a b : Int} {n : Nat} (ha : a < 2 ^ n) (hb0 : 0 < b) (hb : b ≤ 1000000000000000000000000000000) : a * b < 2 ^ (n + 100) := by
  have p : (0 : Int) < 2 ^ n := Int.pow_pos (by decide)
  have e1 : a * b < 2 ^ n * b := Int.mul_lt_mul_of_pos_right ha hb0
  have e2 : (2 : Int) ^ n * b ≤ 2 ^ n * 2 ^ 100 := Int.mul_le_mul_of_nonneg_left (Int.le_of_lt (Int.lt_of_le_of_lt hb big_lt)) (Int.le_of_lt p)
  rw [Int.pow_add]
  omega
theorem Lft.mul {x y : Fr} {n : Nat} (h : Lft x n) (hy : Kept y 1000000000000000000000000000000) : Lft (x.1 * y.1, x.2 * y.2) (n + 100) :=
  ⟨Int.mul_pos h.p hy.n, Int.mul_pos h.d hy.d, lft_mul1 h.nb hy.n hy.nb, lft_mul1 h.db hy.d hy.db⟩
theorem Lft.start {x : Fr} (h1 : 0 < x.1) (h2 : 0 < x.2) (h3 : x.1 ≤ 1000000000000000000000000000000) (h4 : x.2 ≤ 1000000000000000000000000000000) : Lft x 100 :=
  ⟨h1, h2, Int.lt_of_le_of_lt h3 big_lt, Int.lt_of_le_of_lt h4 big_lt⟩
theorem qv_mulp {x y : Fr} (h1 : 0 < x.2) (h2 : 0 < y.2) : qv (x.1 * y.1, x.2 * y.2) = qv x * qv y := by
  have e1 := castne h1
  have e2 := castne h2
  unfold qv
  push_cast
  grind
theorem lft_le {x y : Fr} {n : Nat} {B : Int} {V V' : Rat} (hx : Lft x n) (hy : Kept y B) (h1 : qv x ≤ V) (h2 : V * qv y ≤ V') : qv (x.1 * y.1, x.2 * y.2) ≤ V' := by
  rw [qv_mulp hx.d hy.d]
  have p : 0 ≤ qv y := Rat.le_of_lt ((qv_pos hy.d).mpr hy.n)
  have := Rat.mul_le_mul_of_nonneg_right h1 p
  grind
theorem Lft.abs {x : Fr} {n : Nat} (h : Lft x n) : x.1.natAbs < 2 ^ n ∧ x.2.natAbs < 2 ^ n := by
  have := h.p
  have := h.d
  have p : (0 : Int) < 2 ^ n := Int.pow_pos (by decide)
  exact ⟨natAbs_lt (by omega) h.nb, natAbs_lt (by omega) h.db⟩
theorem valC_lt {c : Cell} {a : Nat} {k : Str} (h : 0 < valC c a k) : a < c.length := getD_ne fun e => by
  unfold valC at h
  rw [e] at h
  exact Rat.lt_irrefl h
end CK
set_option Elab.async false
set_option linter.all false
set_option maxRecDepth 100000
namespace CK
open PySem
/-! ### along a road: what stands ahead of each entry -/
theorem found_ok {c1 : Cell} (hc : CellOk c1) {a n : Nat} {k : Str} {x : Fr} (hx : Lft x n) (h : qv x ≤ valC c1 a k) :
    a < c1.length ∧ FrOk (amt (c1.getD a []) k) ∧ 0 < (amt (c1.getD a []) k).1 ∧ x.1 * (amt (c1.getD a []) k).2 ≤ (amt (c1.getD a []) k).1 * x.2 := by
  have f := hc.at a
  have fr := amt_ok f k
  have e := val_amt f.asc k
  have px : 0 < qv x := (qv_pos hx.d).mpr hx.p
  have h1 : qv x ≤ qv (amt (c1.getD a []) k) := by rw [e]; exact h
  have h2 : 0 < qv (amt (c1.getD a []) k) := by grind
  refine ⟨valC_lt (k := k) ?_, fr, (qv_pos fr.red.pos).mp h2, (qv_le hx.d fr.red.pos).mp h1⟩
  show 0 < val (c1.getD a []) k
  rw [← e]
  exact h2
theorem ways_cases {d : Deed} {n o b : Nat} (ok : d.Ok n) (h : (o, b) ∈ ways d) : o ≠ b ∧ ((∃ s, d = .move o b s) ∨ (∃ s, d = .swap o b s) ∨ ∃ s, d = .swap b o s) := by
  cases d with
  | move p q s =>
    have h : (o, b) ∈ (if s.1 = 0 then [] else [(p, q)]) := h
    split at h
    · cases h
    · cases List.mem_singleton.mp h
      exact ⟨ok.2.2.1, .inl ⟨s, rfl⟩⟩
  | swap p q s =>
    have h : (o, b) ∈ (if s.1 = 0 then [] else [(p, q), (q, p)]) := h
    split at h
    · cases h
    · rcases List.mem_cons.mp h with e | e
      · cases e
        exact ⟨ok.2.2.1, .inr (.inl ⟨s, rfl⟩)⟩
      · cases List.mem_singleton.mp e
        exact ⟨Ne.symm ok.2.2.1, .inr (.inr ⟨s, rfl⟩)⟩
  | _ => cases h
section
variable {c : Cell} {l : List Deed} {L : List Int} {Ks : List Str} {N M : Int} {st : List Cell} {u : Nat} {c1 : Cell} {d : Deed} {x : Fr} {n : Nat} {k : Str}
theorem run_at (run : RunOk (mkC c L) (mkL l L) Ks N M st) (hu : u ≤ l.length) : ∃ c2, st[u]? = some c2 ∧ CellOk c2 ∧ c2.length = c.length := by
  have h : st[u]? = some (st[u]'(by rw [run.len, mkL_len]; omega)) := List.getElem?_eq_getElem _
  obtain ⟨h1, h2, _⟩ := run.ok u _ h
  exact ⟨_, h, h1, by rw [h2, mkC_len]⟩
theorem road_over (run : RunOk (mkC c L) (mkL l L) Ks N M st) (h1 : st[u]? = some c1) (hd : l[u]? = some d) (ok : d.Ok c.length) (hB : d.den ≤ 1000000000000000000000000000000) {o b : Nat} (hw : (o, b) ∈ ways d) (hx : Lft x n) (hl : qv x ≤ valC c1 o k) :
    Lft (x.1 * (keptM d o true).1, x.2 * (keptM d o true).2) (n + 100) ∧ Kept (keptM d o true) 1000000000000000000000000000000 ∧ ∃ c2, st[u + 1]? = some c2 ∧ qv (x.1 * (keptM d o true).1, x.2 * (keptM d o true).2) ≤ valC c2 b k := by
  have hlt := (List.getElem?_eq_some_iff.mp hd).1
  obtain ⟨c2, h2, _⟩ := run_at run (u := u + 1) (by omega)
  have hd' : (mkL l L)[u]? = some (mkD L u d) := by rw [mkL_at, hd]; rfl
  have hV : ∀ a, 0 ≤ valC c1 a k := fun a => ((run.ok u c1 h1).1.at a).nonneg k
  obtain ⟨e1, e2⟩ := kept_over (L := L) (t := u) hV ok hB hw
  refine ⟨hx.mul e2, e2, c2, h2, lft_le hx e2 hl ?_⟩
  rw [run.step u _ c1 c2 hd' h1 h2]
  exact e1
theorem road_stay (run : RunOk (mkC c L) (mkL l L) Ks N M st) (h1 : st[u]? = some c1) (hd : l[u]? = some d) (ok : d.Ok c.length) (hB : d.den ≤ 1000000000000000000000000000000) {a : Nat} (he : a ∉ emptied d) (hx : Lft x n) (hl : qv x ≤ valC c1 a k) :
    Lft (x.1 * (keptM d a false).1, x.2 * (keptM d a false).2) (n + 100) ∧ Kept (keptM d a false) 1000000000000000000000000000000 ∧ ∃ c2, st[u + 1]? = some c2 ∧ qv (x.1 * (keptM d a false).1, x.2 * (keptM d a false).2) ≤ valC c2 a k := by
  have hlt := (List.getElem?_eq_some_iff.mp hd).1
  obtain ⟨c2, h2, _⟩ := run_at run (u := u + 1) (by omega)
  have hd' : (mkL l L)[u]? = some (mkD L u d) := by rw [mkL_at, hd]; rfl
  have hV : ∀ a, 0 ≤ valC c1 a k := fun a => ((run.ok u c1 h1).1.at a).nonneg k
  obtain ⟨e1, e2⟩ := kept_stay (L := L) (t := u) hV ok hB (by decide) he
  refine ⟨hx.mul e2, e2, c2, h2, lft_le hx e2 hl ?_⟩
  rw [run.step u _ c1 c2 hd' h1 h2]
  exact e1
end
theorem keptM_mk (L : List Int) (u : Nat) (d : Deed) (a : Nat) (b : Bool) : keptM (mkD L u d) a b = keptM d a b := by cases d <;> rfl
end CK
set_option Elab.async false
set_option linter.all false
set_option maxRecDepth 100000
namespace CK
open PySem
/-! ### the marked story has the same lots, the same ways -/
theorem mkF_nil (L : List Int) (z : Int) (f : Fill) : mkF L z f = [] ↔ f = [] := by
  cases f with
  | nil => exact ⟨fun _ => rfl, fun _ => rfl⟩
  | cons e es => exact ⟨fun h => (nomatch h), fun h => (nomatch h)⟩
theorem emptied_mk (L : List Int) (i : Nat) (d : Deed) : emptied (mkD L i d) = emptied d := by cases d <;> rfl
theorem ways_mk (L : List Int) (i : Nat) (d : Deed) : ways (mkD L i d) = ways d := by cases d <;> rfl
theorem add_mk {L : List Int} {i a : Nat} {d : Deed} {f : Fill} : mkD L i d = .add a f ↔ ∃ g, d = .add a g ∧ f = mkF L (i : Int) g := by
  cases d with
  | add b g =>
    constructor
    · intro h
      cases h
      exact ⟨g, rfl, rfl⟩
    · rintro ⟨g', h, rfl⟩
      cases h
      rfl
  | _ => exact ⟨fun h => (nomatch h), fun ⟨g, h, _⟩ => (nomatch h)⟩
theorem draw_mk {L : List Int} {i a : Nat} {d : Deed} {s : Fr} : mkD L i d = .draw a s ↔ d = .draw a s := by cases d <;> simp [mkD]
theorem mkL_some {l : List Deed} {L : List Int} {i : Nat} {d : Deed} : (mkL l L)[i]? = some d ↔ ∃ d', l[i]? = some d' ∧ d = mkD L i d' := by
  rw [mkL_at]
  cases l[i]? with
  | none => simp
  | some d' => simp [eq_comm]
theorem mkC_ne (c : Cell) (L : List Int) (a : Nat) : (mkC c L).getD a [] ≠ [] ↔ c.getD a [] ≠ [] := by
  rw [mkC_get, Ne, mkF_nil]
theorem reach_mark {c : Cell} {l : List Deed} {L : List Int} {z : Int} : ∀ {t a : Nat}, Reach (mkC c L) (mkL l L) z t a ↔ Reach c l z t a
  | 0, a => by
    show (z = -1 - (a : Int) ∧ a < (mkC c L).length ∧ (mkC c L).getD a [] ≠ []) ↔ (z = -1 - (a : Int) ∧ a < c.length ∧ c.getD a [] ≠ [])
    rw [mkC_len, mkC_ne]
  | t + 1, a => by
    constructor
    · rintro ⟨d, hd, h⟩
      obtain ⟨d', hd', rfl⟩ := mkL_some.mp hd
      refine ⟨d', hd', ?_⟩
      rw [emptied_mk, ways_mk] at h
      rcases h with ⟨h, he⟩ | ⟨o, hw, h⟩ | ⟨f, h, hf, hz⟩
      · exact .inl ⟨reach_mark.mp h, he⟩
      · exact .inr (.inl ⟨o, hw, reach_mark.mp h⟩)
      · obtain ⟨g, rfl, rfl⟩ := add_mk.mp h
        exact .inr (.inr ⟨g, rfl, fun e => hf ((mkF_nil _ _ _).mpr e), hz⟩)
    · rintro ⟨d, hd, h⟩
      refine ⟨mkD L t d, mkL_some.mpr ⟨d, hd, rfl⟩, ?_⟩
      rw [emptied_mk, ways_mk]
      rcases h with ⟨h, he⟩ | ⟨o, hw, h⟩ | ⟨f, rfl, hf, hz⟩
      · exact .inl ⟨reach_mark.mpr h, he⟩
      · exact .inr (.inl ⟨o, hw, reach_mark.mpr h⟩)
      · exact .inr (.inr ⟨_, rfl, fun e => hf ((mkF_nil _ _ _).mp e), hz⟩)
theorem isLot_mark {c : Cell} {l : List Deed} {L : List Int} {z : Int} : IsLot (mkC c L) (mkL l L) z ↔ IsLot c l z := by
  unfold IsLot
  constructor
  · rintro (⟨a, h1, h2, h3⟩ | ⟨i, a, f, h1, h2, h3⟩)
    · exact .inl ⟨a, h1, by rw [← mkC_len c L]; exact h2, (mkC_ne _ _ _).mp h3⟩
    · obtain ⟨d', hd', e⟩ := mkL_some.mp h2
      obtain ⟨g, rfl, rfl⟩ := add_mk.mp e.symm
      exact .inr ⟨i, a, g, h1, hd', fun e => h3 ((mkF_nil _ _ _).mpr e)⟩
  · rintro (⟨a, h1, h2, h3⟩ | ⟨i, a, f, h1, h2, h3⟩)
    · exact .inl ⟨a, h1, by rw [mkC_len c L]; exact h2, (mkC_ne _ _ _).mpr h3⟩
    · exact .inr ⟨i, a, _, h1, mkL_some.mpr ⟨_, h2, rfl⟩, fun e => h3 ((mkF_nil _ _ _).mp e)⟩
theorem lots_mark {c : Cell} {l : List Deed} {L : List Int} (h : Lots c l L) : Lots (mkC c L) (mkL l L) L := ⟨h.asc, fun z => by rw [isLot_mark]; exact h.mem z⟩
/-! ### amounts above 0 -/
theorem amt_pos {c1 : Cell} (hc : CellOk c1) (a : Nat) (k : Str) : 0 < (amt (c1.getD a []) k).1 ↔ 0 < valC c1 a k := by
  have f := hc.at a
  have fr := amt_ok f k
  unfold valC
  rw [← val_amt f.asc k, qv_pos fr.red.pos]
/-! ### lists of kinds -/
theorem kcp_unique : ∀ {xs ys : List Str}, xs.Pairwise (fun a b => kcp a < kcp b) → ys.Pairwise (fun a b => kcp a < kcp b) → (∀ z, z ∈ xs ↔ z ∈ ys) → xs = ys
  | [], [], _, _, _ => rfl
  | [], y :: ys, _, _, h => by
    have := (h y).mpr List.mem_cons_self
    cases this
  | x :: xs, [], _, _, h => by
    have := (h x).mp List.mem_cons_self
    cases this
  | x :: xs, y :: ys, hx, hy, h => by
    rw [List.pairwise_cons] at hx hy
    have e : x = y := by
      have h1 := (h x).mp List.mem_cons_self
      have h2 := (h y).mpr List.mem_cons_self
      rcases List.mem_cons.mp h1 with z | z
      · exact z
      · rcases List.mem_cons.mp h2 with z2 | z2
        · exact z2.symm
        · exact absurd (List.lt_trans (hy.1 x z) (hx.1 y z2)) (lt_irrefl_cp _)
    subst e
    congr 1
    refine kcp_unique hx.2 hy.2 fun z => ?_
    constructor
    · intro q
      rcases List.mem_cons.mp ((h z).mp (List.mem_cons_of_mem _ q)) with w | w
      · have := hx.1 z q
        rw [w] at this
        exact absurd this (lt_irrefl_cp _)
      · exact w
    · intro q
      rcases List.mem_cons.mp ((h z).mpr (List.mem_cons_of_mem _ q)) with w | w
      · have := hy.1 z q
        rw [w] at this
        exact absurd this (lt_irrefl_cp _)
      · exact w
theorem kinds_asc : kinds10.Pairwise (fun a b => kcp a < kcp b) := by decide +kernel
def kdN (k : Nat) : Str := kinds10.getD k "lota"
theorem kd_eq (L : List Int) (z : Int) : kd L z = kdN (L.idxOf z) := rfl
theorem kdN_at {k : Nat} (h : k < 10) : kinds10[k]? = some (kdN k) := by
  have : k < kinds10.length := h
  unfold kdN
  rw [List.getD_eq_getElem?_getD, List.getElem?_eq_getElem this]
  rfl
theorem idx_at {L : List Int} (h : L.Pairwise (· < ·)) {k : Nat} {z : Int} (hk : L[k]? = some z) : L.idxOf z = k := by
  have hz := List.mem_of_getElem? hk
  obtain ⟨h1, h2⟩ := idx_of h hz
  have l1 := (List.getElem?_eq_some_iff.mp h1)
  have l2 := (List.getElem?_eq_some_iff.mp hk)
  obtain ⟨a1, b1⟩ := l1
  obtain ⟨a2, b2⟩ := l2
  rcases Nat.lt_trichotomy (L.idxOf z) k with q | q | q
  · have := List.pairwise_iff_getElem.mp h _ _ a1 a2 q
    omega
  · exact q
  · have := List.pairwise_iff_getElem.mp h _ _ a2 a1 q
    omega
theorem kd_of {L : List Int} (h : L.Pairwise (· < ·)) {k : Nat} {z : Int} (hk : L[k]? = some z) : kd L z = kdN k := by rw [kd_eq, idx_at h hk]
theorem some_asc (n : Nat) (hn : n ≤ 10) (p : Nat → Bool) : (((List.range n).filter p).map kdN).Pairwise (fun a b => kcp a < kcp b) := by
  rw [List.pairwise_map]
  refine List.Pairwise.filter _ ?_
  rw [List.pairwise_iff_getElem]
  intro i j hi hj hij
  rw [List.getElem_range, List.getElem_range]
  rw [List.length_range] at hi hj
  obtain ⟨x1, e1⟩ := List.getElem?_eq_some_iff.mp (kdN_at (k := i) (by omega))
  obtain ⟨x2, e2⟩ := List.getElem?_eq_some_iff.mp (kdN_at (k := j) (by omega))
  rw [← e1, ← e2]
  exact List.pairwise_iff_getElem.mp kinds_asc i j x1 x2 hij
/-! ### what is drawn in all -/
theorem dsum_pos {k : Str} : ∀ {xs : List (Cell × Deed)} {n : Nat}, (∀ p, p ∈ xs → CellOk p.1 ∧ p.2.Ok n) → 0 ≤ dsum xs k ∧ (0 < dsum xs k ↔ ∃ c1 a s, (c1, Deed.draw a s) ∈ xs ∧ 0 < s.1 ∧ 0 < valC c1 a k)
  | [], n, _ => ⟨Rat.le_refl, fun h => absurd h Rat.lt_irrefl, fun ⟨_, _, _, h, _⟩ => nomatch h⟩
  | (c1, d) :: r, n, h => by
    obtain ⟨i1, i2⟩ := dsum_pos (k := k) (xs := r) (n := n) fun p hp => h p (List.mem_cons_of_mem _ hp)
    obtain ⟨o1, o2⟩ := h (c1, d) List.mem_cons_self
    have skip : dsum ((c1, d) :: r) k = dsum r k → (∀ a s, d ≠ .draw a s) → 0 ≤ dsum ((c1, d) :: r) k ∧ (0 < dsum ((c1, d) :: r) k ↔ ∃ c1' a s, (c1', Deed.draw a s) ∈ (c1, d) :: r ∧ 0 < s.1 ∧ 0 < valC c1' a k) := fun e hn => by
      rw [e]
      refine ⟨i1, i2.trans ⟨fun ⟨c', a, s, hm, q⟩ => ⟨c', a, s, List.mem_cons_of_mem _ hm, q⟩, fun ⟨c', a, s, hm, q⟩ => ?_⟩⟩
      rcases List.mem_cons.mp hm with z | z
      · cases z
        exact absurd rfl (hn a s)
      · exact ⟨c', a, s, z, q⟩
    cases d with
    | draw a s =>
      have o2 : a < n ∧ ShOk s := o2
      have hV : 0 ≤ valC c1 a k := (o1.at a).nonneg k
      have q0 := o2.2.q0
      have m := Rat.mul_nonneg hV q0
      show 0 ≤ valC c1 a k * qv s + dsum r k ∧ (0 < valC c1 a k * qv s + dsum r k ↔ _)
      refine ⟨by grind, ?_⟩
      rw [pos_add m i1, pos_times hV q0, o2.2.posq, i2]
      have lo := o2.2.lo
      constructor
      · rintro (⟨h1, h2⟩ | ⟨c', a', s', hm, q⟩)
        · exact ⟨c1, a, s, List.mem_cons_self, by omega, h1⟩
        · exact ⟨c', a', s', List.mem_cons_of_mem _ hm, q⟩
      · rintro ⟨c', a', s', hm, h1, h2⟩
        rcases List.mem_cons.mp hm with z | z
        · cases z
          exact .inl ⟨h2, by omega⟩
        · exact .inr ⟨c', a', s', z, h1, h2⟩
    | move a b s => exact skip rfl (fun _ _ e => nomatch e)
    | swap a b s => exact skip rfl (fun _ _ e => nomatch e)
    | keep a s => exact skip rfl (fun _ _ e => nomatch e)
    | add a f => exact skip rfl (fun _ _ e => nomatch e)
section
variable {c : Cell} {l : List Deed} {L : List Int} {Ks : List Str} {N M : Int} {st : List Cell}
theorem mkD_ok {n : Nat} {L : List Int} {i : Nat} {d : Deed} (h : d.Ok n) (hk : ∀ z f, FillOk f → FillOk (mkF L z f)) : (mkD L i d).Ok n := by
  cases d with
  | add a f => exact ⟨h.1, hk _ _ h.2⟩
  | _ => exact h
theorem drawn_pos (hc : CellOk c) (hd : ∀ d, d ∈ l → d.Ok c.length) (hL : Lots c l L) (h10 : L.length ≤ 10) (run : RunOk (mkC c L) (mkL l L) Ks N M st) (hk : ∀ z f, FillOk f → FillOk (mkF L z f)) (k : Str) :
    0 < dsum (st.zip (mkL l L)) k ↔ ∃ z, z ∈ L ∧ k = kd L z ∧ ∃ i, Carr c l z i := by
  have mem : ∀ p, p ∈ st.zip (mkL l L) → ∃ i d, st[i]? = some p.1 ∧ l[i]? = some d ∧ p.2 = mkD L i d := fun p hp => by
    obtain ⟨i, hi⟩ := List.mem_iff_getElem?.mp hp
    obtain ⟨h1, h2⟩ := List.getElem?_zip_eq_some.mp hi
    obtain ⟨d, h3, h4⟩ := mkL_some.mp h2
    exact ⟨i, d, h1, h3, h4⟩
  rw [(dsum_pos (k := k) (n := c.length) fun p hp => by
    obtain ⟨i, d, h1, h2, h3⟩ := mem p hp
    refine ⟨(run.ok i _ h1).1, ?_⟩
    rw [h3]
    exact mkD_ok (hd d (List.mem_of_getElem? h2)) hk).2]
  constructor
  · rintro ⟨c1, a, s, hm, h1, h2⟩
    obtain ⟨i, d, e1, e2, e3⟩ := mem _ hm
    have e3 := draw_mk.mp e3.symm
    subst e3
    obtain ⟨m1, m2⟩ := marked_pos hc hd hL h10 run i c1 e1
    obtain ⟨z, hz, rfl⟩ := m2 a k h2
    exact ⟨z, hz, rfl, i, a, s, e2, h1, (m1 a z hz).mp h2⟩
  · rintro ⟨z, hz, rfl, i, a, s, e2, h1, h2⟩
    have hlt := (List.getElem?_eq_some_iff.mp e2).1
    obtain ⟨c1, e1, _⟩ := run_at run (u := i) (by omega)
    obtain ⟨m1, _⟩ := marked_pos hc hd hL h10 run i c1 e1
    refine ⟨c1, a, s, List.mem_of_getElem? (i := i) (List.getElem?_zip_eq_some.mpr ⟨e1, mkL_some.mpr ⟨_, e2, rfl⟩⟩), h1, (m1 a z hz).mpr h2⟩
theorem drawn_kinds (hc : CellOk c) (hd : ∀ d, d ∈ l → d.Ok c.length) (hL : Lots c l L) (h10 : L.length ≤ 10) (run : RunOk (mkC c L) (mkL l L) Ks N M st) (hk : ∀ z f, FillOk f → FillOk (mkF L z f)) {r : Fill} (hr : FillOk r) (hv : ∀ k, val r k = dsum (st.zip (mkL l L)) k)
    {p : Nat → Bool} (hp : ∀ k z, L[k]? = some z → (p k = true ↔ ∃ i, Carr c l z i)) : r.map (·.1) = ((List.range L.length).filter p).map kdN := by
  refine kcp_unique (by rw [List.pairwise_map]; exact hr.asc) (some_asc _ h10 p) fun k => ?_
  have e1 : k ∈ r.map (·.1) ↔ 0 < dsum (st.zip (mkL l L)) k := by
    rw [← hv, val_pos_mem hr, List.mem_map]
  rw [e1, drawn_pos hc hd hL h10 run hk, List.mem_map]
  constructor
  · rintro ⟨z, hz, rfl, h⟩
    have h1 := (idx_of hL.asc hz).1
    have lt := (List.getElem?_eq_some_iff.mp h1).1
    exact ⟨L.idxOf z, List.mem_filter.mpr ⟨List.mem_range.mpr lt, (hp _ z h1).mpr h⟩, rfl⟩
  · rintro ⟨j, hj, rfl⟩
    obtain ⟨h1, h2⟩ := List.mem_filter.mp hj
    have lt := List.mem_range.mp h1
    have h3 : L[j]? = some L[j] := List.getElem?_eq_getElem lt
    exact ⟨L[j], List.getElem_mem lt, (kd_of hL.asc h3).symm, (hp j _ h3).mp h2⟩
theorem due_carr (hc : CellOk c) (hd : ∀ d, d ∈ l → d.Ok c.length) (hL : Lots c l L) (h10 : L.length ≤ 10) (run : RunOk (mkC c L) (mkL l L) Ks N M st) {i a : Nat} {s : Fr} {c1 : Cell} (hi : l[i]? = some (.draw a s)) (h1 : st[i]? = some c1) :
    CarrOk c l i (L.filter fun z => decide (0 < s.1) && decide (0 < (amt (c1.getD a []) (kd L z)).1)) := by
  obtain ⟨m1, _⟩ := marked_pos hc hd hL h10 run i c1 h1
  have ok1 := (run.ok i c1 h1).1
  refine ⟨hL.asc.filter _, fun z => ?_⟩
  rw [List.mem_filter, Bool.and_eq_true, decide_eq_true_eq, decide_eq_true_eq, amt_pos ok1]
  constructor
  · rintro ⟨hz, h2, h3⟩
    exact ⟨a, s, hi, h2, (m1 a z hz).mp h3⟩
  · rintro ⟨a', s', e, h2, h3⟩
    rw [hi] at e
    cases e
    have hz := (hL.mem z).mpr (reach_lot h3).1
    exact ⟨hz, h2, (m1 a z hz).mpr h3⟩
theorem due_touch (hc : CellOk c) (hd : ∀ d, d ∈ l → d.Ok c.length) (hL : Lots c l L) (h10 : L.length ≤ 10) (run : RunOk (mkC c L) (mkL l L) Ks N M st) {c1 : Cell} {z : Int} (hz : z ∈ L) {t : Nat} (h1 : st[t]? = some c1) :
    (((List.range c.length).filter fun a => decide (0 < (amt (c1.getD a []) (kd L z)).1)).map fun a : Nat => (a : Int)).Pairwise (· < ·) ∧
    ∀ x, x ∈ (((List.range c.length).filter fun a => decide (0 < (amt (c1.getD a []) (kd L z)).1)).map fun a : Nat => (a : Int)) ↔ ∃ a : Nat, x = (a : Int) ∧ a < c.length ∧ Reach c l z t a := by
  obtain ⟨m1, _⟩ := marked_pos hc hd hL h10 run t c1 h1
  have ok1 := (run.ok t c1 h1).1
  refine ⟨?_, fun x => ?_⟩
  · rw [List.pairwise_map]
    refine List.Pairwise.filter _ ?_
    exact List.pairwise_lt_range.imp fun {a b} h => by omega
  · rw [List.mem_map]
    constructor
    · rintro ⟨a, ha, rfl⟩
      obtain ⟨h2, h3⟩ := List.mem_filter.mp ha
      rw [decide_eq_true_eq, amt_pos ok1] at h3
      exact ⟨a, rfl, List.mem_range.mp h2, (m1 a z hz).mp h3⟩
    · rintro ⟨a, rfl, h2, h3⟩
      refine ⟨a, List.mem_filter.mpr ⟨List.mem_range.mpr h2, ?_⟩, rfl⟩
      rw [decide_eq_true_eq, amt_pos ok1]
      exact (m1 a z hz).mpr h3
end
end CK
set_option Elab.async false
set_option linter.all false
set_option maxRecDepth 100000
set_option maxHeartbeats 1600000
namespace CK
open PySem PySem.Spec PyProof.Rows L2
/-! ### the law's end, for a promise under which no list's text is under way -/
section
variable {P : Program} {w : World} {K : PySem.W.Frag} {mg mb : Str → Option Value} {H : Hp} {h : Heap} {a : Addr} {ob : Obj}
/-- nothing but the thing at a is tracked -/
def Lone (a : Addr) (H : Hp) : Prop := ∀ b u, H b = some u → b = a
theorem lone_none : Lone a fun _ => none := fun _ _ e => nomatch e
theorem lone_one {u : HO} : Lone a (upd (fun _ => none) a u) := fun b v e => by
  by_cases z : b = a
  · exact z
  · rw [upd_ne z] at e
    cases e
/-- what is of another make stands outside -/
theorem Lone.off (L : Lone a H) (ha : h.get? a = some ob) {b : Addr} {o : Obj} (hb : h.get? b = some o) (ne : o ≠ ob) : H b = none := by
  cases e : H b with
  | none => rfl
  | some u =>
    rw [L b u e, ha] at hb
    exact absurd (Option.some.inj hb).symm ne
theorem Lone.space (L : Lone a H) (ha : h.get? a = some ob) (hob : ∀ es ep, ob.data ≠ .dict es ep) {b : Addr} {m : Str → Option Value} (N : h.Ns b m) : (hidT h H).Ns b m := by
  obtain ⟨o, es, ep, e, d, r⟩ := N
  exact ⟨o, es, ep, hidT_get e (L.off ha e fun z => hob es ep (by rw [← z]; exact d)), d, r⟩
theorem Lone.text (L : Lone a H) (X : K.In h) (hK : (∃ u, H a = some u) → K.lookup a = none) : K.In (hidT h H) := fun b o e => by
  refine hidT_get (X b o e) ?_
  cases q : H b with
  | none => rfl
  | some u =>
    obtain rfl := L b u q
    rw [hK ⟨u, q⟩] at e
    cases e
/-- what the law's call finds -/
theorem Lone.around {s : Shared} (L : Lone a H) (ha : s.heap.get? a = some ob) (hob : ∀ es ep, ob.data ≠ .dict es ep) (hK : (∃ u, H a = some u) → K.lookup a = none) (X : K.In s.heap) (G : s.heap.Ns mainGlobals mg) (B : s.heap.Ns builtinsNs mb)
    (hB : ∀ x : Str, x ≠ "__name__" → mb x = bootBuiltins x) (lim : s.heap.NoLimit) (gens : s.gens = #[]) (ok : HOk P w H s.heap) : Env0 P w K mg (hidT s.heap H) callerA [] s H := by
  obtain ⟨ml, l1, l2⟩ := lim
  exact ⟨rfl, ⟨L.text X hK, L.space ha hob G, ⟨mb, L.space ha hob B, hB⟩, ⟨ml, L.space ha hob l1, l2⟩⟩, fun _ _ e => of_hidT e, Nat.le_of_eq (hidT_size s.heap H), trivial, fun b hb => (nomatch (show b ∈ ([] : List Addr) from hb)), ok, .of_eq gens⟩
end
section
variable {P : Program} {w : World} {K : PySem.W.Frag} {mg mb : Str → Option Value} {k : Nat} {fa a : Addr} {fd : FuncData} {x : Str} {sp : Sp} {s : Shared} {vs : List Value} {ns : List Int}
abbrev scriptO (vs : List Value) : Obj := { cls := .type "list", data := .seq vs.toArray }
/-- the call, from a heap that tracks the script at most, and that as it stands -/
theorem call_lone {H : Hp} (L : Lone a H) (still : ∀ u, H a = some u → ∃ xs, u = .frz (scriptO vs) (.lst xs)) (ok : HOk P w H s.heap) (hK : (∃ u, H a = some u) → K.lookup a = none) (hS : SqL K H a (ns.map V.int))
    (X : K.In s.heap) (G : s.heap.Ns mainGlobals mg) (B : s.heap.Ns builtinsNs mb) (hB : ∀ x : Str, x ≠ "__name__" → mb x = bootBuiltins x) (lim : s.heap.NoLimit) (gens : s.gens = #[]) (ha : s.heap.get? a = some (scriptO vs)) (hr : Room k callerA)
    (F : ∀ base : Heap, K.In base → base.Ns mainGlobals mg → FnG P w K mg base k fa fd [x] sp) (hbind : ∀ (s : Shared) (u : Value), BindsTo s fd ⟨[u], []⟩ [(x, u)]) (hsp : sp [.ref a] H (fun v _ => v = .bl true) fun _ _ _ => False) :
    codeAny (model P w) callerA (.call (.ref fa) ⟨[.ref a], []⟩) (fun r s' => r = .ok (.ret (.bool true)) ∧ OldK s.heap s'.heap ∧ s'.os = s.os ∧ AllBare s'.gens) s := by
  have E := L.around ha (fun _ _ z => nomatch z) hK X G B hB lim gens ok
  refine codeAny_mono ((F _ E.mod.kin (L.space ha (fun _ _ z => nomatch z) G)).run callerA [] s H ⟨[.ref a], []⟩ [.ref a] [.ref a] _ _ rfl hr E (hbind s (.ref a)) (.cons rfl .nil) hsp) fun r s' got => ?_
  match r, got with
  | .ok (.ret u), got =>
    obtain ⟨v, H2, os, bare, rest, ok2, rv, rfl⟩ := got
    have eu : u = Value.bool true := rv
    refine ⟨by rw [eu], OldK.of_keep fun b o e => ?_, os, bare⟩
    cases q : H b with
    | none => exact rest.keep b o e q (fun z => nomatch (show b ∈ ([] : List Addr) from z)) (fun z => nomatch z)
    | some u =>
      obtain rfl := L b u q
      obtain ⟨xs, rfl⟩ := still u q
      rw [ha] at e
      rw [← Option.some.inj e]
      exact (ok2 b _ (rest.frzs b _ _ q)).1
  | .ok .next, got => exact got.elim
  | .ok .brk, got => exact got.elim
  | .ok .cont, got => exact got.elim
  | .error _, got => exact got.elim
theorem law_callG (X : K.In s.heap) (G : s.heap.Ns mainGlobals mg) (B : s.heap.Ns builtinsNs mb) (hB : ∀ x : Str, x ≠ "__name__" → mb x = bootBuiltins x) (lim : s.heap.NoLimit) (gens : s.gens = #[]) (ha : s.heap.get? a = some (scriptO vs)) (hi : IntsAre vs ns) (hl : ns.length ≤ sizeLine) (hr : Room k callerA)
    (F : ∀ base : Heap, K.In base → base.Ns mainGlobals mg → FnG P w K mg base k fa fd [x] sp) (hbind : ∀ (s : Shared) (u : Value), BindsTo s fd ⟨[u], []⟩ [(x, u)]) (hsp : ∀ H : Hp, SqL K H a (ns.map V.int) → sp [.ref a] H (fun v _ => v = .bl true) fun _ _ _ => False) :
    codeAny (model P w) callerA (.call (.ref fa) ⟨[.ref a], []⟩) (fun r s' => r = .ok (.ret (.bool true)) ∧ OldK s.heap s'.heap ∧ s'.os = s.os ∧ AllBare s'.gens) s := by
  have hv := vals_ints hi
  have hlen := hi.length
  cases q : K.lookup a with
  | none =>
    have e1 : upd (fun _ => none) a (HO.frz (scriptO vs) (.lst (ns.map V.int))) a = some (.frz (scriptO vs) (.lst (ns.map V.int))) := upd_same
    have hS : SqL K (upd (fun _ => none) a (HO.frz (scriptO vs) (.lst (ns.map V.int)))) a (ns.map V.int) := .inl (.inr ⟨_, e1⟩)
    refine call_lone lone_one (fun u e => ?_) (fun b u e => ?_) (fun _ => q) hS X G B hB lim gens ha hr F hbind (hsp _ hS)
    · rw [e1] at e
      exact ⟨_, (Option.some.inj e).symm⟩
    · obtain rfl := lone_one b u e
      rw [e1] at e
      cases e
      exact ⟨ha, by rw [List.length_map]; exact hl, vs, _, hv, ha⟩
  | some o =>
    have e := X a o q
    rw [ha] at e
    cases e
    have hS : SqL K (fun _ => none) a (ns.map V.int) := .inr ⟨_, vs.toArray, _, q, rfl, rfl, rfl, by rw [List.size_toArray, hlen]; exact hl, by rw [List.toList_toArray]; exact hv⟩
    exact call_lone lone_none (fun _ e => nomatch e) (fun _ _ e => nomatch e) (fun ⟨_, e⟩ => nomatch e) hS X G B hB lim gens ha hr F hbind (hsp _ hS)
theorem walk_ofG {l : PySem.W.OpenLaw} {n : Nat} {q : Program} {loose : List Str} {XP : (Str → Option Value) → Heap → Prop} {YP : World → Heap → Prop} {d : DefRec} (hn : l.most = some n) (hn2 : n ≤ sizeLine) (hdf : d.params.defaults = []) (hr : Room k callerA)
    (F : ∀ (w : World) (mg : Str → Option Value) (f : Addr) (h : Heap), YP w h → h.Ns mainGlobals mg → mg d.name = some (.ref f) → ∃ (K : PySem.W.Frag) (fd : FuncData) (sp : Sp), K.In h ∧ (∀ (s : Shared) (v : Value), BindsTo s fd ⟨[v], []⟩ [(x, v)]) ∧
      (∀ (H : Hp) (a : Addr) (ns : List Int), ns.length ≤ n → SqL K H a (ns.map V.int) → sp [.ref a] H (fun v _ => v = .bl true) fun _ _ _ => False) ∧ ∀ base : Heap, K.In base → base.Ns mainGlobals mg → FnG l.prog w K mg base k f fd [x] sp) :
    PySem.W.WalkO q loose XP YP l.row.toRowW d [] fun f vs => PySem.call f vs :=
  Att.attach_call hn hdf fun w _ _ mg _ f _ _ _ _ _ _ _ G Y _ _ _ named obj hints most gens => by
    obtain ⟨K, fd, sp, X, hb, hsp, hF⟩ := F w mg f _ Y G.T.g named
    exact law_callG X G.T.g G.T.b G.T.builtins G.T.nolimit gens obj hints (Nat.le_trans most hn2) hr hF hb fun H hS => hsp H _ _ most hS
end
end CK
set_option Elab.async false
set_option linter.all false
set_option maxRecDepth 100000
set_option maxHeartbeats 4000000
namespace CK
open PySem PySem.Spec PyProof.Rows L2
open Evl (Ex ex_l ex_t fresh_back)
open C8 (Cal pe_c)
theorem az_in {c : Nat} (h1 : 97 ≤ c) (h2 : c ≤ 122) : c ∈ (Str.ofString "abcdefghijklmnopqrstuvwxyz").cps.toList := by
  have h : ∀ c : Fin 123, 97 ≤ c.val → c.val ∈ (Str.ofString "abcdefghijklmnopqrstuvwxyz").cps.toList := by decide +kernel
  exact h ⟨c, by omega⟩ h1
theorem log2_lt {n k : Nat} (h : n < 2 ^ k) (hk : 0 < k) : n.log2 < k := by
  by_cases q : n = 0
  · subst q; exact hk
  · exact (Nat.log2_lt q).mpr h
theorem cmul {a b : Int} {m n : Nat} (ha : a.natAbs < 2 ^ m) (hb : b.natAbs < 2 ^ n) (hm : 0 < m) (hn : 0 < n) (h : m + n ≤ 1000000) : CMulW a b := by
  have h1 := log2_lt ha hm
  have h2 := log2_lt hb hn
  unfold CMulW
  omega
theorem mul_lt {a b m n : Nat} (ha : a < 2 ^ m) (hb : b < 2 ^ n) : a * b < 2 ^ (m + n) := by
  rw [Nat.pow_add]
  exact Nat.mul_lt_mul'' ha hb
theorem imul_lt {a b : Int} {m n : Nat} (ha : a.natAbs < 2 ^ m) (hb : b.natAbs < 2 ^ n) : (a * b).natAbs < 2 ^ (m + n) := by
  rw [Int.natAbs_mul]
  exact mul_lt ha hb
theorem FrOk.mul {x y : Fr} (hx : FrOk x) (hy : FrOk y) : CMulW x.1 y.1 ∧ CMulW x.1 y.2 ∧ CMulW x.2 y.2 := ⟨cmul hx.n hy.n (by decide) (by decide) (by decide), cmul hx.n hy.d (by decide) (by decide) (by decide), cmul hx.d hy.d (by decide) (by decide) (by decide)⟩
theorem FrOk.dd {x y : Fr} (hx : FrOk x) (hy : FrOk y) : 0 < x.2 * y.2 ∧ (x.2 * y.2).natAbs < 2 ^ 7200 := ⟨Int.mul_pos hx.red.pos hy.red.pos, imul_lt hx.d hy.d⟩
theorem fracM_d {a b : Int} (hb : 0 < b) {n : Nat} (h : b.natAbs < 2 ^ n) : ((Nat.gcd a.natAbs b.natAbs : Nat) : Int).natAbs < 2 ^ n := by
  rw [Int.natAbs_natCast]
  exact Nat.lt_of_le_of_lt (Nat.le_of_dvd (by omega) (Nat.gcd_dvd_right _ _)) h
def w_is_integer : WDA := fun ds k => ∃ i, ds = [.int i] ∧ k (.bool true)
def w_is_kind : WDA := fun ds k => ∃ z, ds = [.str z] ∧ KindOk z ∧ k (.bool true)
def w_need_kind : WDA := fun ds k => ∃ z, ds = [.str z] ∧ KindOk z ∧ k .none
def w_is_fraction : WDA := fun ds k => ∃ x, ds = [frD x] ∧ FrOk x ∧ k (.bool true)
def w_is_share : WDA := fun ds k => ∃ x, ds = [frD x] ∧ ShOk x ∧ k (.bool true)
def w_need_fraction : WDA := fun ds k => ∃ x, ds = [frD x] ∧ FrOk x ∧ k .none
def w_need_share : WDA := fun ds k => ∃ x, ds = [frD x] ∧ ShOk x ∧ k .none
def w_fraction : WDA := fun ds k => ∃ a b, ds = [.int a, .int b] ∧ 0 < b ∧ b.natAbs < 2 ^ 8000 ∧ k (frD (fracM a b))
def w_plus : WDA := fun ds k => ∃ x y, ds = [frD x, frD y] ∧ FrOk x ∧ FrOk y ∧ k (frD (plusM x y))
def w_less : WDA := fun ds k => ∃ x y, ds = [frD x, frD y] ∧ FrOk x ∧ FrOk y ∧ k (frD (lessM x y))
def w_times : WDA := fun ds k => ∃ x y, ds = [frD x, frD y] ∧ FrOk x ∧ FrOk y ∧ k (frD (timesM x y))
def w_compared : WDA := fun ds k => ∃ x y, ds = [frD x, frD y] ∧ FrOk x ∧ FrOk y ∧ k (.int ((if y.1 * x.2 < x.1 * y.2 then 1 else 0) - (if x.1 * y.2 < y.1 * x.2 then 1 else 0)))
theorem len_is_integer (ds : List PD) (k : PD → Prop) (h : w_is_integer ds k) : ds.length = 1 := by obtain ⟨_, rfl, _⟩ := h; rfl
theorem len_is_kind (ds : List PD) (k : PD → Prop) (h : w_is_kind ds k) : ds.length = 1 := by obtain ⟨_, rfl, _⟩ := h; rfl
theorem len_need_kind (ds : List PD) (k : PD → Prop) (h : w_need_kind ds k) : ds.length = 1 := by obtain ⟨_, rfl, _⟩ := h; rfl
theorem len_is_fraction (ds : List PD) (k : PD → Prop) (h : w_is_fraction ds k) : ds.length = 1 := by obtain ⟨_, rfl, _⟩ := h; rfl
theorem len_is_share (ds : List PD) (k : PD → Prop) (h : w_is_share ds k) : ds.length = 1 := by obtain ⟨_, rfl, _⟩ := h; rfl
theorem len_need_fraction (ds : List PD) (k : PD → Prop) (h : w_need_fraction ds k) : ds.length = 1 := by obtain ⟨_, rfl, _⟩ := h; rfl
theorem len_need_share (ds : List PD) (k : PD → Prop) (h : w_need_share ds k) : ds.length = 1 := by obtain ⟨_, rfl, _⟩ := h; rfl
theorem len_fraction (ds : List PD) (k : PD → Prop) (h : w_fraction ds k) : ds.length = 2 := by obtain ⟨_, _, rfl, _⟩ := h; rfl
theorem len_plus (ds : List PD) (k : PD → Prop) (h : w_plus ds k) : ds.length = 2 := by obtain ⟨_, _, rfl, _⟩ := h; rfl
theorem len_less (ds : List PD) (k : PD → Prop) (h : w_less ds k) : ds.length = 2 := by obtain ⟨_, _, rfl, _⟩ := h; rfl
theorem len_times (ds : List PD) (k : PD → Prop) (h : w_times ds k) : ds.length = 2 := by obtain ⟨_, _, rfl, _⟩ := h; rfl
theorem len_compared (ds : List PD) (k : PD → Prop) (h : w_compared ds k) : ds.length = 2 := by obtain ⟨_, _, rfl, _⟩ := h; rfl
local macro_rules | `(tactic| walk_at "ck") => `(tactic| repeat (first
  | (with_reducible refine r_seq ?_)
  | (with_reducible refine r_next ?_)
  | (with_reducible refine r_ret ?_)
  | (with_reducible refine r_set ?_)
  | (with_reducible refine r_ifs ?_)
  | (with_reducible refine r_drop ?_)
  | (with_reducible refine r_B ?_)
  | (with_reducible refine r_boolK ?_)
  | (with_reducible refine r_op ?_)
  | (with_reducible refine r_c ?_)
  | (with_reducible refine r_call ?_)
  | (with_reducible refine r_cons ?_)
  | (with_reducible refine r_nil ?_)
  | (with_reducible refine r_intK ?_)
  | ((with_reducible refine' r_var ?e ?_); (case e => exact rfl))
  | ((with_reducible refine' r_ixT ?e ?_); (case e => exact rfl))
  | ((with_reducible refine' r_loT ?e ?_); (case e => exact rfl))
  | ((with_reducible refine' r_ixK ?e ?_); (case e => exact rfl))
  | (with_reducible refine r_eqI ?_)
  | (with_reducible refine r_neI ?_)
  | (with_reducible refine r_int2 ?_)
  | (with_reducible refine r_addI ?_)
  | (with_reducible refine r_or ?_)
  | (with_reducible refine r_not ?_)
  | (with_reducible refine r_andV ?_)
  | (with_reducible refine r_notV ?_)
  | (with_reducible refine r_tup ?_)
  | (with_reducible refine r_len2 ?_)
  | (with_reducible refine br_T ?_)
  | (with_reducible refine r_is ?_)
  | (with_reducible refine r_is1 ?_)
  | (with_reducible refine r_is2 ?_)
  | (with_reducible refine r_is4 ?_)
  | (with_reducible refine r_is5 ?_)
  | (with_reducible refine r_chain ?_)
  | (with_reducible refine r_lenT ?_)
  | (with_reducible refine r_strK ?_)
  | (with_reducible refine r_intB ?_)
  | (with_reducible refine r_gcd ?_)
  | (with_reducible refine r_sgn ?_)
  | (with_reducible refine r_gN ?_)
  | (with_reducible refine r_yes ?_)
  | (with_reducible refine r_lcv ?_)
  | (with_reducible refine r_lenS ?_)
  | (with_reducible refine br_nT ?_)
  | (with_reducible refine br_dt (by first | omega | assumption | (with_unfolding_all rfl) | (simp only [List.length_cons, List.length_nil]; omega) | decide +kernel) ?_)
  | (with_reducible refine br_df (by first | omega | assumption | (with_unfolding_all rfl) | (simp only [List.length_cons, List.length_nil]; omega) | decide +kernel) ?_)
  | (with_reducible refine br_nf (by first | omega | assumption | (with_unfolding_all rfl) | (simp only [List.length_cons, List.length_nil]; omega) | decide +kernel) ?_)
  | (with_reducible refine And.intro (by omega) ?_)))
section
variable {P : Program} {w : World} {K : PySem.W.Frag} {mg : Str → Option Value} {base : Heap}
def N_is_integer : List Str := ["value"]
theorem sc_is_integer : FnScope N_is_integer ["value"] (defScope (top 14)) := ⟨rfl, rfl, rfl, by decide +kernel, rfl, by decide +kernel, by decide +kernel⟩
theorem ok_is_integer (T : Txt K mg) : Cal P w K mg base 1 "is_integer" (spF w_is_integer) [] := by
  obtain ⟨f, fd, F, hm⟩ := T.fn 0 rfl
  refine mk_F F hm sc_is_integer (fun _ _ _ _ _ _ us hl => match us, hl with | [_], _ => rfl) len_is_integer fun cdv A outer s H E hr => ?_
  have nd : N_is_integer.Nodup := sc_is_integer.nd
  refine ⟨_, (b_one (t_ret (p_and (p_is (T := "int") T.isinstance_ T.int_ (pv_ 0) (by decide +kernel)) (p_one (p_not (p_is (T := "bool") T.isinstance_ T.bool_ (pv_ 0) (by decide +kernel))))))), ?_⟩
  intro ds k hw
  obtain ⟨i, rfl, hk⟩ := hw
  refine rho_of [.dat (.int i)] rfl ?_
  walk_at "ck"
  exact ⟨_, rfl, hk⟩
def N_is_kind : List Str := ["value", "letter"]
theorem sc_is_kind : FnScope N_is_kind ["value"] (defScope (top 15)) := ⟨rfl, rfl, rfl, by decide +kernel, rfl, by decide +kernel, by decide +kernel⟩
theorem ok_is_kind (T : Txt K mg) : Cal P w K mg base 1 "is_kind" (spF w_is_kind) [] := by
  obtain ⟨f, fd, F, hm⟩ := T.fn 1 rfl
  refine mk_F F hm sc_is_kind (fun _ _ _ _ _ _ us hl => match us, hl with | [_], _ => rfl) len_is_kind fun cdv A outer s H E hr => ?_
  have nd : N_is_kind.Nodup := sc_is_kind.nd
  refine ⟨_, (b_cons (t_if (q_pw (q_or (q_not (q_val (p_is (T := "str") T.isinstance_ T.str_ (pv_ 0) (by decide +kernel)))) (q_or1 (q_not (q_chain op_le s_le op_le s_le p_int (p_len T.len_ (a_cons (pv_ 0) a_nil)) p_int))))) (b_one (t_ret p_bl)) b_nil)
  (b_one (t_ret (p_all rfl T.all_ (a_cons (p_lc rfl nd (i_str (pv_ 0)) (blkOk_by (N := N_is_kind) (sc := defScope (top 15)) (own := [("letter", 1)]) (by decide +kernel)) rfl (fun _ _ _ _ _ => (v_name 1 nd)) (fun _ _ _ _ _ => ts_nil) (fun _ _ _ _ _ => (p_inS (pv_ 1) p_str))) a_nil))))), ?_⟩
  intro ds k hw
  obtain ⟨z, rfl, hz, hk⟩ := hw
  refine rho_of [.dat (.str z), .unk] rfl ?_
  have h1 := hz.lo
  have h2 := hz.hi
  walk_at "ck"
  refine lcW_fm (fun _ => true) (fun _ => .bool true) (signsD z) [] (by simp only [signsD, List.length_map]; show z.cps.toList.length + 0 ≤ _; rw [Array.length_toList]; show z.length + 0 ≤ _; omega) (fun x hx k k0 hb => ?_) ?_
  · obtain ⟨c, hc, rfl⟩ := List.mem_map.mp hx
    walk_at "ck"
    refine ⟨c, rfl, ?_⟩
    rw [decide_eq_true (az_in (hz.az c hc).1 (hz.az c hc).2)]
    exact hb.t
  · walk_at "ck"
    refine wAll_true (fun d hd => ?_) ?_
    · obtain ⟨x, _, rfl⟩ := List.mem_map.mp hd
      rfl
    · exact ⟨_, rfl, hk⟩
def N_need_kind : List Str := ["kind"]
theorem sc_need_kind : FnScope N_need_kind ["kind"] (defScope (top 16)) := ⟨rfl, rfl, rfl, by decide +kernel, rfl, by decide +kernel, by decide +kernel⟩
theorem ok_need_kind (T : Txt K mg) (c_is_kind : Cal P w K mg base 1 "is_kind" (spF w_is_kind) []) : Cal P w K mg base 2 "need_kind" (spF w_need_kind) [] := by
  obtain ⟨f, fd, F, hm⟩ := T.fn 2 rfl
  refine mk_F F hm sc_need_kind (fun _ _ _ _ _ _ us hl => match us, hl with | [_], _ => rfl) len_need_kind fun cdv A outer s H E hr => ?_
  have nd : N_need_kind.Nodup := sc_need_kind.nd
  refine ⟨_, (b_one (t_if (q_not (q_val (p_c c_is_kind hr (by decide) (a_cons (pv_ 0) a_nil)))) b_never b_nil)), ?_⟩
  intro ds k hw
  obtain ⟨z, rfl, hz, hk⟩ := hw
  refine rho_of [.dat (.str z)] rfl ?_
  walk_at "ck"
  refine ⟨z, rfl, hz, ?_⟩
  walk_at "ck"
  exact hk
def N_is_fraction : List Str := ["value"]
theorem sc_is_fraction : FnScope N_is_fraction ["value"] (defScope (top 18)) := ⟨rfl, rfl, rfl, by decide +kernel, rfl, by decide +kernel, by decide +kernel⟩
theorem ok_is_fraction (T : Txt K mg) (c_is_integer : Cal P w K mg base 1 "is_integer" (spF w_is_integer) []) : Cal P w K mg base 2 "is_fraction" (spF w_is_fraction) [] := by
  obtain ⟨f, fd, F, hm⟩ := T.fn 3 rfl
  refine mk_F F hm sc_is_fraction (fun _ _ _ _ _ _ us hl => match us, hl with | [_], _ => rfl) len_is_fraction fun cdv A outer s H E hr => ?_
  have nd : N_is_fraction.Nodup := sc_is_fraction.nd
  refine ⟨_, (b_cons (t_if (q_pw (q_or (q_not (q_val (p_is (T := "tuple") T.isinstance_ T.tuple_ (pv_ 0) (by decide +kernel)))) (q_or1 (q_ne hr (p_len T.len_ (a_cons (pv_ 0) a_nil)) p_int)))) (b_one (t_ret p_bl)) b_nil)
  (b_cons (t_if (q_pw (q_or (q_not (q_val (p_c c_is_integer hr (by decide) (a_cons (p_ixn 0 p_int) a_nil)))) (q_or1 (q_not (q_val (p_c c_is_integer hr (by decide) (a_cons (p_ixn 0 p_int) a_nil))))))) (b_one (t_ret p_bl)) b_nil)
  (b_one (t_ret (p_and (p_ge (p_ixn 0 p_int) p_int) (p_one (p_eq hr (p_gcd T.gcd_ (a_cons (p_ixn 0 p_int) (a_cons (p_ixn 0 p_int) a_nil))) p_int))))))), ?_⟩
  intro ds k hw
  obtain ⟨x, rfl, hx, hk⟩ := hw
  refine rho_of [.dat (frD x)] rfl ?_
  walk_at "ck"
  refine ⟨_, rfl, ?_⟩
  walk_at "ck"
  refine ⟨_, rfl, ?_⟩
  have hp := hx.red.pos
  walk_at "ck"
  refine ⟨_, rfl, ?_⟩
  have e : ((Nat.gcd x.1.natAbs x.2.natAbs : Nat) : Int) = 1 := by rw [hx.red.gcd]; rfl
  rw [decide_eq_true e]
  exact hk
def N_is_share : List Str := ["value"]
theorem sc_is_share : FnScope N_is_share ["value"] (defScope (top 19)) := ⟨rfl, rfl, rfl, by decide +kernel, rfl, by decide +kernel, by decide +kernel⟩
theorem ok_is_share (T : Txt K mg) (c_is_fraction : Cal P w K mg base 2 "is_fraction" (spF w_is_fraction) []) : Cal P w K mg base 3 "is_share" (spF w_is_share) [] := by
  obtain ⟨f, fd, F, hm⟩ := T.fn 4 rfl
  refine mk_F F hm sc_is_share (fun _ _ _ _ _ _ us hl => match us, hl with | [_], _ => rfl) len_is_share fun cdv A outer s H E hr => ?_
  have nd : N_is_share.Nodup := sc_is_share.nd
  refine ⟨_, (b_one (t_ret (p_and (p_c c_is_fraction hr (by decide) (a_cons (pv_ 0) a_nil)) (p_one (p_chain op_le s_le op_le s_le p_int (p_ixn 0 p_int) (p_ixn 0 p_int)))))), ?_⟩
  intro ds k hw
  obtain ⟨x, rfl, hx, hk⟩ := hw
  refine rho_of [.dat (frD x)] rfl ?_
  walk_at "ck"
  refine ⟨x, rfl, hx.fr, ?_⟩
  have h1 := hx.lo
  have h2 := hx.hi
  walk_at "ck"
  refine ⟨_, rfl, ?_⟩
  rw [decide_eq_true h2]
  exact hk
def N_need_fraction : List Str := ["value"]
theorem sc_need_fraction : FnScope N_need_fraction ["value"] (defScope (top 20)) := ⟨rfl, rfl, rfl, by decide +kernel, rfl, by decide +kernel, by decide +kernel⟩
theorem ok_need_fraction (T : Txt K mg) (c_is_fraction : Cal P w K mg base 2 "is_fraction" (spF w_is_fraction) []) : Cal P w K mg base 3 "need_fraction" (spF w_need_fraction) [] := by
  obtain ⟨f, fd, F, hm⟩ := T.fn 5 rfl
  refine mk_F F hm sc_need_fraction (fun _ _ _ _ _ _ us hl => match us, hl with | [_], _ => rfl) len_need_fraction fun cdv A outer s H E hr => ?_
  have nd : N_need_fraction.Nodup := sc_need_fraction.nd
  refine ⟨_, (b_one (t_if (q_not (q_val (p_c c_is_fraction hr (by decide) (a_cons (pv_ 0) a_nil)))) b_never b_nil)), ?_⟩
  intro ds k hw
  obtain ⟨x, rfl, hx, hk⟩ := hw
  refine rho_of [.dat (frD x)] rfl ?_
  walk_at "ck"
  refine ⟨x, rfl, hx, ?_⟩
  walk_at "ck"
  exact hk
def N_need_share : List Str := ["value"]
theorem sc_need_share : FnScope N_need_share ["value"] (defScope (top 21)) := ⟨rfl, rfl, rfl, by decide +kernel, rfl, by decide +kernel, by decide +kernel⟩
theorem ok_need_share (T : Txt K mg) (c_is_share : Cal P w K mg base 3 "is_share" (spF w_is_share) []) : Cal P w K mg base 4 "need_share" (spF w_need_share) [] := by
  obtain ⟨f, fd, F, hm⟩ := T.fn 6 rfl
  refine mk_F F hm sc_need_share (fun _ _ _ _ _ _ us hl => match us, hl with | [_], _ => rfl) len_need_share fun cdv A outer s H E hr => ?_
  have nd : N_need_share.Nodup := sc_need_share.nd
  refine ⟨_, (b_one (t_if (q_not (q_val (p_c c_is_share hr (by decide) (a_cons (pv_ 0) a_nil)))) b_never b_nil)), ?_⟩
  intro ds k hw
  obtain ⟨x, rfl, hx, hk⟩ := hw
  refine rho_of [.dat (frD x)] rfl ?_
  walk_at "ck"
  refine ⟨x, rfl, hx, ?_⟩
  walk_at "ck"
  exact hk
def N_fraction : List Str := ["above", "below", "divisor"]
theorem sc_fraction : FnScope N_fraction ["above", "below"] (defScope (top 22)) := ⟨rfl, rfl, rfl, by decide +kernel, rfl, by decide +kernel, by decide +kernel⟩
theorem ok_fraction (T : Txt K mg) : Cal P w K mg base 1 "fraction" (spF w_fraction) [] := by
  obtain ⟨f, fd, F, hm⟩ := T.fn 7 rfl
  refine mk_F F hm sc_fraction (fun _ _ _ _ _ _ us hl => match us, hl with | [_, _], _ => rfl) len_fraction fun cdv A outer s H E hr => ?_
  have nd : N_fraction.Nodup := sc_fraction.nd
  refine ⟨_, (b_cons (t_if (q_eq hr (pv_ 1) p_int) b_never b_nil)
  (b_cons (t_set 2 nd (p_gcd T.gcd_ (a_cons (pv_ 0) (a_cons (pv_ 1) a_nil))))
  (b_cons (t_if (q_lt (pv_ 1) p_int) (b_one (t_set 2 nd (p_neg (pv_ 2)))) b_nil)
  (b_one (t_ret (p_tup (a_cons (p_div (pv_ 0) (pv_ 2)) (a_cons (p_div (pv_ 1) (pv_ 2)) a_nil)))))))), ?_⟩
  intro ds k hw
  obtain ⟨a, b, rfl, hb, hz, hk⟩ := hw
  refine rho_of [.dat (.int a), .dat (.int b), .unk] rfl ?_
  walk_at "ck"
  have g := gpos (a := a) hb
  have gl := log2_lt (fracM_d (a := a) hb hz) (by decide)
  refine r_int2C ⟨g, by omega⟩ ?_
  walk_at "ck"
  refine r_int2C ⟨g, by omega⟩ ?_
  walk_at "ck"
  exact ⟨_, rfl, hk⟩
def N_plus : List Str := ["one", "other"]
theorem sc_plus : FnScope N_plus ["one", "other"] (defScope (top 23)) := ⟨rfl, rfl, rfl, by decide +kernel, rfl, by decide +kernel, by decide +kernel⟩
theorem ok_plus (T : Txt K mg) (c_fraction : Cal P w K mg base 1 "fraction" (spF w_fraction) []) (c_need_fraction : Cal P w K mg base 3 "need_fraction" (spF w_need_fraction) []) : Cal P w K mg base 4 "plus" (spF w_plus) [] := by
  obtain ⟨f, fd, F, hm⟩ := T.fn 8 rfl
  refine mk_F F hm sc_plus (fun _ _ _ _ _ _ us hl => match us, hl with | [_, _], _ => rfl) len_plus fun cdv A outer s H E hr => ?_
  have nd : N_plus.Nodup := sc_plus.nd
  refine ⟨_, (b_cons (t_expr (p_c c_need_fraction hr (by decide) (a_cons (pv_ 0) a_nil)))
  (b_cons (t_expr (p_c c_need_fraction hr (by decide) (a_cons (pv_ 1) a_nil)))
  (b_one (t_ret (p_c c_fraction hr (by decide) (a_cons (p_add (p_mul (p_ixn 0 p_int) (p_ixn 1 p_int)) (p_mul (p_ixn 1 p_int) (p_ixn 0 p_int))) (a_cons (p_mul (p_ixn 0 p_int) (p_ixn 1 p_int)) a_nil))))))), ?_⟩
  intro ds k hw
  obtain ⟨x, y, rfl, hx, hy, hk⟩ := hw
  refine rho_of [.dat (frD x), .dat (frD y)] rfl ?_
  walk_at "ck"
  refine ⟨x, rfl, hx, ?_⟩
  walk_at "ck"
  refine ⟨y, rfl, hy, ?_⟩
  walk_at "ck"
  refine r_int2C (hx.mul hy).2.1 ?_
  walk_at "ck"
  refine r_int2C (hy.mul hx).2.1 ?_
  walk_at "ck"
  refine r_int2C (hx.mul hy).2.2 ?_
  walk_at "ck"
  refine ⟨_, _, rfl, (hx.dd hy).1, Nat.lt_of_lt_of_le (hx.dd hy).2 (Nat.pow_le_pow_right (by decide) (by decide)), _, rfl, hk⟩
def N_less : List Str := ["one", "other"]
theorem sc_less : FnScope N_less ["one", "other"] (defScope (top 24)) := ⟨rfl, rfl, rfl, by decide +kernel, rfl, by decide +kernel, by decide +kernel⟩
theorem ok_less (T : Txt K mg) (c_fraction : Cal P w K mg base 1 "fraction" (spF w_fraction) []) (c_need_fraction : Cal P w K mg base 3 "need_fraction" (spF w_need_fraction) []) : Cal P w K mg base 4 "less" (spF w_less) [] := by
  obtain ⟨f, fd, F, hm⟩ := T.fn 9 rfl
  refine mk_F F hm sc_less (fun _ _ _ _ _ _ us hl => match us, hl with | [_, _], _ => rfl) len_less fun cdv A outer s H E hr => ?_
  have nd : N_less.Nodup := sc_less.nd
  refine ⟨_, (b_cons (t_expr (p_c c_need_fraction hr (by decide) (a_cons (pv_ 0) a_nil)))
  (b_cons (t_expr (p_c c_need_fraction hr (by decide) (a_cons (pv_ 1) a_nil)))
  (b_one (t_ret (p_c c_fraction hr (by decide) (a_cons (p_sub (p_mul (p_ixn 0 p_int) (p_ixn 1 p_int)) (p_mul (p_ixn 1 p_int) (p_ixn 0 p_int))) (a_cons (p_mul (p_ixn 0 p_int) (p_ixn 1 p_int)) a_nil))))))), ?_⟩
  intro ds k hw
  obtain ⟨x, y, rfl, hx, hy, hk⟩ := hw
  refine rho_of [.dat (frD x), .dat (frD y)] rfl ?_
  walk_at "ck"
  refine ⟨x, rfl, hx, ?_⟩
  walk_at "ck"
  refine ⟨y, rfl, hy, ?_⟩
  walk_at "ck"
  refine r_int2C (hx.mul hy).2.1 ?_
  walk_at "ck"
  refine r_int2C (hy.mul hx).2.1 ?_
  walk_at "ck"
  refine r_int2C (hx.mul hy).2.2 ?_
  walk_at "ck"
  refine ⟨_, _, rfl, (hx.dd hy).1, Nat.lt_of_lt_of_le (hx.dd hy).2 (Nat.pow_le_pow_right (by decide) (by decide)), _, rfl, hk⟩
def N_times : List Str := ["one", "other"]
theorem sc_times : FnScope N_times ["one", "other"] (defScope (top 25)) := ⟨rfl, rfl, rfl, by decide +kernel, rfl, by decide +kernel, by decide +kernel⟩
theorem ok_times (T : Txt K mg) (c_fraction : Cal P w K mg base 1 "fraction" (spF w_fraction) []) (c_need_fraction : Cal P w K mg base 3 "need_fraction" (spF w_need_fraction) []) : Cal P w K mg base 4 "times" (spF w_times) [] := by
  obtain ⟨f, fd, F, hm⟩ := T.fn 10 rfl
  refine mk_F F hm sc_times (fun _ _ _ _ _ _ us hl => match us, hl with | [_, _], _ => rfl) len_times fun cdv A outer s H E hr => ?_
  have nd : N_times.Nodup := sc_times.nd
  refine ⟨_, (b_cons (t_expr (p_c c_need_fraction hr (by decide) (a_cons (pv_ 0) a_nil)))
  (b_cons (t_expr (p_c c_need_fraction hr (by decide) (a_cons (pv_ 1) a_nil)))
  (b_one (t_ret (p_c c_fraction hr (by decide) (a_cons (p_mul (p_ixn 0 p_int) (p_ixn 1 p_int)) (a_cons (p_mul (p_ixn 0 p_int) (p_ixn 1 p_int)) a_nil))))))), ?_⟩
  intro ds k hw
  obtain ⟨x, y, rfl, hx, hy, hk⟩ := hw
  refine rho_of [.dat (frD x), .dat (frD y)] rfl ?_
  walk_at "ck"
  refine ⟨x, rfl, hx, ?_⟩
  walk_at "ck"
  refine ⟨y, rfl, hy, ?_⟩
  walk_at "ck"
  refine r_int2C (hx.mul hy).1 ?_
  walk_at "ck"
  refine r_int2C (hx.mul hy).2.2 ?_
  walk_at "ck"
  refine ⟨_, _, rfl, (hx.dd hy).1, Nat.lt_of_lt_of_le (hx.dd hy).2 (Nat.pow_le_pow_right (by decide) (by decide)), _, rfl, hk⟩
def N_compared : List Str := ["one", "other", "first", "second"]
theorem sc_compared : FnScope N_compared ["one", "other"] (defScope (top 26)) := ⟨rfl, rfl, rfl, by decide +kernel, rfl, by decide +kernel, by decide +kernel⟩
theorem ok_compared (T : Txt K mg) (c_need_fraction : Cal P w K mg base 3 "need_fraction" (spF w_need_fraction) []) : Cal P w K mg base 4 "compared" (spF w_compared) [] := by
  obtain ⟨f, fd, F, hm⟩ := T.fn 11 rfl
  refine mk_F F hm sc_compared (fun _ _ _ _ _ _ us hl => match us, hl with | [_, _], _ => rfl) len_compared fun cdv A outer s H E hr => ?_
  have nd : N_compared.Nodup := sc_compared.nd
  refine ⟨_, (b_cons (t_expr (p_c c_need_fraction hr (by decide) (a_cons (pv_ 0) a_nil)))
  (b_cons (t_expr (p_c c_need_fraction hr (by decide) (a_cons (pv_ 1) a_nil)))
  (b_cons (t_set 2 nd (p_mul (p_ixn 0 p_int) (p_ixn 1 p_int)))
  (b_cons (t_set 3 nd (p_mul (p_ixn 1 p_int) (p_ixn 0 p_int)))
  (b_one (t_ret (p_sub (p_intc T.int_ (a_cons (p_gt (pv_ 2) (pv_ 3)) a_nil)) (p_intc T.int_ (a_cons (p_lt (pv_ 2) (pv_ 3)) a_nil))))))))), ?_⟩
  intro ds k hw
  obtain ⟨x, y, rfl, hx, hy, hk⟩ := hw
  refine rho_of [.dat (frD x), .dat (frD y), .unk, .unk] rfl ?_
  walk_at "ck"
  refine ⟨x, rfl, hx, ?_⟩
  walk_at "ck"
  refine ⟨y, rfl, hy, ?_⟩
  walk_at "ck"
  refine r_int2C (hx.mul hy).2.1 ?_
  walk_at "ck"
  refine r_int2C (hy.mul hx).2.1 ?_
  walk_at "ck"
  refine ⟨_, rfl, ?_⟩
  simp only [decide_eq_true_eq]
  exact hk
end
end CK
set_option Elab.async false
set_option linter.all false
set_option maxRecDepth 100000
set_option maxHeartbeats 4000000
namespace CK
open PySem PySem.Spec PyProof.Rows L2
open Evl (Ex ex_l ex_t fresh_back)
open C8 (Cal pe_c)
abbrev cellD (c : List Fill) : PD := .tuple (c.map fillD)
def IsIn (Ks : List Str) (N : Int) (f : Fill) : Prop := ∀ e, e ∈ f → e.1 ∈ Ks ∧ IsOf N (qv e.2)
def w_is_fill : WDA := fun ds k => ∃ f, ds = [fillD f] ∧ FillOk f ∧ k (.bool true)
def w_need_fill : WDA := fun ds k => ∃ f, ds = [fillD f] ∧ FillOk f ∧ k .none
def w_is_cellar : WDA := fun ds k => ∃ c, ds = [cellD c] ∧ CellOk c ∧ k (.bool true)
def w_need_cellar : WDA := fun ds k => ∃ c, ds = [cellD c] ∧ CellOk c ∧ k .none
def w_amount : WDA := fun ds k => ∃ f z, ds = [fillD f, .str z] ∧ FillOk f ∧ KindOk z ∧ k (frD (amt f z))
def w_together : WDA := fun ds k => ∃ (fs : List Fill) (Ks : List Str) (N M : Int), ds = [.list (fs.map fillD)] ∧ (∀ f, f ∈ fs → FillOk f ∧ IsIn Ks N f) ∧ (∀ k, val fs.flatten k ≤ (M : Rat)) ∧ Lim N M ∧ Ks.length < 64 ∧ fs.length ≤ 1000 ∧ ∀ r, FillOk r → FillIn Ks N M r → (∀ k, val r k = val fs.flatten k) → k (fillD r)
def w_part : WDA := fun ds k => ∃ (f : Fill) (s : Fr) (Ks : List Str) (N M : Int), ds = [fillD f, frD s] ∧ FillOk f ∧ FillIn Ks N M f ∧ ShOk s ∧ Lim (N * s.2) M ∧ ∀ r, FillOk r → FillIn Ks (N * s.2) M r → (∀ k, val r k = val f k * qv s) → k (fillD r)
def w_rest : WDA := fun ds k => ∃ (f o : Fill) (Ks : List Str) (N M : Int), ds = [fillD f, fillD o] ∧ FillOk f ∧ FillOk o ∧ FillIn Ks N M f ∧ FillIn Ks N M o ∧ Lim N M ∧ (∀ k, val o k ≤ val f k) ∧ ∀ r, FillOk r → FillIn Ks N M r → (∀ k, val r k = val f k - val o k) → k (fillD r)
theorem str_inj {f : Fill} (h : Asc f) : (f.map fun e => PyData.str e.1).Pairwise fun a b => ∃ x y, a = .str x ∧ b = .str y ∧ kcp x < kcp y := by
  rw [List.pairwise_map]
  exact h.imp fun {a b} q => ⟨_, _, rfl, rfl, q⟩
theorem len_is_fill (ds : List PD) (k : PD → Prop) (h : w_is_fill ds k) : ds.length = 1 := by obtain ⟨_, rfl, _⟩ := h; rfl
theorem len_need_fill (ds : List PD) (k : PD → Prop) (h : w_need_fill ds k) : ds.length = 1 := by obtain ⟨_, rfl, _⟩ := h; rfl
theorem len_is_cellar (ds : List PD) (k : PD → Prop) (h : w_is_cellar ds k) : ds.length = 1 := by obtain ⟨_, rfl, _⟩ := h; rfl
theorem len_need_cellar (ds : List PD) (k : PD → Prop) (h : w_need_cellar ds k) : ds.length = 1 := by obtain ⟨_, rfl, _⟩ := h; rfl
theorem len_amount (ds : List PD) (k : PD → Prop) (h : w_amount ds k) : ds.length = 2 := by obtain ⟨_, _, rfl, _⟩ := h; rfl
theorem len_together (ds : List PD) (k : PD → Prop) (h : w_together ds k) : ds.length = 1 := by obtain ⟨_, _, _, _, rfl, _⟩ := h; rfl
theorem len_part (ds : List PD) (k : PD → Prop) (h : w_part ds k) : ds.length = 2 := by obtain ⟨_, _, _, _, _, rfl, _⟩ := h; rfl
theorem len_rest (ds : List PD) (k : PD → Prop) (h : w_rest ds k) : ds.length = 2 := by obtain ⟨_, _, _, _, _, rfl, _⟩ := h; rfl
local macro_rules | `(tactic| walk_at "ck") => `(tactic| repeat (first
  | (with_reducible refine r_seq ?_)
  | (with_reducible refine r_next ?_)
  | (with_reducible refine r_ret ?_)
  | (with_reducible refine r_set ?_)
  | (with_reducible refine r_ifs ?_)
  | (with_reducible refine r_drop ?_)
  | (with_reducible refine r_B ?_)
  | (with_reducible refine r_boolK ?_)
  | (with_reducible refine r_op ?_)
  | (with_reducible refine r_c ?_)
  | (with_reducible refine r_call ?_)
  | (with_reducible refine r_cons ?_)
  | (with_reducible refine r_nil ?_)
  | (with_reducible refine r_intK ?_)
  | ((with_reducible refine' r_var ?e ?_); (case e => exact rfl))
  | ((with_reducible refine' r_ixT ?e ?_); (case e => exact rfl))
  | ((with_reducible refine' r_loT ?e ?_); (case e => exact rfl))
  | ((with_reducible refine' r_ixK ?e ?_); (case e => exact rfl))
  | (with_reducible refine r_eqI ?_)
  | (with_reducible refine r_neI ?_)
  | (with_reducible refine r_int2 ?_)
  | (with_reducible refine r_eqS ?_)
  | (with_reducible refine r_or ?_)
  | (with_reducible refine r_not ?_)
  | (with_reducible refine r_andV ?_)
  | (with_reducible refine r_tup ?_)
  | (with_reducible refine r_len2 ?_)
  | (with_reducible refine r_len0 ?_)
  | (with_reducible refine br_T ?_)
  | (with_reducible refine r_is ?_)
  | (with_reducible refine r_is5 ?_)
  | (with_reducible refine r_chain ?_)
  | (with_reducible refine r_lenT ?_)
  | (with_reducible refine r_lstK ?_)
  | (with_reducible refine r_tupK ?_)
  | ((with_reducible refine' r_wixT ?e ?_); (case e => exact rfl))
  | (with_reducible refine r_tuple ?_)
  | (with_reducible refine r_for ?_)
  | (with_reducible refine r_itL ?_)
  | (with_reducible refine r_itT ?_)
  | (with_reducible refine r_zip ?_)
  | (with_reducible refine r_slF ?_)
  | (with_reducible refine r_gN ?_)
  | (with_reducible refine r_gP ?_)
  | (with_reducible refine r_yes ?_)
  | (with_reducible refine r_lcv ?_)
  | (with_reducible refine r_setD ?_)
  | (with_reducible refine r_ltS ?_)
  | (with_reducible refine r_putD ?_)
  | (with_reducible refine r_sortS ?_)
  | ((with_reducible refine' r_dicT ?e ?_); (case e => exact rfl))
  | ((with_reducible refine' r_get2 ?e ?_); (case e => exact rfl))
  | ((with_reducible refine' r_getD ?e ?_); (case e => exact rfl))
  | ((with_reducible refine' r_dic ?e ?_); (case e => exact rfl))
  | (with_reducible refine r_keyS ?_)
  | (with_reducible refine br_nT ?_)
  | (with_reducible refine br_dt (by first | omega | assumption | (with_unfolding_all rfl) | (simp only [List.length_cons, List.length_nil]; omega) | decide +kernel) ?_)
  | (with_reducible refine br_df (by first | omega | assumption | (with_unfolding_all rfl) | (simp only [List.length_cons, List.length_nil]; omega) | decide +kernel) ?_)
  | (with_reducible refine br_nf (by first | omega | assumption | (with_unfolding_all rfl) | (simp only [List.length_cons, List.length_nil]; omega) | decide +kernel) ?_)))
section
variable {P : Program} {w : World} {K : PySem.W.Frag} {mg : Str → Option Value} {base : Heap}
def N_is_fill : List Str := ["value", "entry", "kinds", "one", "other"]
theorem sc_is_fill : FnScope N_is_fill ["value"] (defScope (top 28)) := ⟨rfl, rfl, rfl, by decide +kernel, rfl, by decide +kernel, by decide +kernel⟩
theorem ok_is_fill (T : Txt K mg) (c_is_fraction : Cal P w K mg base 2 "is_fraction" (spF w_is_fraction) []) (c_is_kind : Cal P w K mg base 1 "is_kind" (spF w_is_kind) []) : Cal P w K mg base 3 "is_fill" (spF w_is_fill) [] := by
  obtain ⟨f, fd, F, hm⟩ := T.fn 12 rfl
  refine mk_F F hm sc_is_fill (fun _ _ _ _ _ _ us hl => match us, hl with | [_], _ => rfl) len_is_fill fun cdv A outer s H E hr => ?_
  have nd : N_is_fill.Nodup := sc_is_fill.nd
  refine ⟨_, (b_cons (t_if (q_not (q_val (p_is (T := "tuple") T.isinstance_ T.tuple_ (pv_ 0) (by decide +kernel)))) (b_one (t_ret p_bl)) b_nil)
  (b_cons (t_for PassesOwn.never rfl (i_tup (pv_ 0)) (v_name 1 nd)
  (b_cons (t_if (q_pw (q_or (q_not (q_val (p_is (T := "tuple") T.isinstance_ T.tuple_ (pv_ 1) (by decide +kernel)))) (q_or (q_ne hr (p_len T.len_ (a_cons (pv_ 1) a_nil)) p_int) (q_or1 (q_not (q_val (p_c c_is_kind hr (by decide) (a_cons (p_ixn 1 p_int) a_nil)))))))) (b_one (t_ret p_bl)) b_nil)
  (b_one (t_if (q_pw (q_or (q_not (q_val (p_c c_is_fraction hr (by decide) (a_cons (p_ixn 1 p_int) a_nil)))) (q_or1 (q_le (p_ix (p_ixn 1 p_int) p_int) p_int)))) (b_one (t_ret p_bl)) b_nil))))
  (b_cons (t_setLc 2 rfl nd (i_tup (pv_ 0)) (blkOk_by (N := N_is_fill) (sc := defScope (top 28)) (own := [("entry", 1)]) (by decide +kernel)) rfl (fun _ _ _ _ _ => (v_name 1 nd)) (fun _ _ _ _ _ => ts_nil) (fun _ _ _ _ _ => (p_ixn 1 p_int)))
  (b_one (t_ret (p_all rfl T.all_ (a_cons (p_lc rfl nd (i_zip T.zip_ (pv_ 2) (p_slF (pv_ 2))) (blkOk_by (N := N_is_fill) (sc := defScope (top 28)) (own := [("one", 3), ("other", 4)]) (by decide +kernel)) rfl (fun _ _ _ _ _ => (v_pair 3 4 rfl nd)) (fun _ _ _ _ _ => ts_nil) (fun _ _ _ _ _ => (p_ltS (pv_ 3) (pv_ 4)))) a_nil))))))), ?_⟩
  intro ds k hw
  obtain ⟨f, rfl, hf, hk⟩ := hw
  have hl := hf.len
  refine rho_of [.dat (fillD f), .unk, .unk, .unk, .unk] rfl ?_
  walk_at "ck"
  refine for_map entD (fun _ ρ => ∃ e, ρ = [.dat (fillD f), e, .unk, .unk, .unk]) f ⟨_, rfl⟩ (fun i e ρ nx' hi hI hn => ?_) (fun ρ hI => ?_)
  · obtain ⟨e0, rfl⟩ := hI
    have he := hf.ent e (List.mem_of_getElem? hi)
    have hp := he.pos
    walk_at "ck"
    refine ⟨_, rfl, he.kind, ?_⟩
    walk_at "ck"
    refine ⟨_, rfl, he.fr, ?_⟩
    walk_at "ck"
    exact hn _ ⟨_, rfl⟩
  · obtain ⟨e0, rfl⟩ := hI
    walk_at "ck"
    refine lc_map entD (fun e => .str e.1) f [] (by show f.length + 0 ≤ _; omega) (fun e he k k0 hb => ?_) ?_
    · walk_at "ck"
      exact hb
    walk_at "ck"
    rw [List.nil_append, cut1]
    refine lcW_fm (fun _ => true) (fun _ => .bool true) _ [] (by have := zip_len (xs := f.map fun e => PyData.str e.1); rw [List.length_map] at this; show _ + 0 ≤ _; omega) (fun x hx k k0 hb => ?_) ?_
    · obtain ⟨a, b, rfl, x, y, rfl, rfl, hlt⟩ := zip_next (str_inj hf.asc) _ hx
      walk_at "ck"
      have e : decide (x.cps.toList < y.cps.toList) = true := decide_eq_true hlt
      rw [e]
      exact hb.t
    · walk_at "ck"
      exact wAll_fm (fun _ _ => rfl) ⟨_, rfl, hk⟩
def N_is_cellar : List Str := ["value", "fill"]
theorem sc_is_cellar : FnScope N_is_cellar ["value"] (defScope (top 29)) := ⟨rfl, rfl, rfl, by decide +kernel, rfl, by decide +kernel, by decide +kernel⟩
theorem ok_is_cellar (T : Txt K mg) (c_is_fill : Cal P w K mg base 3 "is_fill" (spF w_is_fill) []) : Cal P w K mg base 4 "is_cellar" (spF w_is_cellar) [] := by
  obtain ⟨f, fd, F, hm⟩ := T.fn 13 rfl
  refine mk_F F hm sc_is_cellar (fun _ _ _ _ _ _ us hl => match us, hl with | [_], _ => rfl) len_is_cellar fun cdv A outer s H E hr => ?_
  have nd : N_is_cellar.Nodup := sc_is_cellar.nd
  refine ⟨_, (b_one (t_ret (p_and (p_is (T := "tuple") T.isinstance_ T.tuple_ (pv_ 0) (by decide +kernel)) (p_and (p_chain op_le s_le op_le s_le p_int (p_len T.len_ (a_cons (pv_ 0) a_nil)) p_int) (p_one (p_all rfl T.all_ (a_cons (p_lc rfl nd (i_tup (pv_ 0)) (blkOk_by (N := N_is_cellar) (sc := defScope (top 29)) (own := [("fill", 1)]) (by decide +kernel)) rfl (fun _ _ _ _ _ => (v_name 1 nd)) (fun _ _ _ _ _ => ts_nil) (fun _ _ _ _ _ => (p_c c_is_fill hr (by decide) (a_cons (pv_ 1) a_nil)))) a_nil))))))), ?_⟩
  intro ds k hw
  obtain ⟨c, rfl, hc, hk⟩ := hw
  have h1 := hc.lo
  have h2 := hc.hi
  refine rho_of [.dat (cellD c), .unk] rfl ?_
  walk_at "ck"
  simp only [List.length_map]
  walk_at "ck"
  refine lc_map fillD (fun _ => .bool true) c [] (by show c.length + 0 ≤ _; omega) (fun f hf k k0 hb => ?_) ?_
  · walk_at "ck"
    refine ⟨f, rfl, hc.fill f hf, ?_⟩
    exact hb
  · walk_at "ck"
    exact wAll_map (fun _ _ => rfl) ⟨_, rfl, hk⟩
def N_need_fill : List Str := ["fill"]
theorem sc_need_fill : FnScope N_need_fill ["fill"] (defScope (top 30)) := ⟨rfl, rfl, rfl, by decide +kernel, rfl, by decide +kernel, by decide +kernel⟩
theorem ok_need_fill (T : Txt K mg) (c_is_fill : Cal P w K mg base 3 "is_fill" (spF w_is_fill) []) : Cal P w K mg base 4 "need_fill" (spF w_need_fill) [] := by
  obtain ⟨f, fd, F, hm⟩ := T.fn 14 rfl
  refine mk_F F hm sc_need_fill (fun _ _ _ _ _ _ us hl => match us, hl with | [_], _ => rfl) len_need_fill fun cdv A outer s H E hr => ?_
  have nd : N_need_fill.Nodup := sc_need_fill.nd
  refine ⟨_, (b_one (t_if (q_not (q_val (p_c c_is_fill hr (by decide) (a_cons (pv_ 0) a_nil)))) b_never b_nil)), ?_⟩
  intro ds k hw
  obtain ⟨f, rfl, hf, hk⟩ := hw
  refine rho_of [.dat (fillD f)] rfl ?_
  walk_at "ck"
  refine ⟨_, rfl, hf, ?_⟩
  walk_at "ck"
  exact hk
def N_need_cellar : List Str := ["cellar"]
theorem sc_need_cellar : FnScope N_need_cellar ["cellar"] (defScope (top 31)) := ⟨rfl, rfl, rfl, by decide +kernel, rfl, by decide +kernel, by decide +kernel⟩
theorem ok_need_cellar (T : Txt K mg) (c_is_cellar : Cal P w K mg base 4 "is_cellar" (spF w_is_cellar) []) : Cal P w K mg base 5 "need_cellar" (spF w_need_cellar) [] := by
  obtain ⟨f, fd, F, hm⟩ := T.fn 15 rfl
  refine mk_F F hm sc_need_cellar (fun _ _ _ _ _ _ us hl => match us, hl with | [_], _ => rfl) len_need_cellar fun cdv A outer s H E hr => ?_
  have nd : N_need_cellar.Nodup := sc_need_cellar.nd
  refine ⟨_, (b_one (t_if (q_not (q_val (p_c c_is_cellar hr (by decide) (a_cons (pv_ 0) a_nil)))) b_never b_nil)), ?_⟩
  intro ds k hw
  obtain ⟨c, rfl, hc, hk⟩ := hw
  refine rho_of [.dat (cellD c)] rfl ?_
  walk_at "ck"
  refine ⟨_, rfl, hc, ?_⟩
  walk_at "ck"
  exact hk
def N_amount : List Str := ["fill", "kind", "name", "much"]
theorem sc_amount : FnScope N_amount ["fill", "kind"] (defScope (top 32)) := ⟨rfl, rfl, rfl, by decide +kernel, rfl, by decide +kernel, by decide +kernel⟩
theorem ok_amount (T : Txt K mg) (c_need_fill : Cal P w K mg base 4 "need_fill" (spF w_need_fill) []) (c_need_kind : Cal P w K mg base 2 "need_kind" (spF w_need_kind) []) : Cal P w K mg base 5 "amount" (spF w_amount) [] := by
  obtain ⟨f, fd, F, hm⟩ := T.fn 16 rfl
  refine mk_F F hm sc_amount (fun _ _ _ _ _ _ us hl => match us, hl with | [_, _], _ => rfl) len_amount fun cdv A outer s H E hr => ?_
  have nd : N_amount.Nodup := sc_amount.nd
  refine ⟨_, (b_cons (t_expr (p_c c_need_fill hr (by decide) (a_cons (pv_ 0) a_nil)))
  (b_cons (t_expr (p_c c_need_kind hr (by decide) (a_cons (pv_ 1) a_nil)))
  (b_cons (t_for PassesOwn.never rfl (i_tup (pv_ 0)) (v_pair 2 3 rfl nd)
  (b_one (t_if (q_eq hr (pv_ 2) (pv_ 1)) (b_one (t_ret (pv_ 3))) b_nil)))
  (b_one (t_ret (p_tup (a_cons p_int (a_cons p_int a_nil)))))))), ?_⟩
  intro ds k hw
  obtain ⟨f, z, rfl, hf, hz, hk⟩ := hw
  refine rho_of [.dat (fillD f), .dat (.str z), .unk, .unk] rfl ?_
  walk_at "ck"
  refine ⟨f, rfl, hf, ?_⟩
  walk_at "ck"
  refine ⟨z, rfl, hz, ?_⟩
  walk_at "ck"
  refine for_map entD (fun i ρ => (∃ a b, ρ = [.dat (fillD f), .dat (.str z), a, b]) ∧ amt f z = amt (f.drop i) z) f ⟨⟨_, _, rfl⟩, rfl⟩ (fun i e ρ nx' hi hI hn => ?_) (fun ρ hI => ?_)
  · obtain ⟨⟨a, b, rfl⟩, ha⟩ := hI
    have hd : f.drop i = e :: f.drop (i + 1) := by
      obtain ⟨h1, h2⟩ := List.getElem?_eq_some_iff.mp hi
      rw [List.drop_eq_getElem_cons h1, h2]
    rw [hd] at ha
    walk_at "ck"
    refine br_2 (fun q => ?_) (fun q => ?_)
    · walk_at "ck"
      refine ⟨_, rfl, ?_⟩
      have ha : amt f z = if e.1 = z then e.2 else amt (f.drop (i + 1)) z := ha
      rw [if_pos q] at ha
      rw [← ha]
      exact hk
    · walk_at "ck"
      have ha : amt f z = if e.1 = z then e.2 else amt (f.drop (i + 1)) z := ha
      rw [if_neg q] at ha
      exact hn _ ⟨⟨_, _, rfl⟩, ha⟩
  · obtain ⟨⟨a, b, rfl⟩, ha⟩ := hI
    rw [List.drop_length] at ha
    walk_at "ck"
    refine ⟨_, rfl, ?_⟩
    rw [ha] at hk
    exact hk
def N_together : List Str := ["fills", "fill", "totals", "kind", "much"]
theorem sc_together : FnScope N_together ["fills"] (defScope (top 33)) := ⟨rfl, rfl, rfl, by decide +kernel, rfl, by decide +kernel, by decide +kernel⟩
theorem ok_together (T : Txt K mg) (c_need_fill : Cal P w K mg base 4 "need_fill" (spF w_need_fill) []) (c_plus : Cal P w K mg base 4 "plus" (spF w_plus) []) : Cal P w K mg base 5 "together" (spF w_together) [] := by
  obtain ⟨f, fd, F, hm⟩ := T.fn 17 rfl
  refine mk_F F hm sc_together (fun _ _ _ _ _ _ us hl => match us, hl with | [_], _ => rfl) len_together fun cdv A outer s H E hr => ?_
  have nd : N_together.Nodup := sc_together.nd
  refine ⟨_, (b_cons (t_for PassesOwn.never rfl (i_list (pv_ 0)) (v_name 1 nd)
  (b_one (t_expr (p_c c_need_fill hr (by decide) (a_cons (pv_ 1) a_nil)))))
  (b_cons (t_setD 2 nd d_new)
  (b_cons (t_for PassesOwn.never rfl (i_list (pv_ 0)) (v_name 1 nd)
  (b_one (t_for PassesOwn.never rfl (i_tup (pv_ 1)) (v_pair 3 4 rfl nd)
  (b_one (t_putD 2 hr (p_c c_plus hr (by decide) (a_cons (p_get2 2 hr (pv_ 3) (p_tup (a_cons p_int (a_cons p_int a_nil))) ⟨rfl, rfl, rfl, rfl⟩) (a_cons (pv_ 4) a_nil))) (pv_ 3))))))
  (b_one (t_ret (p_tuple T.tuple_ (a_cons (p_lc rfl nd (i_list (p_sortedDS 2 T.sorted_)) (blkOk_by (N := N_together) (sc := defScope (top 33)) (own := [("kind", 3)]) (by decide +kernel)) rfl (fun _ _ _ _ _ => (v_name 3 nd)) (fun _ _ _ _ _ => ts_nil) (fun _ _ _ _ _ => (p_tup (a_cons (pv_ 3) (a_cons (p_getD 2 hr (pv_ 3)) a_nil))))) a_nil))))))), ?_⟩
  intro ds k hw
  obtain ⟨fs, Ks, N, M, rfl, hfs, hM, L, hKs, hlen, hk⟩ := hw
  refine rho_of [.dat (.list (fs.map fillD)), .unk, .unk, .unk, .unk] rfl ?_
  walk_at "ck"
  refine for_map fillD (fun i ρ => ∃ a, ρ = [.dat (.list (fs.map fillD)), a, .unk, .unk, .unk]) fs ⟨_, rfl⟩ (fun i f ρ nx' hi hI hn => ?_) (fun ρ hI => ?_)
  · obtain ⟨a, rfl⟩ := hI
    walk_at "ck"
    refine ⟨f, rfl, (hfs f (List.mem_of_getElem? hi)).1, ?_⟩
    exact hn _ ⟨_, rfl⟩
  obtain ⟨a, rfl⟩ := hI
  walk_at "ck"
  refine for_map fillD (fun i ρ => ∃ tot a b c, ρ = [.dat (.list (fs.map fillD)), a, .dic (totD tot), b, c] ∧ TotOk Ks N tot (fs.take i).flatten) fs ⟨[], _, _, _, rfl, TotOk.nil⟩ (fun i f ρ nx' hi hI hn => ?_) (fun ρ hI => ?_)
  · obtain ⟨tot, a, b, c, rfl, ht⟩ := hI
    obtain ⟨hf, hin⟩ := hfs f (List.mem_of_getElem? hi)
    have hpre : ∀ j k, val ((fs.take i).flatten ++ f.take j) k ≤ (M : Rat) := fun j k => by
      have h1 := val_flatten_le (fun f hf => (hfs f hf).1) k (i + 1)
      rw [List.take_add_one, hi, List.flatten_append, val_append] at h1
      have h2 : val (Option.some f).toList.flatten k = val f k := by
        show val (f ++ []) k = _
        rw [List.append_nil]
      rw [h2] at h1
      have h3 : val f k = val (f.take j) k + val (f.drop j) k := by rw [← val_append, List.take_append_drop]
      have h4 : 0 ≤ val (f.drop j) k := val_nonneg (fun x hx => Rat.le_of_lt (hf.ent x (List.mem_of_mem_drop hx)).qpos) k
      rw [val_append]
      have h5 := hM k
      grind
    walk_at "ck"
    refine for_map entD (fun j ρ => ∃ tot b c, ρ = [.dat (.list (fs.map fillD)), .dat (fillD f), .dic (totD tot), b, c] ∧ TotOk Ks N tot ((fs.take i).flatten ++ f.take j)) f ⟨tot, _, _, rfl, by rw [List.take_zero, List.append_nil]; exact ht⟩ (fun j e ρ nx'' hj hJ hn2 => ?_) (fun ρ hJ => ?_)
    · obtain ⟨tot, b, c, rfl, ht⟩ := hJ
      have hm := List.mem_of_getElem? hj
      have he := hf.ent e hm
      walk_at "ck"
      rw [totD_get]
      walk_at "ck"
      refine ⟨amt tot e.1, e.2, rfl, amt_fr ht L (hpre j) e.1, he.fr, ?_⟩
      walk_at "ck"
      refine ⟨?_, ?_⟩
      · rw [List.length_map]
        have := tot_len ht
        omega
      · rw [totD_put ht.nd]
        refine hn2 _ ⟨_, _, _, rfl, ?_⟩
        have ha := ht.add he (hin e hm).1 (hin e hm).2
        rw [List.take_add_one, hj]
        rw [List.append_assoc] at ha
        exact ha
    · obtain ⟨tot, b, c, rfl, ht⟩ := hJ
      rw [List.take_length] at ht
      refine hn _ ⟨tot, _, _, _, rfl, ?_⟩
      rw [List.take_add_one, hi, List.flatten_append]
      show TotOk Ks N tot ((fs.take i).flatten ++ (f ++ []))
      rw [List.append_nil]
      exact ht
  · obtain ⟨tot, a, b, c, rfl, ht⟩ := hI
    rw [List.take_length] at ht
    walk_at "ck"
    refine ⟨tot.map (·.1), totD_keys tot, by rw [List.length_map]; have := tot_len ht; omega, fun ys hp hs => ?_⟩
    have nd : ys.Nodup := hp.nodup_iff.mpr ht.nd
    have asc := sorted_asc hs nd
    obtain ⟨g1, g2, g3⟩ := tot_fill ht L hM hKs hp asc
    have hyl : ys.length ≤ 64 := by
      rw [hp.length_eq, List.length_map]
      have := tot_len ht
      omega
    walk_at "ck"
    refine lc_map PyData.str (fun y => entD (y, amt tot y)) ys [] (by show ys.length + 0 ≤ _; omega) (fun y hy k k0 hb => ?_) ?_
    · walk_at "ck"
      refine ⟨.inr y, frD (amt tot y), rfl, ?_, ?_⟩
      · rw [totD_val, if_pos (hp.mem_iff.mp hy)]
      · walk_at "ck"
        exact hb
    · walk_at "ck"
      refine ⟨_, rfl, ?_⟩
      rw [List.nil_append]
      have h := hk _ g1 g2 g3
      unfold fillD at h
      rw [List.map_map] at h
      exact h
def N_part : List Str := ["fill", "share", "kind", "much"]
theorem sc_part : FnScope N_part ["fill", "share"] (defScope (top 34)) := ⟨rfl, rfl, rfl, by decide +kernel, rfl, by decide +kernel, by decide +kernel⟩
theorem ok_part (T : Txt K mg) (c_need_fill : Cal P w K mg base 4 "need_fill" (spF w_need_fill) []) (c_need_share : Cal P w K mg base 4 "need_share" (spF w_need_share) []) (c_times : Cal P w K mg base 4 "times" (spF w_times) []) : Cal P w K mg base 5 "part" (spF w_part) [] := by
  obtain ⟨f, fd, F, hm⟩ := T.fn 18 rfl
  refine mk_F F hm sc_part (fun _ _ _ _ _ _ us hl => match us, hl with | [_, _], _ => rfl) len_part fun cdv A outer s H E hr => ?_
  have nd : N_part.Nodup := sc_part.nd
  refine ⟨_, (b_cons (t_expr (p_c c_need_fill hr (by decide) (a_cons (pv_ 0) a_nil)))
  (b_cons (t_expr (p_c c_need_share hr (by decide) (a_cons (pv_ 1) a_nil)))
  (b_cons (t_if (q_eq hr (p_ixn 1 p_int) p_int) (b_one (t_ret (p_tup a_nil))) b_nil)
  (b_one (t_ret (p_tuple T.tuple_ (a_cons (p_lc rfl nd (i_tup (pv_ 0)) (blkOk_by (N := N_part) (sc := defScope (top 34)) (own := [("kind", 2), ("much", 3)]) (by decide +kernel)) rfl (fun _ _ _ _ _ => (v_pair 2 3 rfl nd)) (fun _ _ _ _ _ => ts_nil) (fun _ _ _ _ _ => (p_tup (a_cons (pv_ 2) (a_cons (p_c c_times hr (by decide) (a_cons (pv_ 3) (a_cons (pv_ 1) a_nil))) a_nil))))) a_nil))))))), ?_⟩
  intro ds k hw
  obtain ⟨f, s, Ks, N, M, rfl, hf, hi, hs, L, hk⟩ := hw
  have hl := hf.len
  obtain ⟨g1, g2, g3⟩ := part_spec hf hi hs L
  have hk := hk _ g1 g2 g3
  unfold partM at hk
  refine rho_of [.dat (fillD f), .dat (frD s), .unk, .unk] rfl ?_
  walk_at "ck"
  refine ⟨f, rfl, hf, ?_⟩
  walk_at "ck"
  refine ⟨s, rfl, hs, ?_⟩
  walk_at "ck"
  refine br_2 (fun q => ?_) (fun q => ?_)
  · rw [if_pos q] at hk
    walk_at "ck"
    exact ⟨_, rfl, hk⟩
  · rw [if_neg q] at hk
    walk_at "ck"
    refine lc_map entD (fun e => entD (e.1, timesM e.2 s)) f [] (by show f.length + 0 ≤ _; omega) (fun e he k k0 hb => ?_) ?_
    · walk_at "ck"
      refine ⟨e.2, s, rfl, (hf.ent e he).fr, hs.fr, ?_⟩
      walk_at "ck"
      exact hb
    · walk_at "ck"
      refine ⟨_, rfl, ?_⟩
      rw [List.nil_append]
      unfold fillD at hk
      rw [List.map_map] at hk
      exact hk
def N_rest : List Str := ["fill", "other", "kind", "much", "left", "entry"]
theorem sc_rest : FnScope N_rest ["fill", "other"] (defScope (top 35)) := ⟨rfl, rfl, rfl, by decide +kernel, rfl, by decide +kernel, by decide +kernel⟩
theorem ok_rest (T : Txt K mg) (c_amount : Cal P w K mg base 5 "amount" (spF w_amount) []) (c_compared : Cal P w K mg base 4 "compared" (spF w_compared) []) (c_less : Cal P w K mg base 4 "less" (spF w_less) []) (c_need_fill : Cal P w K mg base 4 "need_fill" (spF w_need_fill) []) : Cal P w K mg base 6 "rest" (spF w_rest) [] := by
  obtain ⟨f, fd, F, hm⟩ := T.fn 19 rfl
  refine mk_F F hm sc_rest (fun _ _ _ _ _ _ us hl => match us, hl with | [_, _], _ => rfl) len_rest fun cdv A outer s H E hr => ?_
  have nd : N_rest.Nodup := sc_rest.nd
  refine ⟨_, (b_cons (t_expr (p_c c_need_fill hr (by decide) (a_cons (pv_ 0) a_nil)))
  (b_cons (t_expr (p_c c_need_fill hr (by decide) (a_cons (pv_ 1) a_nil)))
  (b_cons (t_for PassesOwn.never rfl (i_tup (pv_ 1)) (v_pair 2 3 rfl nd)
  (b_one (t_if (q_gt (p_c c_compared hr (by decide) (a_cons (pv_ 3) (a_cons (p_c c_amount hr (by decide) (a_cons (pv_ 0) (a_cons (pv_ 2) a_nil))) a_nil))) p_int) b_never b_nil)))
  (b_cons (t_setLc 4 rfl nd (i_tup (pv_ 0)) (blkOk_by (N := N_rest) (sc := defScope (top 35)) (own := [("kind", 2), ("much", 3)]) (by decide +kernel)) rfl (fun _ _ _ _ _ => (v_pair 2 3 rfl nd)) (fun _ _ _ _ _ => ts_nil) (fun _ _ _ _ _ => (p_tup (a_cons (pv_ 2) (a_cons (p_c c_less hr (by decide) (a_cons (pv_ 3) (a_cons (p_c c_amount hr (by decide) (a_cons (pv_ 1) (a_cons (pv_ 2) a_nil))) a_nil))) a_nil)))))
  (b_one (t_ret (p_tuple T.tuple_ (a_cons (p_lc rfl nd (i_list (pv_ 4)) (blkOk_by (N := N_rest) (sc := defScope (top 35)) (own := [("entry", 5)]) (by decide +kernel)) rfl (fun _ _ _ _ _ => (v_name 5 nd)) (fun _ _ _ _ _ => (ts_one (q_gt (p_ix (p_ixn 5 p_int) p_int) p_int))) (fun _ _ _ _ _ => (pv_ 5))) a_nil)))))))), ?_⟩
  intro ds k hw
  obtain ⟨f, o, Ks, N, M, rfl, hf, ho, hi, hio, L, hle, hk⟩ := hw
  have hl := hf.len
  have hl2 := ho.len
  obtain ⟨g1, g2, g3⟩ := rest_spec hf ho hi hio L hle
  have hk := hk _ g1 g2 g3
  unfold restM at hk
  refine rho_of [.dat (fillD f), .dat (fillD o), .unk, .unk, .unk, .unk] rfl ?_
  walk_at "ck"
  refine ⟨f, rfl, hf, ?_⟩
  walk_at "ck"
  refine ⟨o, rfl, ho, ?_⟩
  walk_at "ck"
  refine for_map entD (fun i ρ => ∃ a b, ρ = [.dat (fillD f), .dat (fillD o), a, b, .unk, .unk]) o ⟨_, _, rfl⟩ (fun i e ρ nx' hi hI hn => ?_) (fun ρ hI => ?_)
  · obtain ⟨a, b, rfl⟩ := hI
    have hm := List.mem_of_getElem? hi
    have he := ho.ent e hm
    walk_at "ck"
    refine ⟨f, e.1, rfl, hf, he.kind, ?_⟩
    walk_at "ck"
    refine ⟨e.2, amt f e.1, rfl, he.fr, amt_ok hf e.1, ?_⟩
    have q : e.2.1 * (amt f e.1).2 ≤ (amt f e.1).1 * e.2.2 := by
      refine (qv_le he.fr.red.pos (amt_ok hf e.1).red.pos).mp ?_
      rw [val_amt hf.asc]
      have h1 := hle e.1
      have h2 := val_mem (f := o) (by
        have := ho.asc
        rw [List.nodup_iff_pairwise_ne, List.pairwise_map]
        exact this.imp fun {a b} q (z : a.1 = b.1) => lt_irrefl_cp _ (by rw [z] at q; exact q)) hm
      rw [h2] at h1
      exact h1
    walk_at "ck"
    exact hn _ ⟨_, _, rfl⟩
  · obtain ⟨a, b, rfl⟩ := hI
    walk_at "ck"
    refine lc_map entD (fun e => entD (e.1, lessM e.2 (amt o e.1))) f [] (by show f.length + 0 ≤ _; omega) (fun e he k k0 hb => ?_) ?_
    · walk_at "ck"
      refine ⟨o, e.1, rfl, ho, (hf.ent e he).kind, ?_⟩
      walk_at "ck"
      refine ⟨e.2, amt o e.1, rfl, (hf.ent e he).fr, amt_ok ho e.1, ?_⟩
      walk_at "ck"
      exact hb
    · walk_at "ck"
      rw [List.nil_append]
      refine (?_ : lcW _ _ _ _ _ (f.map fun e => entD (e.1, lessM e.2 (amt o e.1))) [] _)
      rw [show (f.map fun e => entD (e.1, lessM e.2 (amt o e.1))) = (f.map fun e => (e.1, lessM e.2 (amt o e.1))).map entD by rw [List.map_map]; rfl]
      refine lc_filter entD (fun e => decide (0 < e.2.1)) entD _ [] (by rw [List.length_map]; show f.length + 0 ≤ _; omega) (fun e he k k0 hb => ?_) ?_
      · walk_at "ck"
        exact hb
      · walk_at "ck"
        exact ⟨_, rfl, hk⟩
end
end CK
set_option Elab.async false
set_option linter.all false
set_option maxRecDepth 100000
set_option maxHeartbeats 4000000
namespace CK
open PySem PySem.Spec PyProof.Rows L2
open Evl (Ex ex_l ex_t fresh_back)
open C8 (Cal pe_c)
abbrev deedD : Deed → PD
  | .move a b s => .tuple [.str "move", .int (a : Int), .int (b : Int), frD s]
  | .swap a b s => .tuple [.str "swap", .int (a : Int), .int (b : Int), frD s]
  | .draw a s => .tuple [.str "draw", .int (a : Int), frD s]
  | .keep a s => .tuple [.str "keep", .int (a : Int), frD s]
  | .add a f => .tuple [.str "add", .int (a : Int), fillD f]
abbrev storyL (ds : List Deed) : PD := .list (ds.map deedD)
abbrev storyT (ds : List Deed) : PD := .tuple (ds.map deedD)
abbrev natD (n : Nat) : PD := .int (n : Int)
theorem atI_last {α : Type} {xs : List α} {z : α} {n : Nat} (h : xs[n]? = some z) (hl : xs.length = n + 1) : atI xs (-1) = some z := by
  have e : ixN xs.length (-1) = some n := by
    unfold ixN
    rw [hl, if_neg (by omega), if_pos (by omega)]
    congr 1
    omega
  unfold atI
  rw [e]
  exact h
theorem zipD_map (st : List Cell) (ds : List Deed) : zipD (st.map cellD) (ds.map deedD) = (st.zip ds).map fun p => .tuple [cellD p.1, deedD p.2] := by
  unfold zipD
  rw [List.zipWith_map, List.zip, List.map_zipWith]
def w_is_place : WDA := fun ds k => ∃ n : Nat, ds = [.int (n : Int)] ∧ k (.bool true)
def w_is_deed : WDA := fun ds k => ∃ d n, ds = [deedD d] ∧ d.Ok n ∧ k (.bool true)
def w_casks_of : WDA := fun ds k => ∃ d, ds = [deedD d] ∧ k (.list (d.casks.map natD))
def w_is_deed_of : WDA := fun ds k => ∃ d n, ds = [deedD d, natD n] ∧ d.Ok n ∧ k (.bool true)
def w_need_deed_of : WDA := fun ds k => ∃ d n, ds = [deedD d, natD n] ∧ d.Ok n ∧ k .none
def goneV (c : Cell) (d : Deed) (k : Str) : Rat := match d with
  | .draw a s => valC c a k * qv s
  | .keep a s => valC c a k - valC c a k * qv s
  | _ => 0
def w_gone_by : WDA := fun ds k => ∃ (c : Cell) (d : Deed) (Ks : List Str) (N M : Int), ds = [cellD c, deedD d] ∧ CellOk c ∧ InC Ks N M c ∧ d.Ok c.length ∧ Lim (N * d.den) M ∧ ∀ r, FillOk r → FillIn Ks (N * d.den) M r → (∀ k, val r k = goneV c d k) → k (fillD r)
def w_done : WDA := fun ds k => ∃ (c : Cell) (d : Deed) (Ks : List Str) (N M : Int), ds = [cellD c, deedD d] ∧ CellOk c ∧ InC Ks N M c ∧ d.Ok c.length ∧ d.AddIn Ks N M ∧ Lim (N * d.den) (2 * M) ∧ Ks.length < 64 ∧
  ∀ c', CellOk c' → c'.length = c.length → InC Ks (N * d.den) (2 * M) c' → (∀ a k, valC c' a k = stepV (valC c) d a k) → k (cellD c')
structure RunPre (c : Cell) (deeds : List Deed) (Ks : List Str) (N M : Int) : Prop where
  cell : CellOk c
  inc : InC Ks N M c
  ok : ∀ d, d ∈ deeds → d.Ok c.length ∧ d.AddIn Ks N M
  lim : Lim (pN N deeds) (2 ^ deeds.length * M)
  np : 0 < N
  mp : 0 ≤ M
  ks : Ks.length < 64
  len : deeds.length ≤ 900
def w_run : WDA := fun ds k => ∃ (c : Cell) (deeds : List Deed) (Ks : List Str) (N M : Int), ds = [cellD c, storyL deeds] ∧ RunPre c deeds Ks N M ∧ ∀ st, RunOk c deeds Ks N M st → k (.list (st.map cellD))
def w_gone_in : WDA := fun ds k => ∃ (c : Cell) (deeds : List Deed) (Ks : List Str) (N M : Int), ds = [cellD c, storyL deeds, .str "draw"] ∧ RunPre c deeds Ks N M ∧ ∀ st r, RunOk c deeds Ks N M st → FillOk r → (∀ k, val r k = dsum (st.zip deeds) k) → k (fillD r)
def w_drawn : WDA := fun ds k => ∃ (c : Cell) (deeds : List Deed) (Ks : List Str) (N M : Int), ds = [cellD c, storyL deeds] ∧ RunPre c deeds Ks N M ∧ ∀ st r, RunOk c deeds Ks N M st → FillOk r → (∀ k, val r k = dsum (st.zip deeds) k) → k (fillD r)
theorem atI_c {c : Cell} {a : Nat} (h : a < c.length) : atI (c.map fillD) (a : Int) = some (fillD (c.getD a [])) := atI_nat (by rw [List.getElem?_map, List.getElem?_eq_getElem h, List.getD_eq_getElem?_getD, List.getElem?_eq_getElem h]; rfl)
theorem pair_val (f g : Fill) (k : Str) : val [f, g].flatten k = val f k + val g k := by
  show val (f ++ (g ++ [])) k = _
  rw [val_append, List.append_nil]
theorem pair_pre {Ks : List Str} {N M : Int} {f g : Fill} (hf : FillOk f) (hg : FillOk g) (hi : FillIn Ks N M f) (hj : FillIn Ks N M g) (L : Lim N (2 * M)) :
    (∀ x, x ∈ [f, g] → FillOk x ∧ IsIn Ks N x) ∧ ∀ k, val [f, g].flatten k ≤ ((2 * M : Int) : Rat) := by
  have hM := L.half.mp
  refine ⟨fun x hx => ?_, fun k => ?_⟩
  · rcases List.mem_cons.mp hx with z | z
    · rw [z]; exact ⟨hf, fun e he => ⟨(hi e he).1, (hi e he).2.1⟩⟩
    · rw [List.mem_singleton.mp z]; exact ⟨hg, fun e he => ⟨(hj e he).1, (hj e he).2.1⟩⟩
  · rw [pair_val]
    have h1 := (hi.val hf.asc hM k).2
    have h2 := (hj.val hg.asc hM k).2
    push_cast
    grind
theorem len_is_place (ds : List PD) (k : PD → Prop) (h : w_is_place ds k) : ds.length = 1 := by obtain ⟨_, rfl, _⟩ := h; rfl
theorem len_is_deed (ds : List PD) (k : PD → Prop) (h : w_is_deed ds k) : ds.length = 1 := by obtain ⟨_, _, rfl, _⟩ := h; rfl
theorem len_casks_of (ds : List PD) (k : PD → Prop) (h : w_casks_of ds k) : ds.length = 1 := by obtain ⟨_, rfl, _⟩ := h; rfl
theorem len_is_deed_of (ds : List PD) (k : PD → Prop) (h : w_is_deed_of ds k) : ds.length = 2 := by obtain ⟨_, _, rfl, _⟩ := h; rfl
theorem len_need_deed_of (ds : List PD) (k : PD → Prop) (h : w_need_deed_of ds k) : ds.length = 2 := by obtain ⟨_, _, rfl, _⟩ := h; rfl
theorem len_gone_by (ds : List PD) (k : PD → Prop) (h : w_gone_by ds k) : ds.length = 2 := by obtain ⟨_, _, _, _, _, rfl, _⟩ := h; rfl
theorem len_done (ds : List PD) (k : PD → Prop) (h : w_done ds k) : ds.length = 2 := by obtain ⟨_, _, _, _, _, rfl, _⟩ := h; rfl
theorem len_run (ds : List PD) (k : PD → Prop) (h : w_run ds k) : ds.length = 2 := by obtain ⟨_, _, _, _, _, rfl, _⟩ := h; rfl
theorem len_gone_in (ds : List PD) (k : PD → Prop) (h : w_gone_in ds k) : ds.length = 3 := by obtain ⟨_, _, _, _, _, rfl, _⟩ := h; rfl
theorem len_drawn (ds : List PD) (k : PD → Prop) (h : w_drawn ds k) : ds.length = 2 := by obtain ⟨_, _, _, _, _, rfl, _⟩ := h; rfl
local macro_rules | `(tactic| walk_at "ck") => `(tactic| repeat (first
  | (with_reducible refine r_seq ?_)
  | (with_reducible refine r_next ?_)
  | (with_reducible refine r_ret ?_)
  | (with_reducible refine r_set ?_)
  | (with_reducible refine r_ifs ?_)
  | (with_reducible refine r_drop ?_)
  | (with_reducible refine r_B ?_)
  | (with_reducible refine r_boolK ?_)
  | (with_reducible refine r_op ?_)
  | (with_reducible refine r_c ?_)
  | (with_reducible refine r_call ?_)
  | (with_reducible refine r_cons ?_)
  | (with_reducible refine r_nil ?_)
  | (with_reducible refine r_intK ?_)
  | ((with_reducible refine' r_var ?e ?_); (case e => exact rfl))
  | ((with_reducible refine' r_ixT ?e ?_); (case e => exact rfl))
  | ((with_reducible refine' r_loT ?e ?_); (case e => exact rfl))
  | ((with_reducible refine' r_ixK ?e ?_); (case e => exact rfl))
  | (with_reducible refine r_eqI ?_)
  | (with_reducible refine r_neI ?_)
  | (with_reducible refine r_int2 ?_)
  | (with_reducible refine r_eqS ?_)
  | (with_reducible refine r_or ?_)
  | (with_reducible refine r_not ?_)
  | (with_reducible refine r_andV ?_)
  | (with_reducible refine r_tup ?_)
  | (with_reducible refine r_lst ?_)
  | (with_reducible refine r_len1 ?_)
  | (with_reducible refine r_len2 ?_)
  | (with_reducible refine r_len0 ?_)
  | (with_reducible refine br_T ?_)
  | (with_reducible refine r_is ?_)
  | (with_reducible refine r_is4 ?_)
  | (with_reducible refine r_is5 ?_)
  | (with_reducible refine r_un ?_)
  | (with_reducible refine r_neg ?_)
  | (with_reducible refine r_lenT ?_)
  | (with_reducible refine r_lstK ?_)
  | ((with_reducible refine' r_ixO ?e ?_); (case e => exact rfl))
  | ((with_reducible refine' r_loO ?e ?_); (case e => exact rfl))
  | ((with_reducible refine' r_varo ?e ?_); (case e => exact rfl))
  | (with_reducible refine r_tuple ?_)
  | (with_reducible refine r_for ?_)
  | (with_reducible refine r_itL ?_)
  | (with_reducible refine r_zip ?_)
  | (with_reducible refine r_gN ?_)
  | (with_reducible refine r_gP ?_)
  | (with_reducible refine r_setO ?_)
  | (with_reducible refine r_olst ?_)
  | (with_reducible refine r_olist ?_)
  | (with_reducible refine r_wlistOT ?_)
  | (with_reducible refine r_app ?_)
  | (with_reducible refine r_setI ?_)
  | ((with_reducible refine' r_dkT ?e ?_); (case e => exact rfl))
  | ((with_reducible refine' r_dkO ?e ?_); (case e => exact rfl))
  | (with_reducible refine br_nT ?_)
  | (with_reducible refine br_dt (by first | omega | assumption | (with_unfolding_all rfl) | (simp only [List.length_cons, List.length_nil]; omega) | decide +kernel) ?_)
  | (with_reducible refine br_df (by first | omega | assumption | (with_unfolding_all rfl) | (simp only [List.length_cons, List.length_nil]; omega) | decide +kernel) ?_)
  | (with_reducible refine br_nt (by first | omega | assumption | (with_unfolding_all rfl) | (simp only [List.length_cons, List.length_nil]; omega) | decide +kernel) ?_)))
section
variable {P : Program} {w : World} {K : PySem.W.Frag} {mg : Str → Option Value} {base : Heap}
def N_is_place : List Str := ["value"]
theorem sc_is_place : FnScope N_is_place ["value"] (defScope (top 37)) := ⟨rfl, rfl, rfl, by decide +kernel, rfl, by decide +kernel, by decide +kernel⟩
theorem ok_is_place (T : Txt K mg) (c_is_integer : Cal P w K mg base 1 "is_integer" (spF w_is_integer) []) : Cal P w K mg base 2 "is_place" (spF w_is_place) [] := by
  obtain ⟨f, fd, F, hm⟩ := T.fn 20 rfl
  refine mk_F F hm sc_is_place (fun _ _ _ _ _ _ us hl => match us, hl with | [_], _ => rfl) len_is_place fun cdv A outer s H E hr => ?_
  have nd : N_is_place.Nodup := sc_is_place.nd
  refine ⟨_, (b_one (t_ret (p_and (p_c c_is_integer hr (by decide) (a_cons (pv_ 0) a_nil)) (p_one (p_ge (pv_ 0) p_int))))), ?_⟩
  intro ds k hw
  obtain ⟨n, rfl, hk⟩ := hw
  refine rho_of [.dat (.int (n : Int))] rfl ?_
  walk_at "ck"
  refine ⟨_, rfl, ?_⟩
  walk_at "ck"
  refine ⟨_, rfl, ?_⟩
  rw [decide_eq_true (Int.natCast_nonneg n)]
  exact hk
def N_is_deed : List Str := ["value"]
theorem sc_is_deed : FnScope N_is_deed ["value"] (defScope (top 38)) := ⟨rfl, rfl, rfl, by decide +kernel, rfl, by decide +kernel, by decide +kernel⟩
theorem ok_is_deed (T : Txt K mg) (c_is_fill : Cal P w K mg base 3 "is_fill" (spF w_is_fill) []) (c_is_place : Cal P w K mg base 2 "is_place" (spF w_is_place) []) (c_is_share : Cal P w K mg base 3 "is_share" (spF w_is_share) []) : Cal P w K mg base 4 "is_deed" (spF w_is_deed) [] := by
  obtain ⟨f, fd, F, hm⟩ := T.fn 21 rfl
  refine mk_F F hm sc_is_deed (fun _ _ _ _ _ _ us hl => match us, hl with | [_], _ => rfl) len_is_deed fun cdv A outer s H E hr => ?_
  have nd : N_is_deed.Nodup := sc_is_deed.nd
  refine ⟨_, (b_cons (t_if (q_pw (q_or (q_not (q_val (p_is (T := "tuple") T.isinstance_ T.tuple_ (pv_ 0) (by decide +kernel)))) (q_or (q_lt (p_len T.len_ (a_cons (pv_ 0) a_nil)) p_int) (q_or (q_not (q_val (p_is (T := "str") T.isinstance_ T.str_ (p_ixn 0 p_int) (by decide +kernel)))) (q_or1 (q_not (q_val (p_c c_is_place hr (by decide) (a_cons (p_ixn 0 p_int) a_nil))))))))) (b_one (t_ret p_bl)) b_nil)
  (b_cons (t_if (q_pw (q_or (q_eq hr (p_ixn 0 p_int) p_str) (q_or1 (q_eq hr (p_ixn 0 p_int) p_str)))) (b_one (t_ret (p_and (p_eq hr (p_len T.len_ (a_cons (pv_ 0) a_nil)) p_int) (p_and (p_c c_is_place hr (by decide) (a_cons (p_ixn 0 p_int) a_nil)) (p_and (p_ne hr (p_ixn 0 p_int) (p_ixn 0 p_int)) (p_one (p_c c_is_share hr (by decide) (a_cons (p_ixn 0 p_int) a_nil)))))))) b_nil)
  (b_cons (t_if (q_pw (q_or (q_eq hr (p_ixn 0 p_int) p_str) (q_or1 (q_eq hr (p_ixn 0 p_int) p_str)))) (b_one (t_ret (p_and (p_eq hr (p_len T.len_ (a_cons (pv_ 0) a_nil)) p_int) (p_one (p_c c_is_share hr (by decide) (a_cons (p_ixn 0 p_int) a_nil)))))) b_nil)
  (b_one (t_ret (p_and (p_eq hr (p_ixn 0 p_int) p_str) (p_and (p_eq hr (p_len T.len_ (a_cons (pv_ 0) a_nil)) p_int) (p_one (p_c c_is_fill hr (by decide) (a_cons (p_ixn 0 p_int) a_nil)))))))))), ?_⟩
  intro ds k hw
  obtain ⟨d, n, rfl, hd, hk⟩ := hw
  refine rho_of [.dat (deedD d)] rfl ?_
  cases d with
  | move a b s =>
    obtain ⟨h1, h2, h3, h4⟩ := hd
    walk_at "ck"
    refine ⟨a, rfl, ?_⟩
    walk_at "ck"
    refine ⟨b, rfl, ?_⟩
    walk_at "ck"
    refine ⟨s, rfl, h4, ?_⟩
    exact ⟨_, rfl, hk⟩
  | swap a b s =>
    obtain ⟨h1, h2, h3, h4⟩ := hd
    walk_at "ck"
    refine ⟨a, rfl, ?_⟩
    walk_at "ck"
    refine ⟨b, rfl, ?_⟩
    walk_at "ck"
    refine ⟨s, rfl, h4, ?_⟩
    exact ⟨_, rfl, hk⟩
  | draw a s =>
    walk_at "ck"
    refine ⟨a, rfl, ?_⟩
    walk_at "ck"
    refine ⟨s, rfl, hd.2, ?_⟩
    exact ⟨_, rfl, hk⟩
  | keep a s =>
    walk_at "ck"
    refine ⟨a, rfl, ?_⟩
    walk_at "ck"
    refine ⟨s, rfl, hd.2, ?_⟩
    exact ⟨_, rfl, hk⟩
  | add a f =>
    walk_at "ck"
    refine ⟨a, rfl, ?_⟩
    walk_at "ck"
    refine ⟨f, rfl, hd.2, ?_⟩
    exact ⟨_, rfl, hk⟩
def N_casks_of : List Str := ["deed"]
theorem sc_casks_of : FnScope N_casks_of ["deed"] (defScope (top 39)) := ⟨rfl, rfl, rfl, by decide +kernel, rfl, by decide +kernel, by decide +kernel⟩
theorem ok_casks_of (T : Txt K mg) : Cal P w K mg base 1 "casks_of" (spF w_casks_of) [] := by
  obtain ⟨f, fd, F, hm⟩ := T.fn 22 rfl
  refine mk_F F hm sc_casks_of (fun _ _ _ _ _ _ us hl => match us, hl with | [_], _ => rfl) len_casks_of fun cdv A outer s H E hr => ?_
  have nd : N_casks_of.Nodup := sc_casks_of.nd
  refine ⟨_, (b_cons (t_if (q_pw (q_or (q_eq hr (p_ixn 0 p_int) p_str) (q_or1 (q_eq hr (p_ixn 0 p_int) p_str)))) (b_one (t_ret (p_lst (a_cons (p_ixn 0 p_int) (a_cons (p_ixn 0 p_int) a_nil))))) b_nil)
  (b_one (t_ret (p_lst (a_cons (p_ixn 0 p_int) a_nil))))), ?_⟩
  intro ds k hw
  obtain ⟨d, rfl, hk⟩ := hw
  refine rho_of [.dat (deedD d)] rfl ?_
  cases d <;> (walk_at "ck"; exact ⟨_, rfl, hk⟩)
def N_is_deed_of : List Str := ["value", "casks"]
theorem sc_is_deed_of : FnScope N_is_deed_of ["value", "casks"] (defScope (top 40)) := ⟨rfl, rfl, rfl, by decide +kernel, rfl, by decide +kernel, by decide +kernel⟩
theorem ok_is_deed_of (T : Txt K mg) (c_casks_of : Cal P w K mg base 1 "casks_of" (spF w_casks_of) []) (c_is_deed : Cal P w K mg base 4 "is_deed" (spF w_is_deed) []) : Cal P w K mg base 5 "is_deed_of" (spF w_is_deed_of) [] := by
  obtain ⟨f, fd, F, hm⟩ := T.fn 23 rfl
  refine mk_F F hm sc_is_deed_of (fun _ _ _ _ _ _ us hl => match us, hl with | [_, _], _ => rfl) len_is_deed_of fun cdv A outer s H E hr => ?_
  have nd : N_is_deed_of.Nodup := sc_is_deed_of.nd
  refine ⟨_, (b_one (t_ret (p_and (p_c c_is_deed hr (by decide) (a_cons (pv_ 0) a_nil)) (p_one (p_lt (p_maxL rfl T.max_ (a_cons (p_c c_casks_of hr (by decide) (a_cons (pv_ 0) a_nil)) a_nil)) (pv_ 1)))))), ?_⟩
  intro ds k hw
  obtain ⟨d, n, rfl, hd, hk⟩ := hw
  refine rho_of [.dat (deedD d), .dat (natD n)] rfl ?_
  walk_at "ck"
  refine ⟨d, n, rfl, hd, ?_⟩
  walk_at "ck"
  refine ⟨d, rfl, ?_⟩
  walk_at "ck"
  refine ⟨d.casks.map fun a : Nat => (a : Int), by rw [List.map_map]; rfl, ?_, fun m hm _ => ?_⟩
  · cases d <;> exact Nat.succ_pos _
  · have h : m < (n : Int) := by
      obtain ⟨a, ha, rfl⟩ := List.mem_map.mp hm
      have : a < n := by
        cases d with
        | move p q s =>
          rcases List.mem_cons.mp ha with z | z
          · rw [z]; exact hd.1
          · rw [List.mem_singleton.mp z]; exact hd.2.1
        | swap p q s =>
          rcases List.mem_cons.mp ha with z | z
          · rw [z]; exact hd.1
          · rw [List.mem_singleton.mp z]; exact hd.2.1
        | draw p s => exact (List.mem_singleton.mp ha) ▸ hd.1
        | keep p s => exact (List.mem_singleton.mp ha) ▸ hd.1
        | add p s => exact (List.mem_singleton.mp ha) ▸ hd.1
      omega
    walk_at "ck"
    refine ⟨_, rfl, ?_⟩
    rw [decide_eq_true h]
    exact hk
def N_need_deed_of : List Str := ["deed", "casks"]
theorem sc_need_deed_of : FnScope N_need_deed_of ["deed", "casks"] (defScope (top 41)) := ⟨rfl, rfl, rfl, by decide +kernel, rfl, by decide +kernel, by decide +kernel⟩
theorem ok_need_deed_of (T : Txt K mg) (c_is_deed_of : Cal P w K mg base 5 "is_deed_of" (spF w_is_deed_of) []) : Cal P w K mg base 6 "need_deed_of" (spF w_need_deed_of) [] := by
  obtain ⟨f, fd, F, hm⟩ := T.fn 24 rfl
  refine mk_F F hm sc_need_deed_of (fun _ _ _ _ _ _ us hl => match us, hl with | [_, _], _ => rfl) len_need_deed_of fun cdv A outer s H E hr => ?_
  have nd : N_need_deed_of.Nodup := sc_need_deed_of.nd
  refine ⟨_, (b_one (t_if (q_not (q_val (p_c c_is_deed_of hr (by decide) (a_cons (pv_ 0) (a_cons (pv_ 1) a_nil))))) b_never b_nil)), ?_⟩
  intro ds k hw
  obtain ⟨d, n, rfl, hd, hk⟩ := hw
  refine rho_of [.dat (deedD d), .dat (natD n)] rfl ?_
  walk_at "ck"
  refine ⟨d, n, rfl, hd, ?_⟩
  walk_at "ck"
  exact hk
def N_gone_by : List Str := ["cellar", "deed"]
theorem sc_gone_by : FnScope N_gone_by ["cellar", "deed"] (defScope (top 42)) := ⟨rfl, rfl, rfl, by decide +kernel, rfl, by decide +kernel, by decide +kernel⟩
theorem ok_gone_by (T : Txt K mg) (c_part : Cal P w K mg base 5 "part" (spF w_part) []) (c_rest : Cal P w K mg base 6 "rest" (spF w_rest) []) : Cal P w K mg base 7 "gone_by" (spF w_gone_by) [] := by
  obtain ⟨f, fd, F, hm⟩ := T.fn 25 rfl
  refine mk_F F hm sc_gone_by (fun _ _ _ _ _ _ us hl => match us, hl with | [_, _], _ => rfl) len_gone_by fun cdv A outer s H E hr => ?_
  have nd : N_gone_by.Nodup := sc_gone_by.nd
  refine ⟨_, (b_cons (t_if (q_eq hr (p_ixn 1 p_int) p_str) (b_one (t_ret (p_c c_part hr (by decide) (a_cons (p_ixn 0 (p_ixn 1 p_int)) (a_cons (p_ixn 1 p_int) a_nil))))) b_nil)
  (b_cons (t_if (q_eq hr (p_ixn 1 p_int) p_str) (b_one (t_ret (p_c c_rest hr (by decide) (a_cons (p_ixn 0 (p_ixn 1 p_int)) (a_cons (p_c c_part hr (by decide) (a_cons (p_ixn 0 (p_ixn 1 p_int)) (a_cons (p_ixn 1 p_int) a_nil))) a_nil))))) b_nil)
  (b_one (t_ret (p_tup a_nil))))), ?_⟩
  intro ds k hw
  obtain ⟨c, d, Ks, N, M, rfl, hc, hi, hd, L, hk⟩ := hw
  refine rho_of [.dat (cellD c), .dat (deedD d)] rfl ?_
  cases d with
  | move a b s =>
    walk_at "ck"
    exact ⟨_, rfl, hk [] FillOk.nil FillIn.nil fun _ => rfl⟩
  | swap a b s =>
    walk_at "ck"
    exact ⟨_, rfl, hk [] FillOk.nil FillIn.nil fun _ => rfl⟩
  | add a f =>
    walk_at "ck"
    exact ⟨_, rfl, hk [] FillOk.nil FillIn.nil fun _ => rfl⟩
  | draw a s =>
    walk_at "ck"
    refine ⟨_, atI_c hd.1, ?_⟩
    walk_at "ck"
    refine ⟨c.getD a [], s, Ks, N, M, rfl, hc.at a, hi.at a, hd.2, L, fun r h1 h2 h3 => ?_⟩
    exact ⟨_, rfl, hk r h1 h2 h3⟩
  | keep a s =>
    walk_at "ck"
    refine ⟨_, atI_c hd.1, ?_⟩
    walk_at "ck"
    refine ⟨_, atI_c hd.1, ?_⟩
    walk_at "ck"
    refine ⟨c.getD a [], s, Ks, N, M, rfl, hc.at a, hi.at a, hd.2, L, fun p h1 h2 h3 => ?_⟩
    walk_at "ck"
    refine ⟨c.getD a [], p, Ks, N * s.2, M, rfl, hc.at a, h1, (hi.at a).more (Int.le_refl M), h2, L, fun k => ?_, fun r g1 g2 g3 => ?_⟩
    · rw [h3]
      have n0 := (hc.at a).nonneg k
      have := Rat.mul_le_mul_of_nonneg_left hd.2.q1 n0
      grind
    · refine ⟨_, rfl, hk r g1 g2 fun k => ?_⟩
      rw [g3, h3]
      rfl
def N_done : List Str := ["cellar", "deed", "fills", "at", "goal", "given", "taken"]
theorem sc_done : FnScope N_done ["cellar", "deed"] (defScope (top 43)) := ⟨rfl, rfl, rfl, by decide +kernel, rfl, by decide +kernel, by decide +kernel⟩
theorem ok_done (T : Txt K mg) (c_gone_by : Cal P w K mg base 7 "gone_by" (spF w_gone_by) []) (c_need_cellar : Cal P w K mg base 5 "need_cellar" (spF w_need_cellar) []) (c_need_deed_of : Cal P w K mg base 6 "need_deed_of" (spF w_need_deed_of) []) (c_part : Cal P w K mg base 5 "part" (spF w_part) []) (c_rest : Cal P w K mg base 6 "rest" (spF w_rest) []) (c_together : Cal P w K mg base 5 "together" (spF w_together) []) : Cal P w K mg base 8 "done" (spF w_done) [] := by
  obtain ⟨f, fd, F, hm⟩ := T.fn 26 rfl
  refine mk_F F hm sc_done (fun _ _ _ _ _ _ us hl => match us, hl with | [_, _], _ => rfl) len_done fun cdv A outer s H E hr => ?_
  have nd : N_done.Nodup := sc_done.nd
  refine ⟨_, (b_cons (t_expr (p_c c_need_cellar hr (by decide) (a_cons (pv_ 0) a_nil)))
  (b_cons (t_expr (p_c c_need_deed_of hr (by decide) (a_cons (pv_ 1) (a_cons (p_len T.len_ (a_cons (pv_ 0) a_nil)) a_nil))))
  (b_cons (t_setO 2 nd (o_list T.list_ (a_cons (pv_ 0) a_nil)))
  (b_cons (t_set 3 nd (p_ixn 1 p_int))
  (b_cons (t_if (q_eq hr (p_ixn 1 p_int) p_str) (b_one (t_setI 2 (p_c c_together hr (by decide) (a_cons (p_lst (a_cons (p_ixn 2 (pv_ 3)) (a_cons (p_ixn 1 p_int) a_nil))) a_nil)) (pv_ 3))) (b_one (t_if (q_pw (q_or (q_eq hr (p_ixn 1 p_int) p_str) (q_or1 (q_eq hr (p_ixn 1 p_int) p_str)))) (b_one (t_setI 2 (p_c c_rest hr (by decide) (a_cons (p_ixn 2 (pv_ 3)) (a_cons (p_c c_gone_by hr (by decide) (a_cons (pv_ 0) (a_cons (pv_ 1) a_nil))) a_nil))) (pv_ 3))) (b_cons (t_set 4 nd (p_ixn 1 p_int))
  (b_cons (t_set 5 nd (p_c c_part hr (by decide) (a_cons (p_ixn 2 (pv_ 3)) (a_cons (p_ixn 1 p_int) a_nil))))
  (b_cons (t_set 6 nd (p_tup a_nil))
  (b_cons (t_if (q_eq hr (p_ixn 1 p_int) p_str) (b_one (t_set 6 nd (p_c c_part hr (by decide) (a_cons (p_ixn 2 (pv_ 4)) (a_cons (p_ixn 1 p_int) a_nil))))) b_nil)
  (b_cons (t_setI 2 (p_c c_together hr (by decide) (a_cons (p_lst (a_cons (p_c c_rest hr (by decide) (a_cons (p_ixn 2 (pv_ 3)) (a_cons (pv_ 5) a_nil))) (a_cons (pv_ 6) a_nil))) a_nil)) (pv_ 3))
  (b_one (t_setI 2 (p_c c_together hr (by decide) (a_cons (p_lst (a_cons (p_c c_rest hr (by decide) (a_cons (p_ixn 2 (pv_ 4)) (a_cons (pv_ 6) a_nil))) (a_cons (pv_ 5) a_nil))) a_nil)) (pv_ 4)))))))))))
  (b_one (t_ret (p_tuple T.tuple_ (a_cons (pv_ 2) a_nil))))))))), ?_⟩
  intro ds k hw
  obtain ⟨c, d, Ks, N, M, rfl, hc, hi, hd, hadd, L, hKs, hk⟩ := hw
  refine rho_of [.dat (cellD c), .dat (deedD d), .unk, .unk, .unk, .unk, .unk] rfl ?_
  have LM := L.half
  have hlen : (c.map fillD).length = c.length := List.length_map ..
  cases d with
  | add a f =>
    walk_at "ck"
    refine ⟨c, rfl, hc, ?_⟩
    walk_at "ck"
    refine ⟨_, c.length, by rw [List.length_map], hd, ?_⟩
    walk_at "ck"
    have ha : a < c.length := hd.1
    refine ⟨_, atI_c ha, ?_⟩
    walk_at "ck"
    have hN : N * Deed.den (.add a f) = N := Int.mul_one N
    rw [hN] at L LM
    obtain ⟨q1, q2⟩ := pair_pre (hc.at a) hd.2 (hi.at a) hadd L
    refine ⟨[c.getD a [], f], Ks, N, 2 * M, rfl, q1, q2, L, hKs, (by show 2 ≤ 1000; decide), fun r h1 h2 h3 => ?_⟩
    walk_at "ck"
    refine ⟨a, ixN_nat (by rw [hlen]; exact ha), ?_⟩
    rw [← List.map_set]
    walk_at "ck"
    refine ⟨_, rfl, hk (c.set a r) (hc.set a h1) (List.length_set ..) ?_ fun b k => ?_⟩
    · rw [hN]
      exact InC.set (fun g hg => by
        have := (hi g hg).more (K := 1) (M' := 2 * M) (by have := LM.mp; omega)
        rw [Int.mul_one] at this
        exact this) a h2
    · rw [valC_set ha, h3, pair_val]
      rfl
  | draw a s =>
    walk_at "ck"
    refine ⟨c, rfl, hc, ?_⟩
    walk_at "ck"
    refine ⟨_, c.length, by rw [List.length_map], hd, ?_⟩
    walk_at "ck"
    have ha : a < c.length := hd.1
    refine ⟨_, atI_c ha, ?_⟩
    walk_at "ck"
    refine ⟨c, .draw a s, Ks, N, M, rfl, hc, hi, hd, LM, fun p h1 h2 h3 => ?_⟩
    walk_at "ck"
    refine ⟨c.getD a [], p, Ks, N * s.2, M, rfl, hc.at a, h1, (hi.at a).more (Int.le_refl M), h2, LM, fun k => ?_, fun r g1 g2 g3 => ?_⟩
    · rw [h3]
      have n0 := (hc.at a).nonneg k
      have := Rat.mul_le_mul_of_nonneg_left hd.2.q1 n0
      show val (c.getD a []) k * qv s ≤ _
      grind
    walk_at "ck"
    refine ⟨a, ixN_nat (by rw [hlen]; exact ha), ?_⟩
    rw [← List.map_set]
    walk_at "ck"
    refine ⟨_, rfl, hk (c.set a r) (hc.set a g1) (List.length_set ..) (InC.set (fun g hg => (hi g hg).more (by have := LM.mp; omega)) a (by have := g2.more (K := 1) (M' := 2 * M) (by have := LM.mp; omega); rw [Int.mul_one] at this; exact this)) fun b k => ?_⟩
    rw [valC_set ha, g3, h3]
    rfl
  | keep a s =>
    walk_at "ck"
    refine ⟨c, rfl, hc, ?_⟩
    walk_at "ck"
    refine ⟨_, c.length, by rw [List.length_map], hd, ?_⟩
    walk_at "ck"
    have ha : a < c.length := hd.1
    refine ⟨_, atI_c ha, ?_⟩
    walk_at "ck"
    refine ⟨c, .keep a s, Ks, N, M, rfl, hc, hi, hd, LM, fun p h1 h2 h3 => ?_⟩
    walk_at "ck"
    refine ⟨c.getD a [], p, Ks, N * s.2, M, rfl, hc.at a, h1, (hi.at a).more (Int.le_refl M), h2, LM, fun k => ?_, fun r g1 g2 g3 => ?_⟩
    · rw [h3]
      have n0 := (hc.at a).nonneg k
      have := Rat.mul_nonneg n0 hd.2.q0
      show val (c.getD a []) k - val (c.getD a []) k * qv s ≤ _
      grind
    walk_at "ck"
    refine ⟨a, ixN_nat (by rw [hlen]; exact ha), ?_⟩
    rw [← List.map_set]
    walk_at "ck"
    refine ⟨_, rfl, hk (c.set a r) (hc.set a g1) (List.length_set ..) (InC.set (fun g hg => (hi g hg).more (by have := LM.mp; omega)) a (by have := g2.more (K := 1) (M' := 2 * M) (by have := LM.mp; omega); rw [Int.mul_one] at this; exact this)) fun b k => ?_⟩
    rw [valC_set ha, g3, h3]
    show (if b = a then valC c a k - (valC c a k - valC c a k * qv s) else valC c b k) = if b = a then valC c a k * qv s else valC c b k
    split <;> grind
  | move a b s =>
    walk_at "ck"
    refine ⟨c, rfl, hc, ?_⟩
    walk_at "ck"
    refine ⟨_, c.length, by rw [List.length_map], hd, ?_⟩
    walk_at "ck"
    obtain ⟨ha, hb, hne, hs⟩ := hd
    refine ⟨_, atI_c ha, ?_⟩
    walk_at "ck"
    refine ⟨c.getD a [], s, Ks, N, M, rfl, hc.at a, hi.at a, hs, LM, fun p h1 h2 h3 => ?_⟩
    walk_at "ck"
    refine ⟨_, atI_c ha, ?_⟩
    walk_at "ck"
    refine ⟨c.getD a [], p, Ks, N * s.2, M, rfl, hc.at a, h1, (hi.at a).more (Int.le_refl M), h2, LM, fun k => ?_, fun r g1 g2 g3 => ?_⟩
    · rw [h3]
      have n0 := (hc.at a).nonneg k
      have := Rat.mul_le_mul_of_nonneg_left hs.q1 n0
      grind
    walk_at "ck"
    obtain ⟨q1, q2⟩ := pair_pre g1 FillOk.nil g2 FillIn.nil L
    refine ⟨[r, []], Ks, N * s.2, 2 * M, rfl, q1, q2, L, hKs, (by show 2 ≤ 1000; decide), fun t t1 t2 t3 => ?_⟩
    walk_at "ck"
    refine ⟨a, ixN_nat (by rw [hlen]; exact ha), ?_⟩
    rw [← List.map_set]
    have hlen2 : (c.set a t).length = c.length := List.length_set ..
    walk_at "ck"
    refine ⟨_, atI_c (by rw [hlen2]; exact hb), ?_⟩
    have eb : (c.set a t).getD b [] = c.getD b [] := by rw [List.getD_eq_getElem?_getD, List.getElem?_set_ne hne, ← List.getD_eq_getElem?_getD]
    rw [eb]
    walk_at "ck"
    refine ⟨c.getD b [], [], Ks, N * s.2, M, rfl, hc.at b, FillOk.nil, (hi.at b).more (Int.le_refl M), FillIn.nil, LM, fun k => (hc.at b).nonneg k, fun u u1 u2 u3 => ?_⟩
    walk_at "ck"
    obtain ⟨q3, q4⟩ := pair_pre u1 h1 u2 h2 L
    refine ⟨[u, p], Ks, N * s.2, 2 * M, rfl, q3, q4, L, hKs, (by show 2 ≤ 1000; decide), fun v v1 v2 v3 => ?_⟩
    walk_at "ck"
    refine ⟨b, ixN_nat (by rw [List.length_map, hlen2]; exact hb), ?_⟩
    rw [← List.map_set]
    walk_at "ck"
    refine ⟨_, rfl, hk ((c.set a t).set b v) ((hc.set a t1).set b v1) (by rw [List.length_set, List.length_set]) (InC.set (InC.set (fun g hg => (hi g hg).more (by have := LM.mp; omega)) a t2) b v2) fun x k => ?_⟩
    rw [valC_set (by rw [hlen2]; exact hb), valC_set ha, v3, pair_val, u3, h3, t3, pair_val, g3, h3]
    show (if x = b then val (c.getD b []) k - 0 + val (c.getD a []) k * qv s else if x = a then val (c.getD a []) k - val (c.getD a []) k * qv s + 0 else valC c x k) = if x = a then valC c a k - valC c a k * qv s else if x = b then valC c b k + valC c a k * qv s else valC c x k
    unfold valC
    by_cases z : x = a
    · rw [if_pos z, if_neg (by rw [z]; exact hne), if_pos z]
      grind
    · rw [if_neg z, if_neg z]
      split <;> grind
  | swap a b s =>
    walk_at "ck"
    refine ⟨c, rfl, hc, ?_⟩
    walk_at "ck"
    refine ⟨_, c.length, by rw [List.length_map], hd, ?_⟩
    walk_at "ck"
    obtain ⟨ha, hb, hne, hs⟩ := hd
    refine ⟨_, atI_c ha, ?_⟩
    walk_at "ck"
    refine ⟨c.getD a [], s, Ks, N, M, rfl, hc.at a, hi.at a, hs, LM, fun p h1 h2 h3 => ?_⟩
    walk_at "ck"
    refine ⟨_, atI_c hb, ?_⟩
    walk_at "ck"
    refine ⟨c.getD b [], s, Ks, N, M, rfl, hc.at b, hi.at b, hs, LM, fun y y1 y2 y3 => ?_⟩
    walk_at "ck"
    refine ⟨_, atI_c ha, ?_⟩
    walk_at "ck"
    refine ⟨c.getD a [], p, Ks, N * s.2, M, rfl, hc.at a, h1, (hi.at a).more (Int.le_refl M), h2, LM, fun k => ?_, fun r g1 g2 g3 => ?_⟩
    · rw [h3]
      have n0 := (hc.at a).nonneg k
      have := Rat.mul_le_mul_of_nonneg_left hs.q1 n0
      grind
    walk_at "ck"
    obtain ⟨q1, q2⟩ := pair_pre g1 y1 g2 y2 L
    refine ⟨[r, y], Ks, N * s.2, 2 * M, rfl, q1, q2, L, hKs, (by show 2 ≤ 1000; decide), fun t t1 t2 t3 => ?_⟩
    walk_at "ck"
    refine ⟨a, ixN_nat (by rw [hlen]; exact ha), ?_⟩
    rw [← List.map_set]
    have hlen2 : (c.set a t).length = c.length := List.length_set ..
    walk_at "ck"
    refine ⟨_, atI_c (by rw [hlen2]; exact hb), ?_⟩
    have eb : (c.set a t).getD b [] = c.getD b [] := by rw [List.getD_eq_getElem?_getD, List.getElem?_set_ne hne, ← List.getD_eq_getElem?_getD]
    rw [eb]
    walk_at "ck"
    refine ⟨c.getD b [], y, Ks, N * s.2, M, rfl, hc.at b, y1, (hi.at b).more (Int.le_refl M), y2, LM, fun k => ?_, fun u u1 u2 u3 => ?_⟩
    · rw [y3]
      have n0 := (hc.at b).nonneg k
      have := Rat.mul_le_mul_of_nonneg_left hs.q1 n0
      grind
    walk_at "ck"
    obtain ⟨q3, q4⟩ := pair_pre u1 h1 u2 h2 L
    refine ⟨[u, p], Ks, N * s.2, 2 * M, rfl, q3, q4, L, hKs, (by show 2 ≤ 1000; decide), fun v v1 v2 v3 => ?_⟩
    walk_at "ck"
    refine ⟨b, ixN_nat (by rw [List.length_map, hlen2]; exact hb), ?_⟩
    rw [← List.map_set]
    walk_at "ck"
    refine ⟨_, rfl, hk ((c.set a t).set b v) ((hc.set a t1).set b v1) (by rw [List.length_set, List.length_set]) (InC.set (InC.set (fun g hg => (hi g hg).more (by have := LM.mp; omega)) a t2) b v2) fun x k => ?_⟩
    rw [valC_set (by rw [hlen2]; exact hb), valC_set ha, v3, pair_val, u3, h3, t3, pair_val, g3, h3, y3]
    show (if x = b then val (c.getD b []) k - val (c.getD b []) k * qv s + val (c.getD a []) k * qv s else if x = a then val (c.getD a []) k - val (c.getD a []) k * qv s + val (c.getD b []) k * qv s else valC c x k) = if x = a then valC c a k - valC c a k * qv s + valC c b k * qv s else if x = b then valC c b k - valC c b k * qv s + valC c a k * qv s else valC c x k
    unfold valC
    by_cases z : x = a
    · rw [if_pos z, if_neg (by rw [z]; exact hne), if_pos z]
    · rw [if_neg z, if_neg z]
def N_run : List Str := ["cellar", "deeds", "deed", "made"]
theorem sc_run : FnScope N_run ["cellar", "deeds"] (defScope (top 44)) := ⟨rfl, rfl, rfl, by decide +kernel, rfl, by decide +kernel, by decide +kernel⟩
theorem ok_run (T : Txt K mg) (c_done : Cal P w K mg base 8 "done" (spF w_done) []) (c_need_cellar : Cal P w K mg base 5 "need_cellar" (spF w_need_cellar) []) (c_need_deed_of : Cal P w K mg base 6 "need_deed_of" (spF w_need_deed_of) []) : Cal P w K mg base 9 "run" (spF w_run) [] := by
  obtain ⟨f, fd, F, hm⟩ := T.fn 27 rfl
  refine mk_F F hm sc_run (fun _ _ _ _ _ _ us hl => match us, hl with | [_, _], _ => rfl) len_run fun cdv A outer s H E hr => ?_
  have nd : N_run.Nodup := sc_run.nd
  refine ⟨_, (b_cons (t_expr (p_c c_need_cellar hr (by decide) (a_cons (pv_ 0) a_nil)))
  (b_cons (t_for PassesOwn.never rfl (i_list (pv_ 1)) (v_name 2 nd)
  (b_one (t_expr (p_c c_need_deed_of hr (by decide) (a_cons (pv_ 2) (a_cons (p_len T.len_ (a_cons (pv_ 0) a_nil)) a_nil))))))
  (b_cons (t_setO 3 nd (o_lst (a_cons (pv_ 0) a_nil)))
  (b_cons (t_for PassesOwn.never rfl (i_list (pv_ 1)) (v_name 2 nd)
  (b_one (t_app 3 (p_c c_done hr (by decide) (a_cons (p_ixn 3 (p_neg p_int)) (a_cons (pv_ 2) a_nil))))))
  (b_one (t_ret (pv_ 3))))))), ?_⟩
  intro ds k hw
  obtain ⟨c, deeds, Ks, N, M, rfl, pre, hk⟩ := hw
  have hlen := pre.len
  refine rho_of [.dat (cellD c), .dat (storyL deeds), .unk, .unk] rfl ?_
  walk_at "ck"
  refine ⟨c, rfl, pre.cell, ?_⟩
  walk_at "ck"
  refine for_map deedD (fun _ ρ => ∃ a, ρ = [.dat (cellD c), .dat (storyL deeds), a, .unk]) deeds ⟨_, rfl⟩ (fun i d ρ nx' hi hI hn => ?_) (fun ρ hI => ?_)
  · obtain ⟨a, rfl⟩ := hI
    walk_at "ck"
    refine ⟨d, c.length, by rw [List.length_map], (pre.ok d (List.mem_of_getElem? hi)).1, ?_⟩
    exact hn _ ⟨_, rfl⟩
  obtain ⟨a, rfl⟩ := hI
  walk_at "ck"
  refine for_map deedD (fun i ρ => ∃ st a, ρ = [.dat (cellD c), .dat (storyL deeds), a, .own (st.map cellD)] ∧ RunOk c (deeds.take i) Ks N M st) deeds ⟨[c], _, rfl, RunOk.nil pre.cell pre.inc⟩ (fun i d ρ nx' hi hI hn => ?_) (fun ρ hI => ?_)
  · obtain ⟨st, a, rfl, hr⟩ := hI
    have hlt := (List.getElem?_eq_some_iff.mp hi).1
    have hti : (deeds.take i).length = i := by rw [List.length_take]; omega
    have hsl : st.length = i + 1 := by rw [hr.len, hti]
    have hl : st[i]? = some st[i] := List.getElem?_eq_getElem (by omega)
    obtain ⟨o1, o2, o3⟩ := hr.ok i _ hl
    rw [List.take_take, Nat.min_self] at o3
    obtain ⟨p1, p2⟩ := pre.ok d (List.mem_of_getElem? hi)
    obtain ⟨L, _⟩ := lim_at pre.lim pre.np pre.mp (fun d hd => (pre.ok d hd).1) hi
    walk_at "ck"
    refine ⟨cellD st[i], atI_last (n := i) (by rw [List.getElem?_map, hl]; rfl) (by rw [List.length_map, hsl]), ?_⟩
    walk_at "ck"
    have hKa : d.AddIn Ks (pN N (deeds.take i)) (2 ^ i * M) := by
      obtain ⟨K, hK⟩ := (pN_le (ds := deeds.take i) pre.np fun d hd => (pre.ok d (List.mem_of_mem_take hd)).1).2
      rw [hK]
      refine AddIn.more p2 ?_
      have := pow2_le (i := 0) (n := i) (M := M) (by omega) pre.mp
      rw [Int.pow_zero, Int.one_mul] at this
      exact this
    refine ⟨st[i], d, Ks, _, _, rfl, o1, o3, by rw [o2]; exact p1, hKa, L, pre.ks, fun c' g1 g2 g3 g4 => ?_⟩
    walk_at "ck"
    rw [List.length_map]
    refine ⟨by omega, ?_⟩
    refine hn _ ⟨st ++ [c'], _, by rw [List.map_append]; rfl, ?_⟩
    rw [List.take_add_one, hi]
    refine hr.snoc (c1 := st[i]) (by rw [hti]; exact hl) g1 (g2.trans o2) ?_ g4
    rw [hti]
    exact g3
  · obtain ⟨st, a, rfl, hr⟩ := hI
    rw [List.take_length] at hr
    walk_at "ck"
    exact ⟨_, rfl, hk st hr⟩
def N_gone_in : List Str := ["cellar", "deeds", "word", "parts", "state", "deed"]
theorem sc_gone_in : FnScope N_gone_in ["cellar", "deeds", "word"] (defScope (top 45)) := ⟨rfl, rfl, rfl, by decide +kernel, rfl, by decide +kernel, by decide +kernel⟩
theorem ok_gone_in (T : Txt K mg) (c_gone_by : Cal P w K mg base 7 "gone_by" (spF w_gone_by) []) (c_run : Cal P w K mg base 9 "run" (spF w_run) []) (c_together : Cal P w K mg base 5 "together" (spF w_together) []) : Cal P w K mg base 10 "gone_in" (spF w_gone_in) [] := by
  obtain ⟨f, fd, F, hm⟩ := T.fn 28 rfl
  refine mk_F F hm sc_gone_in (fun _ _ _ _ _ _ us hl => match us, hl with | [_, _, _], _ => rfl) len_gone_in fun cdv A outer s H E hr => ?_
  have nd : N_gone_in.Nodup := sc_gone_in.nd
  refine ⟨_, (b_cons (t_setO 3 nd (o_lst (a_cons (p_tup a_nil) a_nil)))
  (b_cons (t_for PassesOwn.never rfl (i_zip T.zip_ (p_c c_run hr (by decide) (a_cons (pv_ 0) (a_cons (pv_ 1) a_nil))) (pv_ 1)) (v_pair 4 5 rfl nd)
  (b_one (t_if (q_eq hr (p_ixn 5 p_int) (pv_ 2)) (b_one (t_app 3 (p_c c_gone_by hr (by decide) (a_cons (pv_ 4) (a_cons (pv_ 5) a_nil))))) b_nil)))
  (b_one (t_ret (p_c c_together hr (by decide) (a_cons (pv_ 3) a_nil)))))), ?_⟩
  intro ds k hw
  obtain ⟨c, deeds, Ks, N, M, rfl, pre, hk⟩ := hw
  have hlen := pre.len
  refine rho_of [.dat (cellD c), .dat (storyL deeds), .dat (.str "draw"), .unk, .unk, .unk] rfl ?_
  walk_at "ck"
  refine ⟨c, deeds, Ks, N, M, rfl, pre, fun st hr => ?_⟩
  walk_at "ck"
  rw [zipD_map]
  have hzl : (st.zip deeds).length = deeds.length := by rw [List.length_zip, hr.len]; omega
  have m0 : ∀ i : Nat, (0 : Rat) ≤ ((2 ^ i * M : Int) : Rat) := fun i => by
    have : 0 ≤ (2 : Int) ^ i * M := Int.mul_nonneg (Int.le_of_lt (Int.pow_pos (by decide))) pre.mp
    exact_mod_cast this
  refine for_map (fun p : Cell × Deed => PyData.tuple [cellD p.1, deedD p.2]) (fun i ρ => ∃ ps a b, ρ = [.dat (cellD c), .dat (storyL deeds), .dat (.str "draw"), .own (ps.map fillD), a, b] ∧ (∀ f, f ∈ ps → FillOk f ∧ IsIn Ks (pN N deeds) f) ∧ ps.length ≤ i + 1 ∧ (∀ k, val ps.flatten k = dsum ((st.zip deeds).take i) k) ∧ ∀ k, val ps.flatten k ≤ ((2 ^ i * M : Int) : Rat)) (st.zip deeds)
    ⟨[[]], _, _, rfl, fun f hf => by rw [List.mem_singleton.mp hf]; exact ⟨FillOk.nil, fun _ h => (nomatch h)⟩, Nat.le_refl _, fun k => rfl, fun k => by exact m0 0⟩ (fun i p ρ nx' hi hI hn => ?_) (fun ρ hI => ?_)
  · obtain ⟨ps, a, b, rfl, hps, hpl, hv, hb⟩ := hI
    obtain ⟨c1, d⟩ := p
    have hlt := (List.getElem?_eq_some_iff.mp hi).1
    rw [hzl] at hlt
    have hzip := List.getElem?_zip_eq_some.mp hi
    obtain ⟨hst, hd⟩ := hzip
    obtain ⟨o1, o2, o3⟩ := hr.ok i _ hst
    obtain ⟨p1, p2⟩ := pre.ok d (List.mem_of_getElem? hd)
    obtain ⟨L, K, hK⟩ := lim_at pre.lim pre.np pre.mp (fun d hd => (pre.ok d hd).1) hd
    have hdbl : ((2 ^ (i + 1) * M : Int) : Rat) = ((2 ^ i * M : Int) : Rat) + ((2 ^ i * M : Int) : Rat) := by
      rw [← Rat.intCast_add]
      congr 1
      rw [Int.pow_succ, Int.mul_comm (2 ^ i) 2, Int.mul_assoc]
      omega
    have htk : (st.zip deeds).take (i + 1) = (st.zip deeds).take i ++ [(c1, d)] := by rw [List.take_add_one, hi]; rfl
    have skip : (∀ k, dsum [(c1, d)] k = 0) → nx' [.dat (cellD c), .dat (storyL deeds), .dat (.str "draw"), .own (ps.map fillD), .dat (cellD c1), .dat (deedD d)] := fun hz => hn _ ⟨ps, _, _, rfl, hps, by omega, fun k => by rw [hv, htk, dsum_append, hz]; grind, fun k => by
      have := hb k
      have := m0 i
      rw [hdbl]
      grind⟩
    cases d with
    | move x y s =>
      walk_at "ck"
      exact skip fun _ => rfl
    | swap x y s =>
      walk_at "ck"
      exact skip fun _ => rfl
    | keep x s =>
      walk_at "ck"
      exact skip fun _ => rfl
    | add x f =>
      walk_at "ck"
      exact skip fun _ => rfl
    | draw x s =>
      walk_at "ck"
      refine ⟨c1, .draw x s, Ks, _, _, rfl, o1, o3, by rw [o2]; exact p1, L.half, fun r g1 g2 g3 => ?_⟩
      walk_at "ck"
      rw [List.length_map]
      refine ⟨by omega, ?_⟩
      have ev : ∀ k, val (ps ++ [r]).flatten k = val ps.flatten k + valC c1 x k * qv s := fun k => by
        rw [List.flatten_append, val_append]
        show _ + val (r ++ []) k = _
        rw [List.append_nil, g3]
        rfl
      refine hn _ ⟨ps ++ [r], _, _, by rw [List.map_append]; rfl, fun f hf => ?_, by rw [List.length_append, List.length_singleton]; omega, fun k => ?_, fun k => ?_⟩
      · rcases List.mem_append.mp hf with z | z
        · exact hps f z
        · rw [List.mem_singleton.mp z]
          exact ⟨g1, fun e he => ⟨(g2 e he).1, by rw [hK]; exact (g2 e he).2.1.more⟩⟩
      · rw [ev, hv, htk, dsum_append]
        show _ = _ + (valC c1 x k * qv s + 0)
        grind
      · rw [ev, hdbl]
        have h1 := hb k
        have h2 := (g2.val g1.asc L.half.mp k).2
        rw [g3] at h2
        have h2 : valC c1 x k * qv s ≤ _ := h2
        grind
  · obtain ⟨ps, a, b, rfl, hps, hpl, hv, hb⟩ := hI
    rw [hzl] at hpl hb
    rw [List.take_length] at hv
    walk_at "ck"
    refine ⟨ps, Ks, _, _, rfl, hps, hb, pre.lim, pre.ks, by omega, fun r g1 g2 g3 => ?_⟩
    exact ⟨_, rfl, hk st r hr g1 fun k => by rw [g3, hv]⟩
def N_drawn : List Str := ["cellar", "deeds"]
theorem sc_drawn : FnScope N_drawn ["cellar", "deeds"] (defScope (top 46)) := ⟨rfl, rfl, rfl, by decide +kernel, rfl, by decide +kernel, by decide +kernel⟩
theorem ok_drawn (T : Txt K mg) (c_gone_in : Cal P w K mg base 10 "gone_in" (spF w_gone_in) []) : Cal P w K mg base 11 "drawn" (spF w_drawn) [] := by
  obtain ⟨f, fd, F, hm⟩ := T.fn 29 rfl
  refine mk_F F hm sc_drawn (fun _ _ _ _ _ _ us hl => match us, hl with | [_, _], _ => rfl) len_drawn fun cdv A outer s H E hr => ?_
  have nd : N_drawn.Nodup := sc_drawn.nd
  refine ⟨_, (b_one (t_ret (p_c c_gone_in hr (by decide) (a_cons (pv_ 0) (a_cons (pv_ 1) (a_cons p_str a_nil)))))), ?_⟩
  intro ds k hw
  obtain ⟨c, deeds, Ks, N, M, rfl, pre, hk⟩ := hw
  refine rho_of [.dat (cellD c), .dat (storyL deeds)] rfl ?_
  walk_at "ck"
  refine ⟨c, deeds, Ks, N, M, rfl, pre, fun st r h1 h2 h3 => ?_⟩
  exact ⟨_, rfl, hk st r h1 h2 h3⟩
end
end CK
set_option Elab.async false
set_option linter.all false
set_option maxRecDepth 100000
set_option maxHeartbeats 4000000
namespace CK
open PySem PySem.Spec PyProof.Rows L2
open Evl (Ex ex_l ex_t fresh_back)
open C8 (Cal pe_c)
abbrev pairD (p : Nat × Nat) : PD := .tuple [natD p.1, natD p.2]
structure Sty (c : Cell) (ds : List Deed) : Prop where
  cell : CellOk c
  ok : ∀ d, d ∈ ds → d.Ok c.length
  len : ds.length ≤ 900
def w_need_story : WDA := fun ds k => ∃ (l : List Deed) (n : Nat), ds = [storyT l, natD n] ∧ (∀ d, d ∈ l → d.Ok n) ∧ l.length ≤ 900 ∧ k .none
def w_is_draw : WDA := fun ds k => ∃ (l : List Deed) (i a : Nat) (s : Fr), ds = [storyT l, natD i] ∧ l[i]? = some (.draw a s) ∧ k (.bool true)
def w_need_draw : WDA := fun ds k => ∃ (l : List Deed) (i a : Nat) (s : Fr), ds = [storyT l, natD i] ∧ l[i]? = some (.draw a s) ∧ k .none
def w_every_lot : WDA := fun ds k => ∃ (c : Cell) (l : List Deed), ds = [cellD c, storyT l] ∧ Sty c l ∧ ∀ L, Lots c l L → k (.list (L.map .int))
def w_need_lot : WDA := fun ds k => ∃ (c : Cell) (l : List Deed) (z : Int), ds = [cellD c, storyT l, .int z] ∧ Sty c l ∧ IsLot c l z ∧ k .none
def w_ways_over : WDA := fun ds k => ∃ (d : Deed), ds = [deedD d] ∧ k (.list ((ways d).map pairD))
def w_emptied : WDA := fun ds k => ∃ (d : Deed), ds = [deedD d] ∧ k (.list ((emptied d).map fun a : Nat => PyData.int (a : Int)))
def firstL (c : Cell) : List Int := (c.zipIdx.filter fun p => !decide (p.1 = [])).map fun p => -1 - (p.2 : Int)
def addB : Deed → Bool
  | .add _ f => !decide (f = [])
  | _ => false
def laterL (l : List Deed) : List Int := (l.zipIdx.filter fun p => addB p.1).map fun p => (p.2 : Int)
theorem lots_of {c : Cell} {l : List Deed} {ns : List Int} (hp : ns.Perm (firstL c)) (hs : ns.Pairwise (· ≤ ·)) : Lots c l (ns ++ laterL l) := by
  have nd : (firstL c).Nodup := by
    unfold firstL
    refine List.Pairwise.map _ (fun a b h => h) (List.Pairwise.filter _ ?_)
    have : (c.zipIdx.map (·.2)).Nodup := by
      rw [List.zipIdx_map_snd]
      exact List.nodup_range'
    rw [List.Nodup, List.pairwise_map] at this
    exact this.imp fun {a b} h z => h (by omega)
  have la : (laterL l).Pairwise (· < ·) := by
    unfold laterL
    rw [List.pairwise_map]
    refine List.Pairwise.filter _ ?_
    have : (l.zipIdx.map (·.2)).Pairwise (· < ·) := by
      rw [List.zipIdx_map_snd]
      exact List.pairwise_lt_range'
    rw [List.pairwise_map] at this
    exact this.imp fun {a b} h => by omega
  have m1 : ∀ z, z ∈ firstL c ↔ ∃ a : Nat, z = -1 - (a : Int) ∧ a < c.length ∧ c.getD a [] ≠ [] := fun z => by
    unfold firstL
    rw [List.mem_map]
    constructor
    · rintro ⟨⟨f, a⟩, h, rfl⟩
      obtain ⟨h1, h2⟩ := List.mem_filter.mp h
      have h3 := List.mem_zipIdx_iff_getElem?.mp h1
      have h3 : c[a]? = some f := h3
      have hl := (List.getElem?_eq_some_iff.mp h3).1
      refine ⟨a, rfl, hl, ?_⟩
      rw [List.getD_eq_getElem?_getD, h3]
      simpa using h2
    · rintro ⟨a, rfl, hl, hn⟩
      refine ⟨(c.getD a [], a), List.mem_filter.mpr ⟨List.mem_zipIdx_iff_getElem?.mpr ?_, by simpa using hn⟩, rfl⟩
      show c[a]? = some (c.getD a [])
      rw [List.getD_eq_getElem?_getD, List.getElem?_eq_getElem hl]
      rfl
  have m2 : ∀ z, z ∈ laterL l ↔ ∃ (i a : Nat) (f : Fill), z = (i : Int) ∧ l[i]? = some (.add a f) ∧ f ≠ [] := fun z => by
    unfold laterL
    rw [List.mem_map]
    constructor
    · rintro ⟨⟨d, i⟩, h, rfl⟩
      obtain ⟨h1, h2⟩ := List.mem_filter.mp h
      have h3 : l[i]? = some d := List.mem_zipIdx_iff_getElem?.mp h1
      cases d with
      | add a f => exact ⟨i, a, f, rfl, h3, by simpa [addB] using h2⟩
      | _ => cases h2
    · rintro ⟨i, a, f, rfl, h3, hn⟩
      exact ⟨(.add a f, i), List.mem_filter.mpr ⟨List.mem_zipIdx_iff_getElem?.mpr h3, by simpa [addB] using hn⟩, rfl⟩
  refine ⟨List.pairwise_append.mpr ⟨?_, la, fun x hx y hy => ?_⟩, fun z => ?_⟩
  · have n2 : ns.Nodup := hp.nodup_iff.mpr nd
    exact List.Pairwise.imp₂ (fun a b h1 h2 => by omega) hs n2
  · obtain ⟨a, rfl, _⟩ := (m1 x).mp (hp.mem_iff.mp hx)
    obtain ⟨i, _, _, rfl, _⟩ := (m2 y).mp hy
    omega
  · rw [List.mem_append, hp.mem_iff, m1, m2]
    exact Iff.rfl
theorem len_need_story (ds : List PD) (k : PD → Prop) (h : w_need_story ds k) : ds.length = 2 := by obtain ⟨_, _, rfl, _⟩ := h; rfl
theorem len_is_draw (ds : List PD) (k : PD → Prop) (h : w_is_draw ds k) : ds.length = 2 := by obtain ⟨_, _, _, _, rfl, _⟩ := h; rfl
theorem len_need_draw (ds : List PD) (k : PD → Prop) (h : w_need_draw ds k) : ds.length = 2 := by obtain ⟨_, _, _, _, rfl, _⟩ := h; rfl
theorem len_every_lot (ds : List PD) (k : PD → Prop) (h : w_every_lot ds k) : ds.length = 2 := by obtain ⟨_, _, rfl, _⟩ := h; rfl
theorem len_need_lot (ds : List PD) (k : PD → Prop) (h : w_need_lot ds k) : ds.length = 3 := by obtain ⟨_, _, _, rfl, _⟩ := h; rfl
theorem len_ways_over (ds : List PD) (k : PD → Prop) (h : w_ways_over ds k) : ds.length = 1 := by obtain ⟨_, rfl, _⟩ := h; rfl
theorem len_emptied (ds : List PD) (k : PD → Prop) (h : w_emptied ds k) : ds.length = 1 := by obtain ⟨_, rfl, _⟩ := h; rfl
local macro_rules | `(tactic| walk_at "ck") => `(tactic| repeat (first
  | (with_reducible refine r_seq ?_)
  | (with_reducible refine r_next ?_)
  | (with_reducible refine r_ret ?_)
  | (with_reducible refine r_set ?_)
  | (with_reducible refine r_ifs ?_)
  | (with_reducible refine r_B ?_)
  | (with_reducible refine r_boolK ?_)
  | (with_reducible refine r_op ?_)
  | (with_reducible refine r_c ?_)
  | (with_reducible refine r_call ?_)
  | (with_reducible refine r_cons ?_)
  | (with_reducible refine r_nil ?_)
  | (with_reducible refine r_intK ?_)
  | ((with_reducible refine' r_var ?e ?_); (case e => exact rfl))
  | ((with_reducible refine' r_ixT ?e ?_); (case e => exact rfl))
  | ((with_reducible refine' r_loT ?e ?_); (case e => exact rfl))
  | ((with_reducible refine' r_ixK ?e ?_); (case e => exact rfl))
  | (with_reducible refine r_eqI ?_)
  | (with_reducible refine r_int2 ?_)
  | (with_reducible refine r_eqS ?_)
  | (with_reducible refine r_and ?_)
  | (with_reducible refine r_or ?_)
  | (with_reducible refine r_not ?_)
  | (with_reducible refine r_andV ?_)
  | (with_reducible refine r_ife ?_)
  | (with_reducible refine r_tup ?_)
  | (with_reducible refine r_lst ?_)
  | (with_reducible refine r_len1 ?_)
  | (with_reducible refine r_len2 ?_)
  | (with_reducible refine r_len0 ?_)
  | (with_reducible refine br_T ?_)
  | (with_reducible refine br_F ?_)
  | (with_reducible refine r_is ?_)
  | (with_reducible refine r_is5 ?_)
  | (with_reducible refine r_un ?_)
  | (with_reducible refine r_neg ?_)
  | (with_reducible refine r_chain ?_)
  | (with_reducible refine r_lenT ?_)
  | (with_reducible refine r_tupK ?_)
  | ((with_reducible refine' r_wixT ?e ?_); (case e => exact rfl))
  | (with_reducible refine r_for ?_)
  | (with_reducible refine r_gP ?_)
  | (with_reducible refine r_lcv ?_)
  | (with_reducible refine r_neFr1 ?_)
  | (with_reducible refine r_ninI ?_)
  | (with_reducible refine r_enT ?_)
  | (with_reducible refine br_nT ?_)
  | (with_reducible refine br_dt (by first | omega | assumption | (with_unfolding_all rfl) | (simp only [List.length_cons, List.length_nil]; omega) | decide +kernel) ?_)
  | (with_reducible refine br_df (by first | omega | assumption | (with_unfolding_all rfl) | (simp only [List.length_cons, List.length_nil]; omega) | decide +kernel) ?_)
  | (with_reducible refine br_nf (by first | omega | assumption | (with_unfolding_all rfl) | (simp only [List.length_cons, List.length_nil]; omega) | decide +kernel) ?_)))
section
variable {P : Program} {w : World} {K : PySem.W.Frag} {mg : Str → Option Value} {base : Heap}
def N_need_story : List Str := ["story", "casks", "index", "deed"]
theorem sc_need_story : FnScope N_need_story ["story", "casks"] (defScope (top 48)) := ⟨rfl, rfl, rfl, by decide +kernel, rfl, by decide +kernel, by decide +kernel⟩
theorem ok_need_story (T : Txt K mg) (c_is_deed_of : Cal P w K mg base 5 "is_deed_of" (spF w_is_deed_of) []) : Cal P w K mg base 6 "need_story" (spF w_need_story) [] := by
  obtain ⟨f, fd, F, hm⟩ := T.fn 30 rfl
  refine mk_F F hm sc_need_story (fun _ _ _ _ _ _ us hl => match us, hl with | [_, _], _ => rfl) len_need_story fun cdv A outer s H E hr => ?_
  have nd : N_need_story.Nodup := sc_need_story.nd
  refine ⟨_, (b_cons (t_if (q_not (q_val (p_is (T := "tuple") T.isinstance_ T.tuple_ (pv_ 0) (by decide +kernel)))) b_never b_nil)
  (b_one (t_for PassesOwn.never rfl (i_enumT T.enumerate_ (pv_ 0)) (v_pair 2 3 rfl nd)
  (b_one (t_if (q_not (q_val (p_c c_is_deed_of hr (by decide) (a_cons (pv_ 3) (a_cons (pv_ 1) a_nil))))) b_never b_nil))))), ?_⟩
  intro ds k hw
  obtain ⟨l, n, rfl, ok, hl, hk⟩ := hw
  refine rho_of [.dat (storyT l), .dat (natD n), .unk, .unk] rfl ?_
  walk_at "ck"
  rw [enumD_map]
  refine for_map (fun p : Deed × Nat => PyData.tuple [.int (p.2 : Int), deedD p.1]) (fun _ ρ => ∃ a b, ρ = [.dat (storyT l), .dat (natD n), a, b]) l.zipIdx ⟨_, _, rfl⟩ (fun i p ρ nx' hi hI hn => ?_) (fun ρ hI => ?_)
  · obtain ⟨a, b, rfl⟩ := hI
    have hm : l[p.2]? = some p.1 := List.mem_zipIdx_iff_getElem?.mp (List.mem_of_getElem? hi)
    walk_at "ck"
    refine ⟨p.1, n, rfl, ok p.1 (List.mem_of_getElem? hm), ?_⟩
    walk_at "ck"
    exact hn _ ⟨_, _, rfl⟩
  · obtain ⟨a, b, rfl⟩ := hI
    exact hk
def N_is_draw : List Str := ["story", "index"]
theorem sc_is_draw : FnScope N_is_draw ["story", "index"] (defScope (top 49)) := ⟨rfl, rfl, rfl, by decide +kernel, rfl, by decide +kernel, by decide +kernel⟩
theorem ok_is_draw (T : Txt K mg) (c_is_integer : Cal P w K mg base 1 "is_integer" (spF w_is_integer) []) : Cal P w K mg base 2 "is_draw" (spF w_is_draw) [] := by
  obtain ⟨f, fd, F, hm⟩ := T.fn 31 rfl
  refine mk_F F hm sc_is_draw (fun _ _ _ _ _ _ us hl => match us, hl with | [_, _], _ => rfl) len_is_draw fun cdv A outer s H E hr => ?_
  have nd : N_is_draw.Nodup := sc_is_draw.nd
  refine ⟨_, (b_one (t_ret (p_and (p_c c_is_integer hr (by decide) (a_cons (pv_ 1) a_nil)) (p_and (p_chain op_le s_le op_lt s_lt p_int (pv_ 1) (p_len T.len_ (a_cons (pv_ 0) a_nil))) (p_one (p_eq hr (p_ix (p_ixn 0 (pv_ 1)) p_int) p_str)))))), ?_⟩
  intro ds k hw
  obtain ⟨l, i, a, s, rfl, hi, hk⟩ := hw
  have hl := (List.getElem?_eq_some_iff.mp hi).1
  refine rho_of [.dat (storyT l), .dat (natD i)] rfl ?_
  walk_at "ck"
  refine ⟨_, rfl, ?_⟩
  walk_at "ck"
  rw [List.length_map]
  walk_at "ck"
  refine ⟨_, atI_nat (by rw [List.getElem?_map, hi]; rfl), ?_⟩
  walk_at "ck"
  exact ⟨_, rfl, hk⟩
def N_need_draw : List Str := ["story", "index"]
theorem sc_need_draw : FnScope N_need_draw ["story", "index"] (defScope (top 50)) := ⟨rfl, rfl, rfl, by decide +kernel, rfl, by decide +kernel, by decide +kernel⟩
theorem ok_need_draw (T : Txt K mg) (c_is_draw : Cal P w K mg base 2 "is_draw" (spF w_is_draw) []) : Cal P w K mg base 3 "need_draw" (spF w_need_draw) [] := by
  obtain ⟨f, fd, F, hm⟩ := T.fn 32 rfl
  refine mk_F F hm sc_need_draw (fun _ _ _ _ _ _ us hl => match us, hl with | [_, _], _ => rfl) len_need_draw fun cdv A outer s H E hr => ?_
  have nd : N_need_draw.Nodup := sc_need_draw.nd
  refine ⟨_, (b_one (t_if (q_not (q_val (p_c c_is_draw hr (by decide) (a_cons (pv_ 0) (a_cons (pv_ 1) a_nil))))) b_never b_nil)), ?_⟩
  intro ds k hw
  obtain ⟨l, i, a, s, rfl, hi, hk⟩ := hw
  refine rho_of [.dat (storyT l), .dat (natD i)] rfl ?_
  walk_at "ck"
  refine ⟨l, i, a, s, rfl, hi, ?_⟩
  walk_at "ck"
  exact hk
def N_every_lot : List Str := ["cellar", "story", "first", "cask", "fill", "index", "deed"]
theorem sc_every_lot : FnScope N_every_lot ["cellar", "story"] (defScope (top 51)) := ⟨rfl, rfl, rfl, by decide +kernel, rfl, by decide +kernel, by decide +kernel⟩
theorem ok_every_lot (T : Txt K mg) : Cal P w K mg base 1 "every_lot" (spF w_every_lot) [] := by
  obtain ⟨f, fd, F, hm⟩ := T.fn 33 rfl
  refine mk_F F hm sc_every_lot (fun _ _ _ _ _ _ us hl => match us, hl with | [_, _], _ => rfl) len_every_lot fun cdv A outer s H E hr => ?_
  have nd : N_every_lot.Nodup := sc_every_lot.nd
  refine ⟨_, (b_cons (t_set 2 nd (p_sorted T.sorted_ (a_cons (p_lc rfl nd (i_enumT T.enumerate_ (pv_ 0)) (blkOk_by (N := N_every_lot) (sc := defScope (top 51)) (own := [("cask", 3), ("fill", 4)]) (by decide +kernel)) rfl (fun _ _ _ _ _ => (v_pair 3 4 rfl nd)) (fun _ _ _ _ _ => (ts_one (q_ne hr (pv_ 4) (p_tup a_nil)))) (fun _ _ _ _ _ => (p_sub (p_neg p_int) (pv_ 3)))) a_nil)))
  (b_one (t_ret (p_add (pv_ 2) (p_lc rfl nd (i_enumT T.enumerate_ (pv_ 1)) (blkOk_by (N := N_every_lot) (sc := defScope (top 51)) (own := [("index", 5), ("deed", 6)]) (by decide +kernel)) rfl (fun _ _ _ _ _ => (v_pair 5 6 rfl nd)) (fun _ _ _ _ _ => (ts_one (q_pw (q_and (q_eq hr (p_ixn 6 p_int) p_str) (q_and1 (q_ne hr (p_ixn 6 p_int) (p_tup a_nil))))))) (fun _ _ _ _ _ => (pv_ 5))))))), ?_⟩
  intro ds k hw
  obtain ⟨c, l, rfl, st, hk⟩ := hw
  have hc1 := st.cell.hi
  have hl := st.len
  refine rho_of [.dat (cellD c), .dat (storyT l), .unk, .unk, .unk, .unk, .unk] rfl ?_
  walk_at "ck"
  rw [enumD_map]
  refine lc_filter (fun p : Fill × Nat => PyData.tuple [.int (p.2 : Int), fillD p.1]) (fun p => !decide (p.1 = [])) (fun p => .int (-1 - (p.2 : Int))) c.zipIdx [] (by rw [List.length_zipIdx]; show c.length + 0 ≤ _; omega) (fun p hp k k0 hb => ?_) ?_
  · have hm : c[p.2]? = some p.1 := List.mem_zipIdx_iff_getElem?.mp hp
    walk_at "ck"
    refine r_neFill (st.cell.fill _ (List.mem_of_getElem? hm)) ?_
    walk_at "ck"
    exact hb
  walk_at "ck"
  rw [List.nil_append]
  refine ⟨firstL c, by unfold firstL; rw [List.map_map]; rfl, ?_, fun ns hp hs => ?_⟩
  · unfold firstL
    rw [List.length_map]
    refine Nat.lt_of_le_of_lt (List.length_filter_le _ _) ?_
    rw [List.length_zipIdx]
    omega
  walk_at "ck"
  rw [enumD_map]
  refine lc_filter (fun p : Deed × Nat => PyData.tuple [.int (p.2 : Int), deedD p.1]) (fun p => addB p.1) (fun p => .int (p.2 : Int)) l.zipIdx [] (by rw [List.length_zipIdx]; show l.length + 0 ≤ _; omega) (fun p hp k k0 hb => ?_) ?_
  · obtain ⟨d, i⟩ := p
    have hm : l[i]? = some d := List.mem_zipIdx_iff_getElem?.mp hp
    have ok := st.ok d (List.mem_of_getElem? hm)
    cases d with
    | add a f =>
      walk_at "ck"
      refine r_neFill ok.2 ?_
      walk_at "ck"
      exact hb
    | move a b s =>
      walk_at "ck"
      exact hb.f
    | swap a b s =>
      walk_at "ck"
      exact hb.f
    | draw a s =>
      walk_at "ck"
      exact hb.f
    | keep a s =>
      walk_at "ck"
      exact hb.f
  walk_at "ck"
  have hz : (l.zipIdx.filter fun p => addB p.1).length ≤ l.length := by
    have := List.length_filter_le (fun p : Deed × Nat => addB p.1) l.zipIdx
    rw [List.length_zipIdx] at this
    exact this
  have hz2 : ns.length ≤ 8 := by
    rw [hp.length_eq]
    unfold firstL
    rw [List.length_map]
    refine Nat.le_trans (List.length_filter_le _ _) ?_
    rw [List.length_zipIdx]
    omega
  refine r_addL (by rw [List.nil_append, List.length_map, List.length_map]; omega) ?_
  refine ⟨_, rfl, ?_⟩
  have h := hk _ (lots_of (l := l) hp hs)
  rw [List.map_append] at h
  unfold laterL at h
  rw [List.map_map] at h
  exact h
def N_need_lot : List Str := ["cellar", "story", "lot"]
theorem sc_need_lot : FnScope N_need_lot ["cellar", "story", "lot"] (defScope (top 52)) := ⟨rfl, rfl, rfl, by decide +kernel, rfl, by decide +kernel, by decide +kernel⟩
theorem ok_need_lot (T : Txt K mg) (c_every_lot : Cal P w K mg base 1 "every_lot" (spF w_every_lot) []) (c_is_integer : Cal P w K mg base 1 "is_integer" (spF w_is_integer) []) : Cal P w K mg base 2 "need_lot" (spF w_need_lot) [] := by
  obtain ⟨f, fd, F, hm⟩ := T.fn 34 rfl
  refine mk_F F hm sc_need_lot (fun _ _ _ _ _ _ us hl => match us, hl with | [_, _, _], _ => rfl) len_need_lot fun cdv A outer s H E hr => ?_
  have nd : N_need_lot.Nodup := sc_need_lot.nd
  refine ⟨_, (b_one (t_if (q_pw (q_or (q_not (q_val (p_c c_is_integer hr (by decide) (a_cons (pv_ 2) a_nil)))) (q_or1 (q_nin (pv_ 2) (p_c c_every_lot hr (by decide) (a_cons (pv_ 0) (a_cons (pv_ 1) a_nil))))))) b_never b_nil)), ?_⟩
  intro ds k hw
  obtain ⟨c, l, z, rfl, st, hz, hk⟩ := hw
  refine rho_of [.dat (cellD c), .dat (storyT l), .dat (.int z)] rfl ?_
  walk_at "ck"
  refine ⟨_, rfl, ?_⟩
  walk_at "ck"
  refine ⟨c, l, rfl, st, fun L hL => ?_⟩
  have hm := (hL.mem z).mpr hz
  walk_at "ck"
  exact hk
def N_ways_over : List Str := ["deed"]
theorem sc_ways_over : FnScope N_ways_over ["deed"] (defScope (top 53)) := ⟨rfl, rfl, rfl, by decide +kernel, rfl, by decide +kernel, by decide +kernel⟩
theorem ok_ways_over (T : Txt K mg) : Cal P w K mg base 1 "ways_over" (spF w_ways_over) [] := by
  obtain ⟨f, fd, F, hm⟩ := T.fn 35 rfl
  refine mk_F F hm sc_ways_over (fun _ _ _ _ _ _ us hl => match us, hl with | [_], _ => rfl) len_ways_over fun cdv A outer s H E hr => ?_
  have nd : N_ways_over.Nodup := sc_ways_over.nd
  refine ⟨_, (b_cons (t_if (q_pw (q_or (q_nin (p_ixn 0 p_int) (p_tup (a_cons p_str (a_cons p_str a_nil)))) (q_or1 (q_eq hr (p_ix (p_ixn 0 p_int) p_int) p_int)))) (b_one (t_ret (p_lst a_nil))) b_nil)
  (b_cons (t_if (q_eq hr (p_ixn 0 p_int) p_str) (b_one (t_ret (p_lst (a_cons (p_tup (a_cons (p_ixn 0 p_int) (a_cons (p_ixn 0 p_int) a_nil))) a_nil)))) b_nil)
  (b_one (t_ret (p_lst (a_cons (p_tup (a_cons (p_ixn 0 p_int) (a_cons (p_ixn 0 p_int) a_nil))) (a_cons (p_tup (a_cons (p_ixn 0 p_int) (a_cons (p_ixn 0 p_int) a_nil))) a_nil))))))), ?_⟩
  intro ds k hw
  obtain ⟨d, rfl, hk⟩ := hw
  refine rho_of [.dat (deedD d)] rfl ?_
  cases d with
  | move a b s =>
    walk_at "ck"
    refine ⟨rfl, rfl, ?_⟩
    walk_at "ck"
    refine br_f (by decide +kernel) ?_
    walk_at "ck"
    refine br_2 (fun q => ?_) (fun q => ?_)
    · walk_at "ck"
      refine ⟨_, rfl, ?_⟩
      have e : ways (.move a b s) = [] := if_pos q
      rw [e] at hk
      exact hk
    · walk_at "ck"
      refine ⟨_, rfl, ?_⟩
      have e : ways (.move a b s) = [(a, b)] := if_neg q
      rw [e] at hk
      exact hk
  | swap a b s =>
    walk_at "ck"
    refine ⟨rfl, rfl, ?_⟩
    walk_at "ck"
    refine br_f (by decide +kernel) ?_
    walk_at "ck"
    refine br_2 (fun q => ?_) (fun q => ?_)
    · walk_at "ck"
      refine ⟨_, rfl, ?_⟩
      have e : ways (.swap a b s) = [] := if_pos q
      rw [e] at hk
      exact hk
    · walk_at "ck"
      refine ⟨_, rfl, ?_⟩
      have e : ways (.swap a b s) = [(a, b), (b, a)] := if_neg q
      rw [e] at hk
      exact hk
  | draw a s =>
    walk_at "ck"
    refine ⟨rfl, rfl, ?_⟩
    walk_at "ck"
    refine br_t (by decide +kernel) ?_
    walk_at "ck"
    exact ⟨_, rfl, hk⟩
  | keep a s =>
    walk_at "ck"
    refine ⟨rfl, rfl, ?_⟩
    walk_at "ck"
    refine br_t (by decide +kernel) ?_
    walk_at "ck"
    exact ⟨_, rfl, hk⟩
  | add a f =>
    walk_at "ck"
    refine ⟨rfl, rfl, ?_⟩
    walk_at "ck"
    refine br_t (by decide +kernel) ?_
    walk_at "ck"
    exact ⟨_, rfl, hk⟩
def N_emptied : List Str := ["deed"]
theorem sc_emptied : FnScope N_emptied ["deed"] (defScope (top 54)) := ⟨rfl, rfl, rfl, by decide +kernel, rfl, by decide +kernel, by decide +kernel⟩
theorem ok_emptied (T : Txt K mg) : Cal P w K mg base 1 "emptied" (spF w_emptied) [] := by
  obtain ⟨f, fd, F, hm⟩ := T.fn 36 rfl
  refine mk_F F hm sc_emptied (fun _ _ _ _ _ _ us hl => match us, hl with | [_], _ => rfl) len_emptied fun cdv A outer s H E hr => ?_
  have nd : N_emptied.Nodup := sc_emptied.nd
  refine ⟨_, (b_cons (t_if (q_eq hr (p_ixn 0 p_int) p_str) (b_one (t_ret (p_ife (q_eq hr (p_ix (p_ixn 0 p_int) p_int) p_int) (p_lst (a_cons (p_ixn 0 p_int) a_nil)) (p_lst a_nil)))) b_nil)
  (b_cons (t_if (q_pw (q_or (q_eq hr (p_ixn 0 p_int) p_str) (q_or1 (q_ne hr (p_ixn 0 (p_neg p_int)) (p_tup (a_cons p_int (a_cons p_int a_nil))))))) (b_one (t_ret (p_lst a_nil))) b_nil)
  (b_cons (t_if (q_eq hr (p_ixn 0 p_int) p_str) (b_one (t_ret (p_lst (a_cons (p_ixn 0 p_int) (a_cons (p_ixn 0 p_int) a_nil))))) b_nil)
  (b_one (t_ret (p_lst (a_cons (p_ixn 0 p_int) a_nil))))))), ?_⟩
  intro ds k hw
  obtain ⟨d, rfl, hk⟩ := hw
  refine rho_of [.dat (deedD d)] rfl ?_
  cases d with
  | move a b s =>
    walk_at "ck"
    refine br_2n (fun q => ?_) (fun q => ?_)
    · walk_at "ck"
      refine ⟨_, rfl, ?_⟩
      have e : emptied (.move a b s) = [] := if_neg q
      rw [e] at hk
      exact hk
    · walk_at "ck"
      refine ⟨_, rfl, ?_⟩
      have e : emptied (.move a b s) = [a] := if_pos q
      rw [e] at hk
      exact hk
  | swap a b s =>
    walk_at "ck"
    refine br_2n (fun q => ?_) (fun q => ?_)
    · walk_at "ck"
      refine ⟨_, rfl, ?_⟩
      have e : emptied (.swap a b s) = [] := if_neg q
      rw [e] at hk
      exact hk
    · walk_at "ck"
      refine ⟨_, rfl, ?_⟩
      have e : emptied (.swap a b s) = [a, b] := if_pos q
      rw [e] at hk
      exact hk
  | draw a s =>
    walk_at "ck"
    refine br_2n (fun q => ?_) (fun q => ?_)
    · walk_at "ck"
      refine ⟨_, rfl, ?_⟩
      have e : emptied (.draw a s) = [] := if_neg q
      rw [e] at hk
      exact hk
    · walk_at "ck"
      refine ⟨_, rfl, ?_⟩
      have e : emptied (.draw a s) = [a] := if_pos q
      rw [e] at hk
      exact hk
  | keep a s =>
    walk_at "ck"
    refine br_2 (fun q => ?_) (fun q => ?_)
    · walk_at "ck"
      refine ⟨_, rfl, ?_⟩
      have e : emptied (.keep a s) = [a] := if_pos q
      rw [e] at hk
      exact hk
    · walk_at "ck"
      refine ⟨_, rfl, ?_⟩
      have e : emptied (.keep a s) = [] := if_neg q
      rw [e] at hk
      exact hk
  | add a f =>
    walk_at "ck"
    exact ⟨_, rfl, hk⟩
end
end CK
set_option Elab.async false
set_option linter.all false
set_option maxRecDepth 100000
set_option maxHeartbeats 4000000
namespace CK
open PySem PySem.Spec PyProof.Rows L2
open Evl (Ex ex_l ex_t fresh_back)
open C8 (Cal pe_c)
abbrev boolD (b : Bool) : PD := .bool b
abbrev optD : Option (List Int) → PD
  | none => .none
  | some w => .list (w.map .int)
structure LotPre (c : Cell) (l : List Deed) (L : List Int) : Prop where
  st : Sty c l
  lots : Lots c l L
  len : L.length ≤ 30
def w_lots_ahead : WDA := fun ds k => ∃ (c : Cell) (l : List Deed) (L : List Int), ds = [cellD c, storyT l] ∧ LotPre c l L ∧ ∀ tab : List (List (List Int)), tab.length = l.length + 1 → (∀ (t : Nat) (nss : List (List Int)), tab[t]? = some nss → AheadOk c l t nss) → k (.list (tab.map nssD))
def w_carried_lots : List PD → (List (Key × PD) → Prop) → Prop := fun ds k => ∃ (c : Cell) (l : List Deed) (L : List Int), ds = [cellD c, storyT l] ∧ LotPre c l L ∧ ∀ tab, TabOk c l l.length tab → k (tabD tab)
def w_lots : WDA := fun ds k => ∃ (c : Cell) (l : List Deed), ds = [cellD c, storyT l] ∧ Sty c l ∧ ∀ L, Lots c l L → k (.list (L.map .int))
def w_touched : WDA := fun ds k => ∃ (c : Cell) (l : List Deed) (L : List Int) (z : Int), ds = [cellD c, storyT l, .int z] ∧ LotPre c l L ∧ IsLot c l z ∧ ∀ as : List Int, as.Pairwise (· < ·) → (∀ x, x ∈ as ↔ ∃ a : Nat, x = (a : Int) ∧ a < c.length ∧ Reach c l z l.length a) → k (.list (as.map .int))
def w_carried : WDA := fun ds k => ∃ (c : Cell) (l : List Deed) (L : List Int) (i a : Nat) (s : Fr), ds = [cellD c, storyT l, natD i] ∧ LotPre c l L ∧ l[i]? = some (.draw a s) ∧ ∀ ns, CarrOk c l i ns → k (.list (ns.map .int))
def w_shortest_roads : WDA := fun ds k => ∃ (c : Cell) (l : List Deed) (z : Int) (n : Nat), ds = [cellD c, storyT l, .int z, natD n] ∧ Sty c l ∧ IsLot c l z ∧ n ≤ l.length ∧ ∀ rs, RoadsOk c l z n rs → k (.list (rs.map optD))
def w_need_road : WDA := fun ds k => ∃ (c : Cell) (l : List Deed) (z : Int) (i a : Nat) (s : Fr), ds = [cellD c, storyT l, .int z, natD i] ∧ Sty c l ∧ IsLot c l z ∧ l[i]? = some (.draw a s) ∧ k .none
def w_road : WDA := fun ds k => ∃ (c : Cell) (l : List Deed) (z : Int) (i a : Nat) (s : Fr), ds = [cellD c, storyT l, .int z, natD i] ∧ Sty c l ∧ IsLot c l z ∧ l[i]? = some (.draw a s) ∧ ∀ r, RoadOk c l z i r → k (optD r)
section
variable {ρ : Rho} {iM iNow iOne iOther iDeed iIndex : Nat} {wd : TAD} {g : TGD} {te : TAD} {vs : List Nat} {wd2 : TAD} {g2 : TGD} {tt : TTD} {u : TSD} {D : DEnds}
theorem r_ahead (h : wd ρ fun items ρ1 => lcN g te vs (fun nss ρ2 => iM < ρ2.length ∧ wd2 (rset ρ2 iM .unk) fun items2 ρ3 => forN iOne iOther iNow g2 (fun nss' ρ4 =>
    tt ρ4 fun c ρ5 => br c (appN iDeed iIndex nss' ρ5 fun nss'' ρ6 => u D (rset ρ6 iNow (.dat (nssD nss'')))) (u D (rset ρ5 iNow (.dat (nssD nss'))))) items2 nss ρ3) items [] (wipeR ρ1 vs)) : dAhead iM iNow iOne iOther iDeed iIndex wd g te vs wd2 g2 tt u D ρ := h
end
theorem stay_map (d : Deed) (nss : List (List Int)) : nss.zipIdx.map (fun p => if p.2 ∈ emptied d then [] else p.1) = stayN d nss := by
  unfold stayN
  refine List.ext_getElem? fun i => ?_
  rw [List.getElem?_map, List.getElem?_mapIdx, List.getElem?_zipIdx]
  cases nss[i]? with
  | none => rfl
  | some x => simp
theorem nssD_enum (nss : List (List Int)) : enumD (nss.map fun ns => PyData.list (ns.map .int)) = nss.zipIdx.map fun p => .tuple [.int (p.2 : Int), .list (p.1.map .int)] := enumD_map _ _
theorem get_ex {α : Type} {xs : List α} {i : Nat} (h : i < xs.length) : ∃ x, xs[i]? = some x := ⟨_, List.getElem?_eq_getElem h⟩
theorem zip_at {α : Type} {l : List α} {t : Nat} {p : α × Nat} (h : l.zipIdx[t]? = some p) : ∃ d, p = (d, t) ∧ l[t]? = some d := by
  rw [List.getElem?_zipIdx] at h
  cases e : l[t]? with
  | none => rw [e] at h; cases h
  | some d =>
    rw [e] at h
    cases h
    exact ⟨d, by rw [Nat.zero_add], rfl⟩
theorem ahead0 (c : Cell) (l : List Deed) : AheadOk c l 0 (c.zipIdx.map fun p => if p.1 = [] then [] else [-1 - (p.2 : Int)]) := by
  have key : ∀ (a : Nat) (ns : List Int), (c.zipIdx.map fun p : Fill × Nat => if p.1 = [] then ([] : List Int) else [-1 - (p.2 : Int)])[a]? = some ns → a < c.length ∧ ns = if c.getD a [] = [] then [] else [-1 - (a : Int)] := fun a ns h => by
    rw [List.getElem?_map, List.getElem?_zipIdx] at h
    cases e : c[a]? with
    | none => rw [e] at h; cases h
    | some f =>
      rw [e] at h
      cases h
      refine ⟨(List.getElem?_eq_some_iff.mp e).1, ?_⟩
      rw [List.getD_eq_getElem?_getD, e]
      simp
  refine ⟨by rw [List.length_map, List.length_zipIdx], fun a ns h => ?_, fun a ns h z => ?_⟩
  · obtain ⟨_, rfl⟩ := key a ns h
    split
    · exact .nil
    · exact List.pairwise_singleton _ _
  · obtain ⟨hl, rfl⟩ := key a ns h
    split
    · rename_i q
      exact ⟨fun w => (nomatch w), fun w => absurd q w.2.2⟩
    · rename_i q
      rw [List.mem_singleton]
      exact ⟨fun w => ⟨w, hl, q⟩, fun w => w.1⟩
theorem put_new {tab : List (Int × List Int)} {i : Int} {ns : List Int} (h : i ∉ tab.map (·.1)) : putD (tabD tab) (.inl i) (.list (ns.map .int)) = tabD (tab ++ [(i, ns)]) := by
  have ha : ((tabD tab).any fun kv => decide (kv.1 = .inl i)) = false := by
    rw [List.any_eq_false]
    intro kv hkv
    unfold tabD at hkv
    obtain ⟨p, hp, rfl⟩ := List.mem_map.mp hkv
    rw [decide_eq_true_eq]
    exact fun z => h (List.mem_map.mpr ⟨p, hp, Sum.inl.inj z⟩)
  unfold putD
  rw [if_neg (by rw [ha]; decide)]
  unfold tabD
  rw [List.map_append]
  rfl
theorem tab_keys_lt {c : Cell} {l : List Deed} {n : Nat} {tab : List (Int × List Int)} (h : TabOk c l n tab) {x : Int} (hx : x ∈ tab.map (·.1)) : ∃ i : Nat, x = (i : Int) ∧ i < n ∧ ∃ a s, l[i]? = some (.draw a s) := by
  rw [h.keys] at hx
  obtain ⟨⟨d, i⟩, hp, rfl⟩ := List.mem_map.mp hx
  obtain ⟨h1, h2⟩ := List.mem_filter.mp hp
  have h3 : (l.take n)[i]? = some d := List.mem_zipIdx_iff_getElem?.mp h1
  have h4 := (List.getElem?_eq_some_iff.mp h3).1
  rw [List.length_take] at h4
  rw [List.getElem?_take_of_lt (by omega)] at h3
  cases d with
  | draw a s => exact ⟨i, rfl, by omega, a, s, h3⟩
  | _ => cases h2
theorem TabOk.len {c : Cell} {l : List Deed} {n : Nat} {tab : List (Int × List Int)} (h : TabOk c l n tab) : tab.length ≤ n := by
  have := congrArg List.length h.keys
  rw [List.length_map, List.length_map] at this
  rw [this]
  refine Nat.le_trans (List.length_filter_le _ _) ?_
  rw [List.length_zipIdx, List.length_take]
  omega
theorem TabOk.keyAsc {c : Cell} {l : List Deed} {n : Nat} {tab : List (Int × List Int)} (h : TabOk c l n tab) : (tab.map (·.1)).Pairwise (· < ·) := by
  rw [h.keys, List.pairwise_map]
  refine List.Pairwise.filter _ ?_
  have : ((l.take n).zipIdx.map (·.2)).Pairwise (· < ·) := by
    rw [List.zipIdx_map_snd]
    exact List.pairwise_lt_range'
  rw [List.pairwise_map] at this
  exact this.imp fun {a b} h => by omega
theorem TabOk.nil {c : Cell} {l : List Deed} : TabOk c l 0 [] := ⟨by rw [List.take_zero]; rfl, fun _ h => nomatch h⟩
theorem zip_take {l : List Deed} {t : Nat} {d : Deed} (h : l[t]? = some d) : (l.take (t + 1)).zipIdx = (l.take t).zipIdx ++ [(d, t)] := by
  have hl := (List.getElem?_eq_some_iff.mp h).1
  rw [List.take_add_one, h, List.zipIdx_append, List.length_take]
  have e : 0 + min t l.length = t := by omega
  rw [e]
  rfl
theorem TabOk.skip {c : Cell} {l : List Deed} {t : Nat} {tab : List (Int × List Int)} {d : Deed} (h : TabOk c l t tab) (hd : l[t]? = some d) (hn : isDraw d = false) : TabOk c l (t + 1) tab := by
  refine ⟨?_, h.ok⟩
  rw [h.keys, zip_take hd, List.filter_append]
  have : List.filter (fun p : Deed × Nat => isDraw p.1) [(d, t)] = [] := by rw [List.filter_cons, if_neg (by rw [hn]; decide)]; rfl
  rw [this, List.append_nil]
theorem TabOk.add {c : Cell} {l : List Deed} {t a : Nat} {s : Fr} {tab : List (Int × List Int)} {ns : List Int} (h : TabOk c l t tab) (hd : l[t]? = some (.draw a s)) (hn : CarrOk c l t ns) : TabOk c l (t + 1) (tab ++ [((t : Int), ns)]) := by
  refine ⟨?_, fun p hp => ?_⟩
  · rw [List.map_append, h.keys, zip_take hd, List.filter_append, List.map_append]
    rfl
  · rcases List.mem_append.mp hp with q | q
    · exact h.ok p q
    · rw [List.mem_singleton.mp q]
      exact ⟨t, rfl, hn⟩
theorem TabOk.get {c : Cell} {l : List Deed} {tab : List (Int × List Int)} (h : TabOk c l l.length tab) {i a : Nat} {s : Fr} (hi : l[i]? = some (.draw a s)) : ∃ ns, ((i : Int), ns) ∈ tab ∧ CarrOk c l i ns := by
  have hm : (i : Int) ∈ tab.map (·.1) := by
    rw [h.keys]
    refine List.mem_map.mpr ⟨(.draw a s, i), List.mem_filter.mpr ⟨List.mem_zipIdx_iff_getElem?.mpr ?_, rfl⟩, rfl⟩
    show (l.take l.length)[i]? = some _
    rw [List.take_length]
    exact hi
  obtain ⟨⟨x, ns⟩, hp, e⟩ := List.mem_map.mp hm
  have e : x = (i : Int) := e
  subst e
  obtain ⟨j, e2, ok⟩ := h.ok _ hp
  have : i = j := by
    have e2 : (i : Int) = (j : Int) := e2
    omega
  subst this
  exact ⟨ns, hp, ok⟩
theorem tab_val : ∀ {tab : List (Int × List Int)} {i : Int} {ns : List Int}, (tab.map (·.1)).Nodup → (i, ns) ∈ tab → valD (tabD tab) (.inl i) = some (.list (ns.map .int))
  | [], _, _, _, h => by cases h
  | (x, ms) :: tab, i, ns, hn, h => by
    rw [List.map_cons, List.nodup_cons] at hn
    by_cases q : x = i
    · subst q
      rcases List.mem_cons.mp h with e | e
      · cases e
        simp [valD, tabD]
      · exact absurd (List.mem_map.mpr ⟨_, e, rfl⟩) hn.1
    · have e1 : valD (tabD ((x, ms) :: tab)) (.inl i) = valD (tabD tab) (.inl i) := by
        have : ¬ ((Sum.inl x : Key) = .inl i) := fun z => q (Sum.inl.inj z)
        simp [valD, tabD, this]
      rw [e1]
      rcases List.mem_cons.mp h with e | e
      · cases e
        exact absurd rfl q
      · exact tab_val hn.2 e
theorem stayR_map (d : Deed) (rs : List (Option (List Int))) : rs.zipIdx.map (fun p => optD (if p.2 ∈ emptied d then none else p.1)) = (stayR d rs).map optD := by
  unfold stayR
  refine List.ext_getElem? fun i => ?_
  rw [List.getElem?_map, List.getElem?_map, List.getElem?_mapIdx, List.getElem?_zipIdx]
  cases rs[i]? with
  | none => rfl
  | some x => simp
theorem range_map {α : Type} (n : Nat) (f : Int → α) : (rngD 0 n).map (fun d => d) = (List.range n).map fun i : Nat => PyData.int (i : Int) := by
  unfold rngD
  rw [List.map_id']
  refine List.map_congr_left fun i _ => ?_
  rw [Int.zero_add]
theorem rng0 (n : Nat) : rngD 0 n = (List.range n).map natD := by
  unfold rngD
  refine List.map_congr_left fun i _ => ?_
  rw [Int.zero_add]
theorem lcN_map {α : Type} {g : TGD} {te : TAD} {vs : List Nat} {fin : List (List Int) → Rho → Prop} {ρ : Rho} (enc : α → PD) (f : α → List Int) : ∀ (xs : List α) (acc : List (List Int)), xs.length + acc.length ≤ 100000 →
    (∀ x, x ∈ xs → ∀ (k : List PD → Rho → Prop), k ((f x).map .int) ρ → g (enc x) ρ fun ρ1 => te ρ1 fun ds ρ2 => k ds (wipeR ρ2 vs)) → fin (acc ++ xs.map f) ρ → lcN g te vs fin (xs.map enc) acc ρ
  | [], acc, _, _, hf => by
    have e : acc ++ ([] : List α).map f = acc := List.append_nil acc
    rw [e] at hf
    exact hf
  | x :: xs, acc, hl, h, hf => by
    rw [List.length_cons] at hl
    refine h x List.mem_cons_self (fun ds ρ' => ∃ ns : List Int, ds = ns.map .int ∧ acc.length < 100000 ∧ lcN g te vs fin (xs.map enc) (acc ++ [ns]) ρ') ⟨f x, rfl, by omega, ?_⟩
    refine lcN_map enc f xs (acc ++ [f x]) (by rw [List.length_append]; show xs.length + (acc.length + 1) ≤ 100000; omega) (fun y hy => h y (List.mem_cons_of_mem _ hy)) ?_
    rw [List.append_assoc]
    exact hf
theorem forN_map {α : Type} {iOne iOther iNow : Nat} {g : TGD} {k : List (List Int) → Rho → Prop} (enc : α → PD) (I : List α → List (List Int) → Rho → Prop) : ∀ (xs pre : List α) (nss : List (List Int)) (ρ : Rho), I pre nss ρ →
    (∀ (pre : List α) (x : α) (post : List α) (nss : List (List Int)) (ρ : Rho) (k' : List (List Int) → Rho → Prop), xs = xs → x ∈ xs → I pre nss ρ → (∀ nss' ρ', I (pre ++ [x]) nss' ρ' → k' nss' ρ') → g (enc x) ρ fun ρ1 => setN iOne iOther iNow nss ρ1 k') →
    (∀ nss ρ, I (pre ++ xs) nss ρ → k nss ρ) → forN iOne iOther iNow g k (xs.map enc) nss ρ
  | [], pre, nss, ρ, h0, _, hf => hf nss ρ (by rw [List.append_nil]; exact h0)
  | x :: xs, pre, nss, ρ, h0, hs, hf => hs pre x [] nss ρ _ rfl List.mem_cons_self h0 fun nss' ρ' h' => forN_map enc I xs (pre ++ [x]) nss' ρ' h' (fun pre y post nss ρ k' _ hy => hs pre y post nss ρ k' rfl (List.mem_cons_of_mem _ hy)) fun nss ρ h => hf nss ρ (by rw [List.append_assoc] at h; exact h)
theorem len_lots_ahead (ds : List PD) (k : PD → Prop) (h : w_lots_ahead ds k) : ds.length = 2 := by obtain ⟨_, _, _, rfl, _⟩ := h; rfl
theorem len_carried_lots (ds : List PD) (k : List (Key × PD) → Prop) (h : w_carried_lots ds k) : ds.length = 2 := by obtain ⟨_, _, _, rfl, _⟩ := h; rfl
theorem len_lots (ds : List PD) (k : PD → Prop) (h : w_lots ds k) : ds.length = 2 := by obtain ⟨_, _, rfl, _⟩ := h; rfl
theorem len_touched (ds : List PD) (k : PD → Prop) (h : w_touched ds k) : ds.length = 3 := by obtain ⟨_, _, _, _, rfl, _⟩ := h; rfl
theorem len_carried (ds : List PD) (k : PD → Prop) (h : w_carried ds k) : ds.length = 3 := by obtain ⟨_, _, _, _, _, _, rfl, _⟩ := h; rfl
theorem len_shortest_roads (ds : List PD) (k : PD → Prop) (h : w_shortest_roads ds k) : ds.length = 4 := by obtain ⟨_, _, _, _, rfl, _⟩ := h; rfl
theorem len_need_road (ds : List PD) (k : PD → Prop) (h : w_need_road ds k) : ds.length = 4 := by obtain ⟨_, _, _, _, _, _, rfl, _⟩ := h; rfl
theorem len_road (ds : List PD) (k : PD → Prop) (h : w_road ds k) : ds.length = 4 := by obtain ⟨_, _, _, _, _, _, rfl, _⟩ := h; rfl
local macro_rules | `(tactic| walk_at "ck") => `(tactic| repeat (first
  | (with_reducible refine r_seq ?_)
  | (with_reducible refine r_next ?_)
  | (with_reducible refine r_ret ?_)
  | (with_reducible refine r_set ?_)
  | (with_reducible refine r_ifs ?_)
  | (with_reducible refine r_drop ?_)
  | (with_reducible refine r_B ?_)
  | (with_reducible refine r_boolK ?_)
  | (with_reducible refine r_op ?_)
  | (with_reducible refine r_c ?_)
  | (with_reducible refine r_call ?_)
  | (with_reducible refine r_cons ?_)
  | (with_reducible refine r_nil ?_)
  | (with_reducible refine r_intK ?_)
  | ((with_reducible refine' r_var ?e ?_); (case e => exact rfl))
  | ((with_reducible refine' r_ixT ?e ?_); (case e => exact rfl))
  | ((with_reducible refine' r_loT ?e ?_); (case e => exact rfl))
  | ((with_reducible refine' r_ixK ?e ?_); (case e => exact rfl))
  | (with_reducible refine r_eqI ?_)
  | (with_reducible refine r_int2 ?_)
  | (with_reducible refine r_eqS ?_)
  | (with_reducible refine r_addI ?_)
  | (with_reducible refine r_and ?_)
  | (with_reducible refine r_or ?_)
  | (with_reducible refine r_ife ?_)
  | (with_reducible refine r_tup ?_)
  | (with_reducible refine r_lst ?_)
  | (with_reducible refine r_len1 ?_)
  | (with_reducible refine r_len0 ?_)
  | (with_reducible refine br_T ?_)
  | (with_reducible refine br_F ?_)
  | (with_reducible refine r_un ?_)
  | (with_reducible refine r_neg ?_)
  | (with_reducible refine r_lenT ?_)
  | (with_reducible refine r_lenL ?_)
  | (with_reducible refine r_lstK ?_)
  | (with_reducible refine r_tupK ?_)
  | ((with_reducible refine' r_ixL ?e ?_); (case e => exact rfl))
  | ((with_reducible refine' r_loL ?e ?_); (case e => exact rfl))
  | ((with_reducible refine' r_ixO ?e ?_); (case e => exact rfl))
  | ((with_reducible refine' r_loO ?e ?_); (case e => exact rfl))
  | ((with_reducible refine' r_varo ?e ?_); (case e => exact rfl))
  | ((with_reducible refine' r_wixT ?e ?_); (case e => exact rfl))
  | (with_reducible refine r_listL ?_)
  | (with_reducible refine r_notN ?_)
  | (with_reducible refine r_for ?_)
  | (with_reducible refine r_itL ?_)
  | (with_reducible refine r_enL ?_)
  | (with_reducible refine r_rng1 ?_)
  | (with_reducible refine r_gN ?_)
  | (with_reducible refine r_gP ?_)
  | (with_reducible refine r_yes ?_)
  | (with_reducible refine r_lcv ?_)
  | (with_reducible refine r_lc ?_)
  | (with_reducible refine r_setO ?_)
  | (with_reducible refine r_setD ?_)
  | (with_reducible refine r_retC ?_)
  | (with_reducible refine r_olst ?_)
  | (with_reducible refine r_olist ?_)
  | (with_reducible refine r_wlistOL ?_)
  | (with_reducible refine r_ocall ?_)
  | (with_reducible refine r_putD ?_)
  | (with_reducible refine r_app ?_)
  | (with_reducible refine r_setI ?_)
  | (with_reducible refine r_getC ?_)
  | ((with_reducible refine' r_dicT ?e ?_); (case e => exact rfl))
  | ((with_reducible refine' r_dkT ?e ?_); (case e => exact rfl))
  | ((with_reducible refine' r_dic ?e ?_); (case e => exact rfl))
  | ((with_reducible refine' r_dkO ?e ?_); (case e => exact rfl))
  | ((with_reducible refine' r_datK ?e ?_); (case e => exact rfl))
  | (with_reducible refine r_keyI ?_)
  | (with_reducible refine r_inI ?_)
  | (with_reducible refine r_inN ?_)
  | (with_reducible refine r_enT ?_)
  | (with_reducible refine br_dt (by first | omega | assumption | (with_unfolding_all rfl) | (simp only [List.length_cons, List.length_nil]; omega) | decide +kernel) ?_)
  | (with_reducible refine br_df (by first | omega | assumption | (with_unfolding_all rfl) | (simp only [List.length_cons, List.length_nil]; omega) | decide +kernel) ?_)
  | (with_reducible refine And.intro (by omega) ?_)))
section
variable {P : Program} {w : World} {K : PySem.W.Frag} {mg : Str → Option Value} {base : Heap}
def N_lots : List Str := ["cellar", "story"]
theorem sc_lots : FnScope N_lots ["cellar", "story"] (defScope (top 57)) := ⟨rfl, rfl, rfl, by decide +kernel, rfl, by decide +kernel, by decide +kernel⟩
theorem ok_lots (T : Txt K mg) (c_every_lot : Cal P w K mg base 1 "every_lot" (spF w_every_lot) []) (c_need_cellar : Cal P w K mg base 5 "need_cellar" (spF w_need_cellar) []) (c_need_story : Cal P w K mg base 6 "need_story" (spF w_need_story) []) : Cal P w K mg base 7 "lots" (spF w_lots) [] := by
  obtain ⟨f, fd, F, hm⟩ := T.fn 39 rfl
  refine mk_F F hm sc_lots (fun _ _ _ _ _ _ us hl => match us, hl with | [_, _], _ => rfl) len_lots fun cdv A outer s H E hr => ?_
  have nd : N_lots.Nodup := sc_lots.nd
  refine ⟨_, (b_cons (t_expr (p_c c_need_cellar hr (by decide) (a_cons (pv_ 0) a_nil)))
  (b_cons (t_expr (p_c c_need_story hr (by decide) (a_cons (pv_ 1) (a_cons (p_len T.len_ (a_cons (pv_ 0) a_nil)) a_nil))))
  (b_one (t_ret (p_c c_every_lot hr (by decide) (a_cons (pv_ 0) (a_cons (pv_ 1) a_nil))))))), ?_⟩
  intro ds k hw
  obtain ⟨c, l, rfl, st, hk⟩ := hw
  refine rho_of [.dat (cellD c), .dat (storyT l)] rfl ?_
  walk_at "ck"
  refine ⟨c, rfl, st.cell, ?_⟩
  walk_at "ck"
  refine ⟨l, c.length, by rw [List.length_map], st.ok, st.len, ?_⟩
  walk_at "ck"
  refine ⟨c, l, rfl, st, fun L hL => ?_⟩
  exact ⟨_, rfl, hk L hL⟩
def N_need_road : List Str := ["cellar", "story", "lot", "index"]
theorem sc_need_road : FnScope N_need_road ["cellar", "story", "lot", "index"] (defScope (top 61)) := ⟨rfl, rfl, rfl, by decide +kernel, rfl, by decide +kernel, by decide +kernel⟩
theorem ok_need_road (T : Txt K mg) (c_need_cellar : Cal P w K mg base 5 "need_cellar" (spF w_need_cellar) []) (c_need_draw : Cal P w K mg base 3 "need_draw" (spF w_need_draw) []) (c_need_lot : Cal P w K mg base 2 "need_lot" (spF w_need_lot) []) (c_need_story : Cal P w K mg base 6 "need_story" (spF w_need_story) []) : Cal P w K mg base 7 "need_road" (spF w_need_road) [] := by
  obtain ⟨f, fd, F, hm⟩ := T.fn 43 rfl
  refine mk_F F hm sc_need_road (fun _ _ _ _ _ _ us hl => match us, hl with | [_, _, _, _], _ => rfl) len_need_road fun cdv A outer s H E hr => ?_
  have nd : N_need_road.Nodup := sc_need_road.nd
  refine ⟨_, (b_cons (t_expr (p_c c_need_cellar hr (by decide) (a_cons (pv_ 0) a_nil)))
  (b_cons (t_expr (p_c c_need_story hr (by decide) (a_cons (pv_ 1) (a_cons (p_len T.len_ (a_cons (pv_ 0) a_nil)) a_nil))))
  (b_cons (t_expr (p_c c_need_lot hr (by decide) (a_cons (pv_ 0) (a_cons (pv_ 1) (a_cons (pv_ 2) a_nil)))))
  (b_one (t_expr (p_c c_need_draw hr (by decide) (a_cons (pv_ 1) (a_cons (pv_ 3) a_nil)))))))), ?_⟩
  intro ds k hw
  obtain ⟨c, l, z, i, a, s, rfl, st, hz, hi, hk⟩ := hw
  refine rho_of [.dat (cellD c), .dat (storyT l), .dat (.int z), .dat (natD i)] rfl ?_
  walk_at "ck"
  refine ⟨c, rfl, st.cell, ?_⟩
  walk_at "ck"
  refine ⟨l, c.length, by rw [List.length_map], st.ok, st.len, ?_⟩
  walk_at "ck"
  refine ⟨c, l, z, rfl, st, hz, ?_⟩
  walk_at "ck"
  refine ⟨l, i, a, s, rfl, hi, ?_⟩
  walk_at "ck"
  exact hk
def N_lots_ahead : List Str := ["cellar", "story", "now", "cask", "fill", "found", "index", "deed", "gone", "made", "here", "one", "other"]
theorem sc_lots_ahead : FnScope N_lots_ahead ["cellar", "story"] (defScope (top 55)) := ⟨rfl, rfl, rfl, by decide +kernel, rfl, by decide +kernel, by decide +kernel⟩
theorem ok_lots_ahead (T : Txt K mg) (c_emptied : Cal P w K mg base 1 "emptied" (spF w_emptied) []) (c_ways_over : Cal P w K mg base 1 "ways_over" (spF w_ways_over) []) : Cal P w K mg base 2 "lots_ahead" (spF w_lots_ahead) [] := by
  obtain ⟨f, fd, F, hm⟩ := T.fn 37 rfl
  refine mk_F F hm sc_lots_ahead (fun _ _ _ _ _ _ us hl => match us, hl with | [_, _], _ => rfl) len_lots_ahead fun cdv A outer s H E hr => ?_
  have nd : N_lots_ahead.Nodup := sc_lots_ahead.nd
  refine ⟨_, (b_cons (t_setLc 2 rfl nd (i_enumT T.enumerate_ (pv_ 0)) (blkOk_by (N := N_lots_ahead) (sc := defScope (top 55)) (own := [("cask", 3), ("fill", 4)]) (by decide +kernel)) rfl (fun _ _ _ _ _ => (v_pair 3 4 rfl nd)) (fun _ _ _ _ _ => ts_nil) (fun _ _ _ _ _ => (p_ife (q_ne hr (pv_ 4) (p_tup a_nil)) (p_lst (a_cons (p_sub (p_neg p_int) (pv_ 3)) a_nil)) (p_lst a_nil))))
  (b_cons (t_setO 5 nd (o_lst (a_cons (pv_ 2) a_nil)))
  (b_cons (t_for PassesOwn.never rfl (i_enumT T.enumerate_ (pv_ 1)) (v_pair 6 7 rfl nd)
  (b_cons (t_set 8 nd (p_c c_emptied hr (by decide) (a_cons (pv_ 7) a_nil)))
  (b_ahead 9 2 11 12 7 6 (n_made 9 rfl nd (i_enumL T.enumerate_ (pv_ 2)) (blkOk_by (N := N_lots_ahead) (sc := defScope (top 55)) (own := [("cask", 3), ("here", 10)]) (by decide +kernel)) rfl (fun _ _ _ _ _ => (v_pair 3 10 rfl nd)) (fun _ _ _ _ _ => (o_ife (q_in (pv_ 3) (pv_ 8)) (o_lst a_nil) (o_list T.list_ (a_cons (pv_ 10) a_nil)))))
    (n_for 9 11 12 2 PassesOwn.never rfl (i_list (p_c c_ways_over hr (by decide) (a_cons (pv_ 7) a_nil))) (v_pair 11 12 rfl nd) (by decide) (n_set 9 11 12 2 T.sorted_ T.set_ rfl))
    (n_app 9 7 6 (q_pw (q_and (q_eq hr (p_ixn 7 p_int) p_str) (q_and1 (q_ne hr (p_ixn 7 p_int) (p_tup a_nil))))))
    (b_one (t_app 5 (pv_ 2))) nd)))
  (b_one (t_ret (pv_ 5)))))), ?_⟩
  intro ds k hw
  obtain ⟨c, l, L, rfl, pre, hk⟩ := hw
  have hc1 := pre.st.cell.hi
  have hl := pre.st.len
  refine rho_of [.dat (cellD c), .dat (storyT l), .unk, .unk, .unk, .unk, .unk, .unk, .unk, .unk, .unk, .unk, .unk] rfl ?_
  walk_at "ck"
  rw [enumD_map]
  refine lc_map (fun p : Fill × Nat => PyData.tuple [.int (p.2 : Int), fillD p.1]) (fun p => .list ((if p.1 = [] then [] else [-1 - (p.2 : Int)]).map .int)) c.zipIdx [] (by rw [List.length_zipIdx]; show c.length + 0 ≤ _; omega) (fun p hp k k0 hb => ?_) ?_
  · have hm : c[p.2]? = some p.1 := List.mem_zipIdx_iff_getElem?.mp hp
    walk_at "ck"
    refine r_neFill (pre.st.cell.fill _ (List.mem_of_getElem? hm)) ?_
    walk_at "ck"
    refine br_2n (fun q => ?_) (fun q => ?_)
    · rw [if_neg q] at hb
      walk_at "ck"
      exact hb
    · rw [if_pos q] at hb
      walk_at "ck"
      exact hb
  walk_at "ck"
  rw [enumD_map]
  have a0 := ahead0 c l
  have e0 : PyData.list (c.zipIdx.map fun p => PyData.list ((if p.1 = [] then ([] : List Int) else [-1 - (p.2 : Int)]).map .int)) = nssD (c.zipIdx.map fun p => if p.1 = [] then [] else [-1 - (p.2 : Int)]) := by
    unfold nssD
    rw [List.map_map]
    rfl
  rw [List.nil_append, e0]
  refine for_map (fun p : Deed × Nat => PyData.tuple [.int (p.2 : Int), deedD p.1]) (fun t ρ => ∃ nss tab x3 x4 x6 x7 x8 x9 x10 x11 x12, ρ = [.dat (cellD c), .dat (storyT l), .dat (nssD nss), x3, x4, .own (tab.map nssD), x6, x7, x8, x9, x10, x11, x12] ∧ AheadOk c l t nss ∧ tab.length = t + 1 ∧ ∀ (t' : Nat) (nss' : List (List Int)), tab[t']? = some nss' → AheadOk c l t' nss') l.zipIdx
    ⟨_, [c.zipIdx.map fun p => if p.1 = [] then [] else [-1 - (p.2 : Int)]], _, _, _, _, _, _, _, _, _, rfl, a0, rfl, fun t' nss' h => by
      cases t' with
      | zero => cases h; exact a0
      | succ n => cases h⟩ (fun t p ρ nx' hi hI hn => ?_) (fun ρ hI => ?_)
  · obtain ⟨nss, tab, x3, x4, x6, x7, x8, x9, x10, x11, x12, rfl, hA, htl, htab⟩ := hI
    obtain ⟨d, rfl, hd⟩ := zip_at hi
    have hlt := (List.getElem?_eq_some_iff.mp hd).1
    have ok := pre.st.ok _ (List.mem_of_getElem? hd)
    walk_at "ck"
    refine ⟨d, rfl, ?_⟩
    walk_at "ck"
    refine r_ahead ?_
    walk_at "ck"
    refine r_lstK (ds := nss.map fun ns => PyData.list (ns.map .int)) ?_
    rw [nssD_enum]
    refine lcN_map (fun p : List Int × Nat => PyData.tuple [.int (p.2 : Int), .list (p.1.map .int)]) (fun p => if p.2 ∈ emptied d then [] else p.1) nss.zipIdx [] (by rw [List.length_zipIdx, hA.len]; show _ + 0 ≤ _; omega) (fun p hp k hk => ?_) ?_
    · walk_at "ck"
      refine br_2 (fun q => ?_) (fun q => ?_)
      · rw [if_pos q] at hk
        walk_at "ck"
        exact hk
      · rw [if_neg q] at hk
        walk_at "ck"
        exact hk
    rw [List.nil_append, stay_map]
    refine ⟨by show 9 < 13; decide, ?_⟩
    walk_at "ck"
    refine ⟨d, rfl, ?_⟩
    walk_at "ck"
    refine forN_map pairD (fun pre nss' ρ' => MidOk c l t d pre nss' ∧ ∃ y3 y10 y11 y12, ρ' = [.dat (cellD c), .dat (storyT l), .dat (nssD nss), y3, x4, .own (tab.map nssD), .dat (.int (t : Int)), .dat (deedD d), .dat (.list ((emptied d).map fun a : Nat => PyData.int (a : Int))), .unk, y10, y11, y12]) (ways d) [] _ _ ⟨MidOk.start hA, _, _, _, _, rfl⟩ (fun ws x post nss' ρ k' _ hx hI hk' => ?_) (fun nss2 ρ hI => ?_)
    · obtain ⟨hM, y3, y10, y11, y12, rfl⟩ := hI
      obtain ⟨o, b⟩ := x
      obtain ⟨ho, hb, _⟩ := ways_lt ok hx
      obtain ⟨m1, e1⟩ := get_ex (xs := nss') (i := b) (by rw [hM.len]; exact hb)
      obtain ⟨m2, e2⟩ := get_ex (xs := nss) (i := o) (by rw [hA.len]; exact ho)
      have l1 := hM.len_le pre.lots e1
      have l2 := hA.len_le pre.lots e2
      have l3 := pre.len
      walk_at "ck"
      refine ⟨b, o, _, _, _, rfl, rfl, rfl, e1, atI_nat (by rw [List.getElem?_map, e2]; rfl), by omega, fun ys h1 h2 => ?_⟩
      exact hk' _ _ ⟨hM.add hA e1 e2 h1 h2, _, _, _, _, rfl⟩
    · obtain ⟨N2, y3, y10, y11, y12, rfl⟩ := hI
      rw [List.nil_append] at N2
      have fin : ∀ (nss3 : List (List Int)) (z3 z10 z11 z12 : En), AheadOk c l (t + 1) nss3 → nx' [.dat (cellD c), .dat (storyT l), .dat (nssD nss3), z3, x4, .own (tab.map nssD ++ [nssD nss3]), .dat (.int (t : Int)), .dat (deedD d), .dat (.list ((emptied d).map fun a : Nat => PyData.int (a : Int))), .unk, z10, z11, z12] := fun nss3 z3 z10 z11 z12 h3 => by
        refine hn _ ⟨nss3, tab ++ [nss3], _, _, _, _, _, _, _, _, _, by rw [List.map_append]; rfl, h3, by rw [List.length_append, htl]; rfl, fun t' nss' ht' => ?_⟩
        by_cases q : t' < tab.length
        · rw [List.getElem?_append_left q] at ht'
          exact htab t' nss' ht'
        · have e : t' = tab.length := by
            have := (List.getElem?_eq_some_iff.mp ht').1
            rw [List.length_append, List.length_singleton] at this
            omega
          subst e
          rw [List.getElem?_append_right (Nat.le_refl _), Nat.sub_self] at ht'
          cases ht'
          rw [htl]
          exact h3
      cases d with
      | add a f =>
        walk_at "ck"
        refine r_neFill ok.2 ?_
        walk_at "ck"
        refine br_2n (fun q => ?_) (fun q => ?_)
        · obtain ⟨m1, e1⟩ := get_ex (xs := nss2) (i := a) (by rw [N2.len]; exact ok.1)
          have l1 := N2.len_le pre.lots e1
          have l3 := pre.len
          refine ⟨_, a, _, _, rfl, rfl, rfl, e1, by omega, ?_⟩
          walk_at "ck"
          rw [List.length_map, htl]
          refine ⟨by omega, ?_⟩
          exact fin _ _ _ _ _ (N2.born hd q e1)
        · walk_at "ck"
          rw [List.length_map, htl]
          refine ⟨by omega, ?_⟩
          exact fin _ _ _ _ _ (N2.plain hd (fun a' f' e => by cases e; exact q))
      | move a b s =>
        walk_at "ck"
        rw [List.length_map, htl]
        refine ⟨by omega, ?_⟩
        exact fin _ _ _ _ _ (N2.plain hd (fun _ _ e => nomatch e))
      | swap a b s =>
        walk_at "ck"
        rw [List.length_map, htl]
        refine ⟨by omega, ?_⟩
        exact fin _ _ _ _ _ (N2.plain hd (fun _ _ e => nomatch e))
      | draw a s =>
        walk_at "ck"
        rw [List.length_map, htl]
        refine ⟨by omega, ?_⟩
        exact fin _ _ _ _ _ (N2.plain hd (fun _ _ e => nomatch e))
      | keep a s =>
        walk_at "ck"
        rw [List.length_map, htl]
        refine ⟨by omega, ?_⟩
        exact fin _ _ _ _ _ (N2.plain hd (fun _ _ e => nomatch e))
  · obtain ⟨nss, tab, x3, x4, x6, x7, x8, x9, x10, x11, x12, rfl, hA, htl, htab⟩ := hI
    rw [List.length_zipIdx] at htl
    walk_at "ck"
    exact ⟨_, rfl, hk tab htl htab⟩
def N_carried_lots : List Str := ["cellar", "story", "ahead", "found", "index", "deed"]
theorem sc_carried_lots : FnScope N_carried_lots ["cellar", "story"] (defScope (top 56)) := ⟨rfl, rfl, rfl, by decide +kernel, rfl, by decide +kernel, by decide +kernel⟩
theorem ok_carried_lots (T : Txt K mg) (c_lots_ahead : Cal P w K mg base 2 "lots_ahead" (spF w_lots_ahead) []) : Cal P w K mg base 3 "carried_lots" (spC w_carried_lots) [] := by
  obtain ⟨f, fd, F, hm⟩ := T.fn 38 rfl
  refine mk_C F hm sc_carried_lots (fun _ _ _ _ _ _ us hl => match us, hl with | [_, _], _ => rfl) len_carried_lots fun cdv A outer s H E hr => ?_
  have nd : N_carried_lots.Nodup := sc_carried_lots.nd
  refine ⟨_, (b_cons (t_set 2 nd (p_c c_lots_ahead hr (by decide) (a_cons (pv_ 0) (a_cons (pv_ 1) a_nil))))
  (b_cons (t_setD 3 nd d_new)
  (b_cons (t_for PassesOwn.never rfl (i_enumT T.enumerate_ (pv_ 1)) (v_pair 4 5 rfl nd)
  (b_one (t_if (q_eq hr (p_ixn 5 p_int) p_str) (b_one (t_putD 3 hr (p_ife (q_gt (p_ix (p_ixn 5 p_int) p_int) p_int) (p_list T.list_ (a_cons (p_ix (p_ixn 2 (pv_ 4)) (p_ixn 5 p_int)) a_nil)) (p_lst a_nil)) (pv_ 4))) b_nil)))
  (b_one (t_retC 3))))), ?_⟩
  intro ds k hw
  obtain ⟨c, l, L, rfl, pre, hk⟩ := hw
  have hl := pre.st.len
  refine rho_of [.dat (cellD c), .dat (storyT l), .unk, .unk, .unk, .unk] rfl ?_
  walk_at "ck"
  refine ⟨c, l, L, rfl, pre, fun tab htl htab => ?_⟩
  walk_at "ck"
  rw [enumD_map]
  refine for_map (fun p : Deed × Nat => PyData.tuple [.int (p.2 : Int), deedD p.1]) (fun t ρ => ∃ ft x4 x5, ρ = [.dat (cellD c), .dat (storyT l), .dat (.list (tab.map nssD)), .dic (tabD ft), x4, x5] ∧ TabOk c l t ft) l.zipIdx ⟨[], _, _, rfl, TabOk.nil⟩ (fun t p ρ nx' hi hI hn => ?_) (fun ρ hI => ?_)
  · obtain ⟨ft, x4, x5, rfl, ht⟩ := hI
    obtain ⟨d, rfl, hd⟩ := zip_at hi
    have hlt := (List.getElem?_eq_some_iff.mp hd).1
    have ok := pre.st.ok _ (List.mem_of_getElem? hd)
    have hfl := ht.len
    have hnew : (t : Int) ∉ ft.map (·.1) := fun z => by
      obtain ⟨i, e, h, _⟩ := tab_keys_lt ht z
      omega
    cases d with
    | draw a s =>
      walk_at "ck"
      obtain ⟨nss, e1⟩ := get_ex (xs := tab) (i := t) (by omega)
      have hA := htab t nss e1
      obtain ⟨m1, e2⟩ := get_ex (xs := nss) (i := a) (by rw [hA.len]; exact ok.1)
      refine br_2 (fun q => ?_) (fun q => ?_)
      · walk_at "ck"
        refine ⟨_, atI_nat (by rw [List.getElem?_map, e1]; rfl), ?_⟩
        walk_at "ck"
        refine r_wixL (ds := nss.map fun ns => PyData.list (ns.map .int)) (d := .list (m1.map .int)) (atI_nat (by rw [List.getElem?_map, e2]; rfl)) ?_
        walk_at "ck"
        refine ⟨by unfold tabD; rw [List.length_map]; omega, ?_⟩
        rw [put_new hnew]
        exact hn _ ⟨_, _, _, rfl, ht.add hd ⟨hA.asc a m1 e2, fun z => by
          rw [hA.mem a m1 e2 z]
          constructor
          · exact fun w => ⟨a, s, hd, q, w⟩
          · rintro ⟨a', s', e3, _, w⟩
            rw [hd] at e3
            cases e3
            exact w⟩⟩
      · walk_at "ck"
        refine ⟨by unfold tabD; rw [List.length_map]; omega, ?_⟩
        rw [show PyData.list [] = PyData.list (([] : List Int).map .int) from rfl, put_new hnew]
        exact hn _ ⟨_, _, _, rfl, ht.add hd ⟨.nil, fun z => by
          constructor
          · exact fun w => (nomatch w)
          · rintro ⟨a', s', e3, w, _⟩
            rw [hd] at e3
            cases e3
            exact absurd w q⟩⟩
    | move a b s =>
      walk_at "ck"
      exact hn _ ⟨ft, _, _, rfl, ht.skip hd rfl⟩
    | swap a b s =>
      walk_at "ck"
      exact hn _ ⟨ft, _, _, rfl, ht.skip hd rfl⟩
    | keep a s =>
      walk_at "ck"
      exact hn _ ⟨ft, _, _, rfl, ht.skip hd rfl⟩
    | add a f =>
      walk_at "ck"
      exact hn _ ⟨ft, _, _, rfl, ht.skip hd rfl⟩
  · obtain ⟨ft, x4, x5, rfl, ht⟩ := hI
    rw [List.length_zipIdx] at ht
    walk_at "ck"
    exact ⟨_, rfl, hk ft ht⟩
def N_touched : List Str := ["cellar", "story", "lot", "cask", "here"]
theorem sc_touched : FnScope N_touched ["cellar", "story", "lot"] (defScope (top 58)) := ⟨rfl, rfl, rfl, by decide +kernel, rfl, by decide +kernel, by decide +kernel⟩
theorem ok_touched (T : Txt K mg) (c_lots_ahead : Cal P w K mg base 2 "lots_ahead" (spF w_lots_ahead) []) (c_need_cellar : Cal P w K mg base 5 "need_cellar" (spF w_need_cellar) []) (c_need_lot : Cal P w K mg base 2 "need_lot" (spF w_need_lot) []) (c_need_story : Cal P w K mg base 6 "need_story" (spF w_need_story) []) : Cal P w K mg base 7 "touched" (spF w_touched) [] := by
  obtain ⟨f, fd, F, hm⟩ := T.fn 40 rfl
  refine mk_F F hm sc_touched (fun _ _ _ _ _ _ us hl => match us, hl with | [_, _, _], _ => rfl) len_touched fun cdv A outer s H E hr => ?_
  have nd : N_touched.Nodup := sc_touched.nd
  refine ⟨_, (b_cons (t_expr (p_c c_need_cellar hr (by decide) (a_cons (pv_ 0) a_nil)))
  (b_cons (t_expr (p_c c_need_story hr (by decide) (a_cons (pv_ 1) (a_cons (p_len T.len_ (a_cons (pv_ 0) a_nil)) a_nil))))
  (b_cons (t_expr (p_c c_need_lot hr (by decide) (a_cons (pv_ 0) (a_cons (pv_ 1) (a_cons (pv_ 2) a_nil)))))
  (b_one (t_ret (p_lc rfl nd (i_enumL T.enumerate_ (p_ix (p_c c_lots_ahead hr (by decide) (a_cons (pv_ 0) (a_cons (pv_ 1) a_nil))) (p_neg p_int))) (blkOk_by (N := N_touched) (sc := defScope (top 58)) (own := [("cask", 3), ("here", 4)]) (by decide +kernel)) rfl (fun _ _ _ _ _ => (v_pair 3 4 rfl nd)) (fun _ _ _ _ _ => (ts_one (q_in (pv_ 2) (pv_ 4)))) (fun _ _ _ _ _ => (pv_ 3)))))))), ?_⟩
  intro ds k hw
  obtain ⟨c, l, L, z, rfl, pre, hz, hk⟩ := hw
  have hc1 := pre.st.cell.hi
  refine rho_of [.dat (cellD c), .dat (storyT l), .dat (.int z), .unk, .unk] rfl ?_
  walk_at "ck"
  refine ⟨c, rfl, pre.st.cell, ?_⟩
  walk_at "ck"
  refine ⟨l, c.length, by rw [List.length_map], pre.st.ok, pre.st.len, ?_⟩
  walk_at "ck"
  refine ⟨c, l, z, rfl, pre.st, hz, ?_⟩
  walk_at "ck"
  refine ⟨c, l, L, rfl, pre, fun tab htl htab => ?_⟩
  walk_at "ck"
  obtain ⟨nss, e1⟩ := get_ex (xs := tab) (i := l.length) (by omega)
  have hA := htab _ nss e1
  refine ⟨nssD nss, atI_last (n := l.length) (by rw [List.getElem?_map, e1]; rfl) (by rw [List.length_map, htl]), ?_⟩
  refine r_lstK (ds := nss.map fun ns => PyData.list (ns.map .int)) ?_
  rw [nssD_enum]
  refine lc_filter (fun p : List Int × Nat => PyData.tuple [.int (p.2 : Int), .list (p.1.map .int)]) (fun p => decide (z ∈ p.1)) (fun p => .int (p.2 : Int)) nss.zipIdx [] (by rw [List.length_zipIdx, hA.len]; show _ + 0 ≤ _; omega) (fun p hp k k0 hb => ?_) ?_
  · walk_at "ck"
    exact hb
  walk_at "ck"
  refine ⟨_, rfl, ?_⟩
  have h := hk ((nss.zipIdx.filter fun p => decide (z ∈ p.1)).map fun p => (p.2 : Int)) ?_ fun x => ?_
  · rw [List.map_map] at h
    exact h
  · rw [List.pairwise_map]
    refine List.Pairwise.filter _ ?_
    have : (nss.zipIdx.map (·.2)).Pairwise (· < ·) := by
      rw [List.zipIdx_map_snd]
      exact List.pairwise_lt_range'
    rw [List.pairwise_map] at this
    exact this.imp fun {a b} h => by omega
  · rw [List.mem_map]
    constructor
    · rintro ⟨⟨ns, a⟩, hp, rfl⟩
      obtain ⟨h1, h2⟩ := List.mem_filter.mp hp
      have h3 : nss[a]? = some ns := List.mem_zipIdx_iff_getElem?.mp h1
      have h4 := (List.getElem?_eq_some_iff.mp h3).1
      rw [hA.len] at h4
      exact ⟨a, rfl, h4, (hA.mem a ns h3 z).mp (of_decide_eq_true h2)⟩
    · rintro ⟨a, rfl, h4, h5⟩
      obtain ⟨ns, h3⟩ := get_ex (xs := nss) (i := a) (by rw [hA.len]; exact h4)
      exact ⟨(ns, a), List.mem_filter.mpr ⟨List.mem_zipIdx_iff_getElem?.mpr h3, decide_eq_true ((hA.mem a ns h3 z).mpr h5)⟩, rfl⟩
def N_carried : List Str := ["cellar", "story", "index"]
theorem sc_carried : FnScope N_carried ["cellar", "story", "index"] (defScope (top 59)) := ⟨rfl, rfl, rfl, by decide +kernel, rfl, by decide +kernel, by decide +kernel⟩
theorem ok_carried (T : Txt K mg) (c_carried_lots : Cal P w K mg base 3 "carried_lots" (spC w_carried_lots) []) (c_need_cellar : Cal P w K mg base 5 "need_cellar" (spF w_need_cellar) []) (c_need_draw : Cal P w K mg base 3 "need_draw" (spF w_need_draw) []) (c_need_story : Cal P w K mg base 6 "need_story" (spF w_need_story) []) : Cal P w K mg base 7 "carried" (spF w_carried) [] := by
  obtain ⟨f, fd, F, hm⟩ := T.fn 41 rfl
  refine mk_F F hm sc_carried (fun _ _ _ _ _ _ us hl => match us, hl with | [_, _, _], _ => rfl) len_carried fun cdv A outer s H E hr => ?_
  have nd : N_carried.Nodup := sc_carried.nd
  refine ⟨_, (b_cons (t_expr (p_c c_need_cellar hr (by decide) (a_cons (pv_ 0) a_nil)))
  (b_cons (t_expr (p_c c_need_story hr (by decide) (a_cons (pv_ 1) (a_cons (p_len T.len_ (a_cons (pv_ 0) a_nil)) a_nil))))
  (b_cons (t_expr (p_c c_need_draw hr (by decide) (a_cons (pv_ 1) (a_cons (pv_ 2) a_nil))))
  (b_one (t_ret (p_getC 2 hr (d_c c_carried_lots hr (by decide) (a_cons (pv_ 0) (a_cons (pv_ 1) a_nil))))))))), ?_⟩
  intro ds k hw
  obtain ⟨c, l, L, i, a, s, rfl, pre, hi, hk⟩ := hw
  refine rho_of [.dat (cellD c), .dat (storyT l), .dat (natD i)] rfl ?_
  walk_at "ck"
  refine ⟨c, rfl, pre.st.cell, ?_⟩
  walk_at "ck"
  refine ⟨l, c.length, by rw [List.length_map], pre.st.ok, pre.st.len, ?_⟩
  walk_at "ck"
  refine ⟨l, i, a, s, rfl, hi, ?_⟩
  walk_at "ck"
  refine ⟨c, l, L, rfl, pre, fun tab ht => ?_⟩
  walk_at "ck"
  obtain ⟨ns, h1, h2⟩ := ht.get hi
  refine ⟨.inl (i : Int), _, rfl, tab_val (asc_nodup ht.keyAsc) h1, ?_⟩
  exact ⟨_, rfl, hk ns h2⟩
def N_shortest_roads : List Str := ["cellar", "story", "lot", "last", "now", "cask", "index", "deed", "gone", "made", "way", "one", "other"]
theorem sc_shortest_roads : FnScope N_shortest_roads ["cellar", "story", "lot", "last"] (defScope (top 60)) := ⟨rfl, rfl, rfl, by decide +kernel, rfl, by decide +kernel, by decide +kernel⟩
theorem ok_shortest_roads (T : Txt K mg) (c_emptied : Cal P w K mg base 1 "emptied" (spF w_emptied) []) (c_ways_over : Cal P w K mg base 1 "ways_over" (spF w_ways_over) []) : Cal P w K mg base 2 "shortest_roads" (spF w_shortest_roads) [] := by
  obtain ⟨f, fd, F, hm⟩ := T.fn 42 rfl
  refine mk_F F hm sc_shortest_roads (fun _ _ _ _ _ _ us hl => match us, hl with | [_, _, _, _], _ => rfl) len_shortest_roads fun cdv A outer s H E hr => ?_
  have nd : N_shortest_roads.Nodup := sc_shortest_roads.nd
  refine ⟨_, (b_cons (t_setLc 4 rfl nd (i_rng1 T.range_ (p_len T.len_ (a_cons (pv_ 0) a_nil))) (blkOk_by (N := N_shortest_roads) (sc := defScope (top 60)) (own := [("cask", 5)]) (by decide +kernel)) rfl (fun _ _ _ _ _ => (v_name 5 nd)) (fun _ _ _ _ _ => ts_nil) (fun _ _ _ _ _ => (p_ife (q_eq hr (pv_ 2) (p_sub (p_neg p_int) (pv_ 5))) (p_lst a_nil) p_non)))
  (b_cons (t_for PassesOwn.never rfl (i_rng1 T.range_ (pv_ 3)) (v_name 6 nd)
  (b_cons (t_set 7 nd (p_ixn 1 (pv_ 6)))
  (b_cons (t_set 8 nd (p_c c_emptied hr (by decide) (a_cons (pv_ 7) a_nil)))
  (b_cons (t_setLcO 9 rfl nd (i_enumL T.enumerate_ (pv_ 4)) (blkOk_by (N := N_shortest_roads) (sc := defScope (top 60)) (own := [("cask", 5), ("way", 10)]) (by decide +kernel)) rfl (fun _ _ _ _ _ => (v_pair 5 10 rfl nd)) (fun _ _ _ _ _ => ts_nil) (fun _ _ _ _ _ => (p_ife (q_in (pv_ 5) (pv_ 8)) p_non (pv_ 10))))
  (b_cons (t_for PassesOwn.never rfl (i_list (p_c c_ways_over hr (by decide) (a_cons (pv_ 7) a_nil))) (v_pair 11 12 rfl nd)
  (b_cons (t_set 10 nd (p_ixn 4 (pv_ 11)))
  (b_one (t_if (q_pw (q_and (q_notN (pv_ 10) p_non) (q_and1 (q_pw (q_or (q_isN (p_ixn 9 (pv_ 12)) p_non) (q_or1 (q_lt (p_add (p_len T.len_ (a_cons (pv_ 10) a_nil)) p_int) (p_len T.len_ (a_cons (p_ixn 9 (pv_ 12)) a_nil))))))))) (b_one (t_setI 9 (p_add (pv_ 10) (p_lst (a_cons (pv_ 6) a_nil))) (pv_ 12))) b_nil))))
  (b_cons (t_if (q_eq hr (pv_ 6) (pv_ 2)) (b_one (t_setI 9 (p_lst a_nil) (p_ixn 7 p_int))) b_nil)
  (b_one (t_set 4 nd (pv_ 9)))))))))
  (b_one (t_ret (pv_ 4))))), ?_⟩
  intro ds k hw
  obtain ⟨c, l, z, n, rfl, st, hz, hn0, hk⟩ := hw
  have hc1 := st.cell.hi
  have hl := st.len
  refine rho_of [.dat (cellD c), .dat (storyT l), .dat (.int z), .dat (natD n), .unk, .unk, .unk, .unk, .unk, .unk, .unk, .unk, .unk] rfl ?_
  walk_at "ck"
  rw [List.length_map]
  refine ⟨by omega, ?_⟩
  rw [show ((c.length : Int)).toNat = c.length from Int.toNat_natCast _, rng0]
  refine lc_map natD (fun a => optD (if z = -1 - (a : Int) then some [] else none)) (List.range c.length) [] (by rw [List.length_range]; show c.length + 0 ≤ _; omega) (fun a ha k k0 hb => ?_) ?_
  · walk_at "ck"
    refine br_2 (fun q => ?_) (fun q => ?_)
    · rw [if_pos q] at hb
      walk_at "ck"
      exact hb
    · rw [if_neg q] at hb
      walk_at "ck"
      exact hb
  have e0 : PyData.list ([] ++ (List.range c.length).map fun a : Nat => optD (if z = -1 - (a : Int) then some [] else none)) = .list ((rs0 c z).map optD) := by
    unfold rs0
    rw [List.map_map]
    rfl
  walk_at "ck"
  rw [show ((n : Int)).toNat = n from Int.toNat_natCast _, rng0, e0]
  refine for_map natD (fun t ρ => ∃ rs x5 x6 x7 x8 x9 x10 x11 x12, ρ = [.dat (cellD c), .dat (storyT l), .dat (.int z), .dat (natD n), .dat (.list (rs.map optD)), x5, x6, x7, x8, x9, x10, x11, x12] ∧ RoadsOk c l z t rs) (List.range n) ⟨rs0 c z, _, _, _, _, _, _, _, _, rfl, RoadsOk.zero hz⟩ (fun t x ρ nx' hi hI hn => ?_) (fun ρ hI => ?_)
  · obtain ⟨rs, x5, x6, x7, x8, x9, x10, x11, x12, rfl, hR⟩ := hI
    have hxt := List.getElem?_eq_some_iff.mp hi
    obtain ⟨htn, ex⟩ := hxt
    rw [List.getElem_range] at ex
    subst ex
    rw [List.length_range] at htn
    obtain ⟨d, hd⟩ := get_ex (xs := l) (i := t) (by omega)
    have ok := st.ok _ (List.mem_of_getElem? hd)
    walk_at "ck"
    refine ⟨deedD d, atI_nat (by rw [List.getElem?_map, hd]; rfl), ?_⟩
    walk_at "ck"
    refine ⟨d, rfl, ?_⟩
    walk_at "ck"
    rw [enumD_map]
    refine lc_map (fun p : Option (List Int) × Nat => PyData.tuple [.int (p.2 : Int), optD p.1]) (fun p => optD (if p.2 ∈ emptied d then none else p.1)) rs.zipIdx [] (by rw [List.length_zipIdx, hR.len]; show _ + 0 ≤ _; omega) (fun p hp k k0 hb => ?_) ?_
    · walk_at "ck"
      refine br_2 (fun q => ?_) (fun q => ?_)
      · rw [if_pos q] at hb
        walk_at "ck"
        exact hb
      · rw [if_neg q] at hb
        walk_at "ck"
        exact hb
    rw [List.nil_append, stayR_map]
    walk_at "ck"
    refine ⟨d, rfl, ?_⟩
    walk_at "ck"
    refine for_map pairD (fun j ρ => ∃ rs' y5 y10 y11 y12, ρ = [.dat (cellD c), .dat (storyT l), .dat (.int z), .dat (natD n), .dat (.list (rs.map optD)), y5, .dat (natD t), .dat (deedD d), .dat (.list ((emptied d).map fun a : Nat => PyData.int (a : Int))), .own (rs'.map optD), y10, y11, y12] ∧ MidR c l z t d ((ways d).take j) rs') (ways d) ⟨stayR d rs, _, _, _, _, rfl, by rw [List.take_zero]; exact MidR.start hR hd⟩ (fun j x ρ nx'' hj hJ hn2 => ?_) (fun ρ hJ => ?_)
    · obtain ⟨rs', y5, y10, y11, y12, rfl, hM⟩ := hJ
      obtain ⟨o, b⟩ := x
      have hx := List.mem_of_getElem? hj
      obtain ⟨ho, hb, _⟩ := ways_lt ok hx
      obtain ⟨r1, e1⟩ := get_ex (xs := rs) (i := o) (by rw [hR.len]; exact ho)
      obtain ⟨r2, e2⟩ := get_ex (xs := rs') (i := b) (by rw [hM.len]; exact hb)
      have etk : (ways d).take (j + 1) = (ways d).take j ++ [(o, b)] := by rw [List.take_add_one, hj]; rfl
      walk_at "ck"
      refine ⟨optD r1, atI_nat (by rw [List.getElem?_map, e1]; rfl), ?_⟩
      walk_at "ck"
      cases r1 with
      | none =>
        walk_at "ck"
        refine br_F ?_
        walk_at "ck"
        exact hn2 _ ⟨rs', _, _, _, _, rfl, by rw [etk]; exact hM.skip (.inl ((hR.at' o none e1).1 rfl))⟩
      | some w =>
        have hp := (hR.at' o _ e1).2 w rfl
        have hpl := hp.len
        walk_at "ck"
        refine br_T ?_
        walk_at "ck"
        refine ⟨optD r2, atI_nat (by rw [List.getElem?_map, e2]; rfl), ?_⟩
        have hput : nx'' [.dat (cellD c), .dat (storyT l), .dat (.int z), .dat (natD n), .dat (.list (rs.map optD)), y5, .dat (natD t), .dat (deedD d), .dat (.list ((emptied d).map fun a : Nat => PyData.int (a : Int))), .own ((rs'.map optD).set b (.list (w.map .int ++ [.int (t : Int)]))), .dat (optD (some w)), .dat (natD o), .dat (natD b)] := by
          have eq : (rs'.map optD).set b (.list (w.map .int ++ [.int (t : Int)])) = (rs'.set b (some (w ++ [(t : Int)]))).map optD := by
            rw [List.map_set]
            show _ = (rs'.map optD).set b (.list ((w ++ [(t : Int)]).map .int))
            rw [List.map_append]
            rfl
          rw [eq]
          exact hn2 _ ⟨rs'.set b (some (w ++ [(t : Int)])), _, _, _, _, rfl, by rw [etk]; exact hM.add hd hx hb hp⟩
        have hsk : nx'' [.dat (cellD c), .dat (storyT l), .dat (.int z), .dat (natD n), .dat (.list (rs.map optD)), y5, .dat (natD t), .dat (deedD d), .dat (.list ((emptied d).map fun a : Nat => PyData.int (a : Int))), .own (rs'.map optD), .dat (optD (some w)), .dat (natD o), .dat (natD b)] ∨ r2 = none := by
          cases r2 with
          | none => exact .inr rfl
          | some w2 => exact .inl (hn2 _ ⟨rs', _, _, _, _, rfl, by rw [etk]; exact hM.skip (.inr ⟨w2, e2⟩)⟩)
        cases r2 with
        | none =>
          refine br_t rfl ?_
          walk_at "ck"
          refine r_addL (by rw [List.length_map]; show w.length + 1 ≤ _; omega) ?_
          walk_at "ck"
          refine ⟨b, ixN_nat (by rw [List.length_map, hM.len]; exact hb), ?_⟩
          exact hput
        | some w2 =>
          refine br_f rfl ?_
          walk_at "ck"
          refine ⟨optD (some w2), atI_nat (by rw [List.getElem?_map, e2]; rfl), ?_⟩
          walk_at "ck"
          refine br_2 (fun q => ?_) (fun q => ?_)
          · walk_at "ck"
            refine r_addL (by rw [List.length_map]; show w.length + 1 ≤ _; omega) ?_
            walk_at "ck"
            refine ⟨b, ixN_nat (by rw [List.length_map, hM.len]; exact hb), ?_⟩
            exact hput
          · walk_at "ck"
            exact hsk.resolve_right (fun e => nomatch e)
    · obtain ⟨rs', y5, y10, y11, y12, rfl, hM⟩ := hJ
      rw [List.take_length] at hM
      walk_at "ck"
      refine br_2 (fun q => ?_) (fun q => ?_)
      · subst q
        rcases hz with ⟨a', e1, _⟩ | ⟨i, a', f, e1, e2, e3⟩
        · omega
        · have e4 : i = t := by omega
          subst e4
          rw [hd] at e2
          cases e2
          walk_at "ck"
          refine ⟨a', ixN_nat (by rw [List.length_map, hM.len]; exact ok.1), ?_⟩
          walk_at "ck"
          have eq : (rs'.map optD).set a' (.list []) = (rs'.set a' (some [])).map optD := by
            rw [List.map_set]
            rfl
          rw [eq]
          exact hn _ ⟨rs'.set a' (some []), _, _, _, _, _, _, _, _, rfl, hM.born hd e3 rfl ok.1⟩
      · walk_at "ck"
        exact hn _ ⟨rs', _, _, _, _, _, _, _, _, rfl, hM.plain hd (fun e => q e.symm)⟩
  · obtain ⟨rs, x5, x6, x7, x8, x9, x10, x11, x12, rfl, hR⟩ := hI
    rw [List.length_range] at hR
    walk_at "ck"
    exact ⟨_, rfl, hk rs hR⟩
end
end CK
set_option Elab.async false
set_option linter.all false
set_option maxRecDepth 100000
set_option maxHeartbeats 4000000
namespace CK
open PySem PySem.Spec PyProof.Rows L2
open Evl (Ex ex_l ex_t fresh_back)
open C8 (Cal pe_c)
def w_is_ascending : WDA := fun ds k => ∃ r : Option (List Int), ds = [optD r] ∧ (∀ w, r = some w → w ≠ [] ∧ w.Pairwise (· < ·) ∧ w.length ≤ 1000) ∧ k (.bool r.isSome)
def w_road_holds : WDA := fun ds k => ∃ (c : Cell) (l : List Deed) (z : Int) (i a : Nat) (s : Fr) (r : Option (List Int)), ds = [cellD c, storyT l, .int z, natD i, optD r] ∧ Sty c l ∧ IsLot c l z ∧ l[i]? = some (.draw a s) ∧ RoadOk c l z i r ∧ k (.bool r.isSome)
abbrev lookD (p : Nat × Bool) : PD := .tuple [natD p.1, .bool p.2]
def Looks (l : List Deed) (ts : List (Nat × Bool)) : Prop := ∀ p, p ∈ ts → ∃ a s, l[p.1]? = some (.draw a s)
def w_is_look : WDA := fun ds k => ∃ (l : List Deed) (p : Nat × Bool) (a : Nat) (s : Fr), ds = [storyT l, lookD p] ∧ l[p.1]? = some (.draw a s) ∧ k (.bool true)
def w_need_told : WDA := fun ds k => ∃ (l : List Deed) (ts : List (Nat × Bool)), ds = [storyT l, .tuple (ts.map lookD)] ∧ Looks l ts ∧ ts.length ≤ 1000 ∧ k .none
def TellsF (c : Cell) (l : List Deed) (f : Nat → Int → Bool) : Prop := ∀ (i a : Nat) (s : Fr), l[i]? = some (.draw a s) → ∀ z, f i z = true ↔ Carr c l z i
def fitL (f : Nat → Int → Bool) (ts : List (Nat × Bool)) (L : List Int) : List Int := L.filter fun z => ts.all fun p => f p.1 z == p.2
def w_fitting_lots : WDA := fun ds k => ∃ (c : Cell) (l : List Deed) (L : List Int) (ts : List (Nat × Bool)) (f : Nat → Int → Bool), ds = [cellD c, storyT l, .tuple (ts.map lookD)] ∧ LotPre c l L ∧ Looks l ts ∧ ts.length ≤ 1000 ∧ TellsF c l f ∧ k (.list ((fitL f ts L).map .int))
def w_suspects : WDA := fun ds k => ∃ (c : Cell) (l : List Deed) (L : List Int) (ts : List (Nat × Bool)) (f : Nat → Int → Bool), ds = [cellD c, storyT l, .tuple (ts.map lookD)] ∧ LotPre c l L ∧ Looks l ts ∧ ts.length ≤ 1000 ∧ TellsF c l f ∧ k (.list ((fitL f ts L).map .int))
theorem ways_filter {d : Deed} {n o b : Nat} (ok : d.Ok n) (h : (o, b) ∈ ways d) : ((ways d).filter fun p => decide ((p.1 : Int) = (o : Int))) = [(o, b)] := by
  cases d with
  | move p q s =>
    have h : (o, b) ∈ (if s.1 = 0 then [] else [(p, q)]) := h
    show ((if s.1 = 0 then [] else [(p, q)]).filter _) = _
    split at h
    · cases h
    · rename_i hs
      rw [if_neg hs]
      cases List.mem_singleton.mp h
      simp
  | swap p q s =>
    obtain ⟨_, _, hne, _⟩ := ok
    have h : (o, b) ∈ (if s.1 = 0 then [] else [(p, q), (q, p)]) := h
    show ((if s.1 = 0 then [] else [(p, q), (q, p)]).filter _) = _
    split at h
    · cases h
    · rename_i hs
      rw [if_neg hs]
      rcases List.mem_cons.mp h with e | e
      · cases e
        have : ¬ ((b : Int) = (o : Int)) := by omega
        simp [this]
      · cases List.mem_singleton.mp e
        have : ¬ ((b : Int) = (o : Int)) := by omega
        simp [this]
  | _ => cases h
theorem fit_step (f : Nat → Int → Bool) (ts : List (Nat × Bool)) (p : Nat × Bool) (L : List Int) : (fitL f ts L).filter (fun z => f p.1 z == p.2) = fitL f (ts ++ [p]) L := by
  unfold fitL
  rw [List.filter_filter]
  refine List.filter_congr fun z _ => ?_
  rw [List.all_append, Bool.and_comm]
  simp
theorem asc_pd {w : List Int} (h : w.Pairwise (· < ·)) : (w.map PyData.int).Pairwise fun a b => ∃ x y, a = .int x ∧ b = .int y ∧ x < y := by
  rw [List.pairwise_map]
  exact h.imp fun {a b} q => ⟨_, _, rfl, rfl, q⟩
theorem len_is_ascending (ds : List PD) (k : PD → Prop) (h : w_is_ascending ds k) : ds.length = 1 := by obtain ⟨_, rfl, _⟩ := h; rfl
theorem len_road_holds (ds : List PD) (k : PD → Prop) (h : w_road_holds ds k) : ds.length = 5 := by obtain ⟨_, _, _, _, _, _, _, rfl, _⟩ := h; rfl
theorem len_is_look (ds : List PD) (k : PD → Prop) (h : w_is_look ds k) : ds.length = 2 := by obtain ⟨_, _, _, _, rfl, _⟩ := h; rfl
theorem len_need_told (ds : List PD) (k : PD → Prop) (h : w_need_told ds k) : ds.length = 2 := by obtain ⟨_, _, rfl, _⟩ := h; rfl
theorem len_fitting_lots (ds : List PD) (k : PD → Prop) (h : w_fitting_lots ds k) : ds.length = 3 := by obtain ⟨_, _, _, _, _, rfl, _⟩ := h; rfl
theorem len_suspects (ds : List PD) (k : PD → Prop) (h : w_suspects ds k) : ds.length = 3 := by obtain ⟨_, _, _, _, _, rfl, _⟩ := h; rfl
local macro_rules | `(tactic| walk_at "ck") => `(tactic| repeat (first
  | (with_reducible refine r_seq ?_)
  | (with_reducible refine r_next ?_)
  | (with_reducible refine r_ret ?_)
  | (with_reducible refine r_set ?_)
  | (with_reducible refine r_ifs ?_)
  | (with_reducible refine r_drop ?_)
  | (with_reducible refine r_B ?_)
  | (with_reducible refine r_boolK ?_)
  | (with_reducible refine r_op ?_)
  | (with_reducible refine r_c ?_)
  | (with_reducible refine r_call ?_)
  | (with_reducible refine r_cons ?_)
  | (with_reducible refine r_nil ?_)
  | (with_reducible refine r_intK ?_)
  | ((with_reducible refine' r_var ?e ?_); (case e => exact rfl))
  | ((with_reducible refine' r_ixT ?e ?_); (case e => exact rfl))
  | ((with_reducible refine' r_loT ?e ?_); (case e => exact rfl))
  | ((with_reducible refine' r_ixK ?e ?_); (case e => exact rfl))
  | (with_reducible refine r_eqI ?_)
  | (with_reducible refine r_neI ?_)
  | (with_reducible refine r_int2 ?_)
  | (with_reducible refine r_addI ?_)
  | (with_reducible refine r_or ?_)
  | (with_reducible refine r_not ?_)
  | (with_reducible refine r_andV ?_)
  | (with_reducible refine r_ife ?_)
  | (with_reducible refine r_lst ?_)
  | (with_reducible refine r_len1 ?_)
  | (with_reducible refine r_len0 ?_)
  | (with_reducible refine br_T ?_)
  | (with_reducible refine r_is ?_)
  | (with_reducible refine r_is3 ?_)
  | (with_reducible refine r_is5 ?_)
  | (with_reducible refine r_is6 ?_)
  | (with_reducible refine r_is7 ?_)
  | (with_reducible refine r_un ?_)
  | (with_reducible refine r_neg ?_)
  | (with_reducible refine r_lenT ?_)
  | (with_reducible refine r_lstK ?_)
  | (with_reducible refine r_tupK ?_)
  | ((with_reducible refine' r_ixL ?e ?_); (case e => exact rfl))
  | ((with_reducible refine' r_loL ?e ?_); (case e => exact rfl))
  | ((with_reducible refine' r_wixT ?e ?_); (case e => exact rfl))
  | (with_reducible refine r_max2 ?_)
  | (with_reducible refine r_isN ?_)
  | (with_reducible refine r_eqB ?_)
  | (with_reducible refine r_for ?_)
  | (with_reducible refine r_itL ?_)
  | (with_reducible refine r_itT ?_)
  | (with_reducible refine r_zip ?_)
  | (with_reducible refine r_rng2 ?_)
  | (with_reducible refine r_slF ?_)
  | (with_reducible refine r_gN ?_)
  | (with_reducible refine r_gP ?_)
  | (with_reducible refine r_yes ?_)
  | (with_reducible refine r_lcv ?_)
  | (with_reducible refine r_setD ?_)
  | (with_reducible refine r_ocall ?_)
  | ((with_reducible refine' r_getD ?e ?_); (case e => exact rfl))
  | ((with_reducible refine' r_dic ?e ?_); (case e => exact rfl))
  | (with_reducible refine r_eqInil ?_)
  | (with_reducible refine r_inI ?_)
  | (with_reducible refine r_inN ?_)
  | (with_reducible refine br_nT ?_)
  | (with_reducible refine br_nF ?_)
  | (with_reducible refine br_df (by first | omega | assumption | (with_unfolding_all rfl) | (simp only [List.length_cons, List.length_nil]; omega) | decide +kernel) ?_)
  | (with_reducible refine br_nf (by first | omega | assumption | (with_unfolding_all rfl) | (simp only [List.length_cons, List.length_nil]; omega) | decide +kernel) ?_)
  | (with_reducible refine And.intro (by omega) ?_)))
section
variable {P : Program} {w : World} {K : PySem.W.Frag} {mg : Str → Option Value} {base : Heap}
def N_road : List Str := ["cellar", "story", "lot", "index", "deed", "way"]
theorem sc_road : FnScope N_road ["cellar", "story", "lot", "index"] (defScope (top 62)) := ⟨rfl, rfl, rfl, by decide +kernel, rfl, by decide +kernel, by decide +kernel⟩
theorem ok_road (T : Txt K mg) (c_need_road : Cal P w K mg base 7 "need_road" (spF w_need_road) []) (c_shortest_roads : Cal P w K mg base 2 "shortest_roads" (spF w_shortest_roads) []) : Cal P w K mg base 8 "road" (spF w_road) [] := by
  obtain ⟨f, fd, F, hm⟩ := T.fn 44 rfl
  refine mk_F F hm sc_road (fun _ _ _ _ _ _ us hl => match us, hl with | [_, _, _, _], _ => rfl) len_road fun cdv A outer s H E hr => ?_
  have nd : N_road.Nodup := sc_road.nd
  refine ⟨_, (b_cons (t_expr (p_c c_need_road hr (by decide) (a_cons (pv_ 0) (a_cons (pv_ 1) (a_cons (pv_ 2) (a_cons (pv_ 3) a_nil))))))
  (b_cons (t_set 4 nd (p_ixn 1 (pv_ 3)))
  (b_cons (t_set 5 nd (p_ix (p_c c_shortest_roads hr (by decide) (a_cons (pv_ 0) (a_cons (pv_ 1) (a_cons (pv_ 2) (a_cons (pv_ 3) a_nil))))) (p_ixn 4 p_int)))
  (b_cons (t_if (q_pw (q_or (q_isN (pv_ 5) p_non) (q_or1 (q_eq hr (p_ix (p_ixn 4 p_int) p_int) p_int)))) (b_one (t_ret p_non)) b_nil)
  (b_one (t_ret (p_add (pv_ 5) (p_lst (a_cons (pv_ 3) a_nil))))))))), ?_⟩
  intro ds k hw
  obtain ⟨c, l, z, i, a, s, rfl, st, hz, hi, hk⟩ := hw
  have hlt := (List.getElem?_eq_some_iff.mp hi).1
  have ok := st.ok _ (List.mem_of_getElem? hi)
  have hl := st.len
  refine rho_of [.dat (cellD c), .dat (storyT l), .dat (.int z), .dat (natD i), .unk, .unk] rfl ?_
  walk_at "ck"
  refine ⟨c, l, z, i, a, s, rfl, st, hz, hi, ?_⟩
  walk_at "ck"
  refine ⟨deedD (.draw a s), atI_nat (by rw [List.getElem?_map, hi]; rfl), ?_⟩
  walk_at "ck"
  refine ⟨c, l, z, i, rfl, st, hz, by omega, fun rs hR => ?_⟩
  walk_at "ck"
  obtain ⟨r, e1⟩ := get_ex (xs := rs) (i := a) (by rw [hR.len]; exact ok.1)
  have hr := hR.at' a r e1
  refine ⟨optD r, atI_nat (by rw [List.getElem?_map, e1]; rfl), ?_⟩
  have noc : ¬ (0 < s.1 ∧ Reach c l z i a) → ¬ Carr c l z i := by
    rintro h ⟨a', s', e3, h1, h2⟩
    rw [hi] at e3
    cases e3
    exact h ⟨h1, h2⟩
  walk_at "ck"
  cases r with
  | none =>
    refine br_t rfl ?_
    walk_at "ck"
    exact ⟨_, rfl, hk none ⟨fun _ => noc fun q => hr.1 rfl q.2, fun w e => (nomatch e)⟩⟩
  | some w =>
    have hp := hr.2 w rfl
    have hpl := hp.len
    refine br_f rfl ?_
    walk_at "ck"
    refine br_2 (fun q => ?_) (fun q => ?_)
    · walk_at "ck"
      exact ⟨_, rfl, hk none ⟨fun _ => noc fun q' => by have := q'.1; omega, fun w e => (nomatch e)⟩⟩
    · walk_at "ck"
      refine r_addL (by rw [List.length_map]; show w.length + 1 ≤ _; omega) ?_
      refine ⟨_, rfl, ?_⟩
      have h := hk (some (w ++ [(i : Int)])) ⟨fun e => (nomatch e), fun w' e => by
        cases e
        exact ⟨w, a, s, rfl, hi, by have := ok.2.lo; omega, hp⟩⟩
      have e5 : optD (some (w ++ [(i : Int)])) = .list (w.map .int ++ [.int (i : Int)]) := by
        show PyData.list ((w ++ [(i : Int)]).map .int) = _
        rw [List.map_append]
        rfl
      rw [e5] at h
      exact h
def N_is_ascending : List Str := ["value", "part", "one", "other"]
theorem sc_is_ascending : FnScope N_is_ascending ["value"] (defScope (top 63)) := ⟨rfl, rfl, rfl, by decide +kernel, rfl, by decide +kernel, by decide +kernel⟩
theorem ok_is_ascending (T : Txt K mg) (c_is_integer : Cal P w K mg base 1 "is_integer" (spF w_is_integer) []) : Cal P w K mg base 2 "is_ascending" (spF w_is_ascending) [] := by
  obtain ⟨f, fd, F, hm⟩ := T.fn 45 rfl
  refine mk_F F hm sc_is_ascending (fun _ _ _ _ _ _ us hl => match us, hl with | [_], _ => rfl) len_is_ascending fun cdv A outer s H E hr => ?_
  have nd : N_is_ascending.Nodup := sc_is_ascending.nd
  refine ⟨_, (b_cons (t_if (q_pw (q_or (q_not (q_val (p_is (T := "list") T.isinstance_ T.list_ (pv_ 0) (by decide +kernel)))) (q_or (q_eq hr (pv_ 0) (p_lst a_nil)) (q_or1 (q_not (q_val (p_all rfl T.all_ (a_cons (p_lc rfl nd (i_list (pv_ 0)) (blkOk_by (N := N_is_ascending) (sc := defScope (top 63)) (own := [("part", 1)]) (by decide +kernel)) rfl (fun _ _ _ _ _ => (v_name 1 nd)) (fun _ _ _ _ _ => ts_nil) (fun _ _ _ _ _ => (p_c c_is_integer hr (by decide) (a_cons (pv_ 1) a_nil)))) a_nil)))))))) (b_one (t_ret p_bl)) b_nil)
  (b_one (t_ret (p_all rfl T.all_ (a_cons (p_lc rfl nd (i_zip T.zip_ (pv_ 0) (p_slF (pv_ 0))) (blkOk_by (N := N_is_ascending) (sc := defScope (top 63)) (own := [("one", 2), ("other", 3)]) (by decide +kernel)) rfl (fun _ _ _ _ _ => (v_pair 2 3 rfl nd)) (fun _ _ _ _ _ => ts_nil) (fun _ _ _ _ _ => (p_lt (pv_ 2) (pv_ 3)))) a_nil))))), ?_⟩
  intro ds k hw
  obtain ⟨r, rfl, hr, hk⟩ := hw
  refine rho_of [.dat (optD r), .unk, .unk, .unk] rfl ?_
  cases r with
  | none =>
    walk_at "ck"
    exact ⟨_, rfl, hk⟩
  | some w =>
    obtain ⟨h1, h2, h3⟩ := hr w rfl
    walk_at "ck"
    refine lc_map PyData.int (fun _ => .bool true) w [] (by show w.length + 0 ≤ _; omega) (fun x hx k k0 hb => ?_) ?_
    · walk_at "ck"
      refine ⟨_, rfl, ?_⟩
      exact hb
    walk_at "ck"
    refine wAll_map (fun _ _ => rfl) ?_
    walk_at "ck"
    rw [cut1]
    refine lcW_fm (fun _ => true) (fun _ => .bool true) _ [] (by have := zip_len (xs := w.map PyData.int); rw [List.length_map] at this; show _ + 0 ≤ _; omega) (fun x hx k k0 hb => ?_) ?_
    · obtain ⟨a, b, rfl, x, y, rfl, rfl, hlt⟩ := zip_next (asc_pd h2) _ hx
      walk_at "ck"
      have e : decide (x < y) = true := decide_eq_true hlt
      rw [e]
      exact hb.t
    · walk_at "ck"
      exact wAll_fm (fun _ _ => rfl) ⟨_, rfl, hk⟩
def N_road_holds : List Str := ["cellar", "story", "lot", "index", "value", "start", "cask", "at", "ends", "one", "other"]
theorem sc_road_holds : FnScope N_road_holds ["cellar", "story", "lot", "index", "value"] (defScope (top 64)) := ⟨rfl, rfl, rfl, by decide +kernel, rfl, by decide +kernel, by decide +kernel⟩
theorem ok_road_holds (T : Txt K mg) (c_emptied : Cal P w K mg base 1 "emptied" (spF w_emptied) []) (c_is_ascending : Cal P w K mg base 2 "is_ascending" (spF w_is_ascending) []) (c_need_road : Cal P w K mg base 7 "need_road" (spF w_need_road) []) (c_ways_over : Cal P w K mg base 1 "ways_over" (spF w_ways_over) []) : Cal P w K mg base 8 "road_holds" (spF w_road_holds) [] := by
  obtain ⟨f, fd, F, hm⟩ := T.fn 46 rfl
  refine mk_F F hm sc_road_holds (fun _ _ _ _ _ _ us hl => match us, hl with | [_, _, _, _, _], _ => rfl) len_road_holds fun cdv A outer s H E hr => ?_
  have nd : N_road_holds.Nodup := sc_road_holds.nd
  refine ⟨_, (b_cons (t_expr (p_c c_need_road hr (by decide) (a_cons (pv_ 0) (a_cons (pv_ 1) (a_cons (pv_ 2) (a_cons (pv_ 3) a_nil))))))
  (b_cons (t_set 5 nd (p_max2 rfl T.max_ (a_cons (p_add (pv_ 2) p_int) (a_cons p_int a_nil))))
  (b_cons (t_if (q_pw (q_or (q_not (q_val (p_c c_is_ascending hr (by decide) (a_cons (pv_ 4) a_nil)))) (q_or (q_lt (p_ixn 4 p_int) (pv_ 5)) (q_or (q_ne hr (p_ixn 4 (p_neg p_int)) (pv_ 3)) (q_or1 (q_eq hr (p_ix (p_ix (p_ixn 1 (pv_ 3)) p_int) p_int) p_int)))))) (b_one (t_ret p_bl)) b_nil)
  (b_cons (t_set 6 nd (p_ife (q_ge (pv_ 2) p_int) (p_ix (p_ixn 1 (pv_ 2)) p_int) (p_sub (p_neg p_int) (pv_ 2))))
  (b_cons (t_for PassesOwn.never rfl (i_rng2 T.range_ (pv_ 5) (pv_ 3)) (v_name 7 nd)
  (b_one (t_if (q_in (pv_ 7) (pv_ 4)) (b_cons (t_setLc 8 rfl nd (i_list (p_c c_ways_over hr (by decide) (a_cons (p_ixn 1 (pv_ 7)) a_nil))) (blkOk_by (N := N_road_holds) (sc := defScope (top 64)) (own := [("one", 9), ("other", 10)]) (by decide +kernel)) rfl (fun _ _ _ _ _ => (v_pair 9 10 rfl nd)) (fun _ _ _ _ _ => (ts_one (q_eq hr (pv_ 9) (pv_ 6)))) (fun _ _ _ _ _ => (pv_ 10)))
  (b_cons (t_if (q_eq hr (pv_ 8) (p_lst a_nil)) (b_one (t_ret p_bl)) b_nil)
  (b_one (t_set 6 nd (p_ixn 8 p_int))))) (b_one (t_if (q_in (pv_ 6) (p_c c_emptied hr (by decide) (a_cons (p_ixn 1 (pv_ 7)) a_nil))) (b_one (t_ret p_bl)) b_nil)))))
  (b_one (t_ret (p_eq hr (pv_ 6) (p_ix (p_ixn 1 (pv_ 3)) p_int))))))))), ?_⟩
  intro ds k hw
  obtain ⟨c, l, z, i, a, s, r, rfl, st, hz, hi, hr, hk⟩ := hw
  have hlt := (List.getElem?_eq_some_iff.mp hi).1
  have ok := st.ok _ (List.mem_of_getElem? hi)
  have hl := st.len
  refine rho_of [.dat (cellD c), .dat (storyT l), .dat (.int z), .dat (natD i), .dat (optD r), .unk, .unk, .unk, .unk, .unk, .unk] rfl ?_
  walk_at "ck"
  refine ⟨c, l, z, i, a, s, rfl, st, hz, hi, ?_⟩
  walk_at "ck"
  have estart : (if (0 : Int) > z + 1 then (0 : Int) else z + 1) = (startOf z : Int) := by
    unfold startOf
    split <;> omega
  rw [estart]
  cases r with
  | none =>
    refine ⟨none, rfl, fun w e => (nomatch e), ?_⟩
    refine br_t rfl ?_
    walk_at "ck"
    exact ⟨_, rfl, hk⟩
  | some w =>
    obtain ⟨p, a', s', rfl, e3, hs0, hp⟩ := hr.2 w rfl
    rw [hi] at e3
    cases e3
    have hpl := hp.len
    have hst := hp.st
    obtain ⟨pos, p1, p2, p3, p4⟩ := hp.reachAt
    have hasc : (p ++ [(i : Int)]).Pairwise (· < ·) := List.pairwise_append.mpr ⟨hp.asc, List.pairwise_singleton _ _, fun x hx y hy => by rw [List.mem_singleton.mp hy]; exact (hp.rng x hx).2⟩
    refine ⟨some (p ++ [(i : Int)]), rfl, fun w e => by
      cases e
      exact ⟨fun e => by simp at e, hasc, by rw [List.length_append, List.length_singleton]; omega⟩, ?_⟩
    refine br_f rfl ?_
    obtain ⟨x0, hx0, hx1⟩ : ∃ x0, (p ++ [(i : Int)])[0]? = some x0 ∧ (startOf z : Int) ≤ x0 := by
      cases p with
      | nil => exact ⟨_, rfl, by omega⟩
      | cons y ys => exact ⟨y, rfl, (hp.rng y List.mem_cons_self).1⟩
    walk_at "ck"
    refine ⟨.int x0, atI_nat (j := 0) (by rw [List.getElem?_map, hx0]; rfl), ?_⟩
    walk_at "ck"
    refine ⟨.int (i : Int), atI_last (n := p.length) (by rw [List.getElem?_map, List.getElem?_append_right (Nat.le_refl _), Nat.sub_self]; rfl) (by rw [List.length_map, List.length_append]; rfl), ?_⟩
    walk_at "ck"
    refine ⟨deedD (.draw a s), atI_nat (by rw [List.getElem?_map, hi]; rfl), ?_⟩
    walk_at "ck"
    rcases p1 with ⟨q1, q2, q3⟩ | ⟨n, f, q1, q2, q3⟩
    · refine br_df (by omega) ?_
      walk_at "ck"
      rw [show ((i : Int) - (startOf z : Int)).toNat = i - startOf z by omega]
      unfold rngD
      refine for_map (fun j : Nat => PyData.int ((startOf z : Int) + (j : Int))) (fun j ρ => ∃ x7 x8 x9 x10, ρ = [.dat (cellD c), .dat (storyT l), .dat (.int z), .dat (natD i), .dat (optD (some (p ++ [(i : Int)]))), .dat (.int (startOf z : Int)), .dat (natD (pos (startOf z + j))), x7, x8, x9, x10]) (List.range (i - startOf z)) ⟨_, _, _, _, by rw [Nat.add_zero, show -1 - z = (pos (startOf z) : Int) by omega]; rfl⟩ (fun j x ρ nx' hj hI hn => ?_) (fun ρ hI => ?_)
      · obtain ⟨x7, x8, x9, x10, rfl⟩ := hI
        obtain ⟨hj1, hj2⟩ := List.getElem?_eq_some_iff.mp hj
        rw [List.getElem_range] at hj2
        subst hj2
        rw [List.length_range] at hj1
        obtain ⟨d, hd, hstep⟩ := p3 (startOf z + j) (by omega) (by omega)
        have okd := st.ok _ (List.mem_of_getElem? hd)
        have eu : (startOf z : Int) + (j : Int) = ((startOf z + j : Nat) : Int) := by omega
        rw [eu]
        have hat : atI (l.map deedD) ((startOf z + j : Nat) : Int) = some (deedD d) := atI_nat (by rw [List.getElem?_map, hd]; rfl)
        have hmem : ((startOf z + j : Nat) : Int) ∈ p ++ [(i : Int)] ↔ ((startOf z + j : Nat) : Int) ∈ p := by
          rw [List.mem_append, List.mem_singleton]
          exact ⟨fun z => z.elim id fun z => absurd z (by omega), .inl⟩
        walk_at "ck"
        refine br_2 (fun q => ?_) (fun q => ?_)
        · rw [if_pos (hmem.mp q)] at hstep
          walk_at "ck"
          refine ⟨_, hat, ?_⟩
          walk_at "ck"
          refine ⟨d, rfl, ?_⟩
          walk_at "ck"
          have hwl : (ways d).length ≤ 2 := by cases d <;> simp [ways] <;> split <;> simp
          refine lc_filter pairD (fun x => decide ((x.1 : Int) = (pos (startOf z + j) : Int))) (fun x => natD x.2) (ways d) [] (by show (ways d).length + 0 ≤ _; omega) (fun x hx k k0 hb => ?_) ?_
          · walk_at "ck"
            exact hb
          rw [ways_filter okd hstep]
          walk_at "ck"
          refine r_eqInil (xs := [(pos (startOf z + j + 1) : Int)]) ?_
          walk_at "ck"
          refine br_df (by simp) ?_
          walk_at "ck"
          exact hn _ ⟨_, _, _, _, rfl⟩
        · rw [if_neg (fun w => q (hmem.mpr w))] at hstep
          obtain ⟨h1, h2⟩ := hstep
          walk_at "ck"
          refine ⟨_, hat, ?_⟩
          walk_at "ck"
          refine ⟨d, rfl, ?_⟩
          walk_at "ck"
          rw [show pos (startOf z + j) = pos (startOf z + (j + 1)) from h1.symm]
          exact hn _ ⟨_, _, _, _, rfl⟩
      · obtain ⟨x7, x8, x9, x10, rfl⟩ := hI
        rw [List.length_range, show startOf z + (i - startOf z) = i by omega, p2]
        walk_at "ck"
        refine ⟨_, atI_nat (by rw [List.getElem?_map, hi]; rfl), ?_⟩
        walk_at "ck"
        refine ⟨_, rfl, ?_⟩
        rw [decide_eq_true (rfl : (a : Int) = (a : Int))]
        exact hk
    · refine br_dt (by omega) ?_
      walk_at "ck"
      have hza : atI (l.map deedD) (n : Int) = some (deedD (.add (pos (startOf z)) f)) := atI_nat (by rw [List.getElem?_map, q2]; rfl)
      rw [← q1] at hza
      refine ⟨_, hza, ?_⟩
      walk_at "ck"
      rw [show ((i : Int) - (startOf z : Int)).toNat = i - startOf z by omega]
      unfold rngD
      refine for_map (fun j : Nat => PyData.int ((startOf z : Int) + (j : Int))) (fun j ρ => ∃ x7 x8 x9 x10, ρ = [.dat (cellD c), .dat (storyT l), .dat (.int z), .dat (natD i), .dat (optD (some (p ++ [(i : Int)]))), .dat (.int (startOf z : Int)), .dat (natD (pos (startOf z + j))), x7, x8, x9, x10]) (List.range (i - startOf z)) ⟨_, _, _, _, rfl⟩ (fun j x ρ nx' hj hI hn => ?_) (fun ρ hI => ?_)
      · obtain ⟨x7, x8, x9, x10, rfl⟩ := hI
        obtain ⟨hj1, hj2⟩ := List.getElem?_eq_some_iff.mp hj
        rw [List.getElem_range] at hj2
        subst hj2
        rw [List.length_range] at hj1
        obtain ⟨d, hd, hstep⟩ := p3 (startOf z + j) (by omega) (by omega)
        have okd := st.ok _ (List.mem_of_getElem? hd)
        have eu : (startOf z : Int) + (j : Int) = ((startOf z + j : Nat) : Int) := by omega
        rw [eu]
        have hat : atI (l.map deedD) ((startOf z + j : Nat) : Int) = some (deedD d) := atI_nat (by rw [List.getElem?_map, hd]; rfl)
        have hmem : ((startOf z + j : Nat) : Int) ∈ p ++ [(i : Int)] ↔ ((startOf z + j : Nat) : Int) ∈ p := by
          rw [List.mem_append, List.mem_singleton]
          exact ⟨fun z => z.elim id fun z => absurd z (by omega), .inl⟩
        walk_at "ck"
        refine br_2 (fun q => ?_) (fun q => ?_)
        · rw [if_pos (hmem.mp q)] at hstep
          walk_at "ck"
          refine ⟨_, hat, ?_⟩
          walk_at "ck"
          refine ⟨d, rfl, ?_⟩
          walk_at "ck"
          have hwl : (ways d).length ≤ 2 := by cases d <;> simp [ways] <;> split <;> simp
          refine lc_filter pairD (fun x => decide ((x.1 : Int) = (pos (startOf z + j) : Int))) (fun x => natD x.2) (ways d) [] (by show (ways d).length + 0 ≤ _; omega) (fun x hx k k0 hb => ?_) ?_
          · walk_at "ck"
            exact hb
          rw [ways_filter okd hstep]
          walk_at "ck"
          refine r_eqInil (xs := [(pos (startOf z + j + 1) : Int)]) ?_
          walk_at "ck"
          refine br_df (by simp) ?_
          walk_at "ck"
          exact hn _ ⟨_, _, _, _, rfl⟩
        · rw [if_neg (fun w => q (hmem.mpr w))] at hstep
          obtain ⟨h1, h2⟩ := hstep
          walk_at "ck"
          refine ⟨_, hat, ?_⟩
          walk_at "ck"
          refine ⟨d, rfl, ?_⟩
          walk_at "ck"
          rw [show pos (startOf z + j) = pos (startOf z + (j + 1)) from h1.symm]
          exact hn _ ⟨_, _, _, _, rfl⟩
      · obtain ⟨x7, x8, x9, x10, rfl⟩ := hI
        rw [List.length_range, show startOf z + (i - startOf z) = i by omega, p2]
        walk_at "ck"
        refine ⟨_, atI_nat (by rw [List.getElem?_map, hi]; rfl), ?_⟩
        walk_at "ck"
        refine ⟨_, rfl, ?_⟩
        rw [decide_eq_true (rfl : (a : Int) = (a : Int))]
        exact hk
def N_is_look : List Str := ["story", "look"]
theorem sc_is_look : FnScope N_is_look ["story", "look"] (defScope (top 65)) := ⟨rfl, rfl, rfl, by decide +kernel, rfl, by decide +kernel, by decide +kernel⟩
theorem ok_is_look (T : Txt K mg) (c_is_draw : Cal P w K mg base 2 "is_draw" (spF w_is_draw) []) : Cal P w K mg base 3 "is_look" (spF w_is_look) [] := by
  obtain ⟨f, fd, F, hm⟩ := T.fn 47 rfl
  refine mk_F F hm sc_is_look (fun _ _ _ _ _ _ us hl => match us, hl with | [_, _], _ => rfl) len_is_look fun cdv A outer s H E hr => ?_
  have nd : N_is_look.Nodup := sc_is_look.nd
  refine ⟨_, (b_cons (t_if (q_pw (q_or (q_not (q_val (p_is (T := "tuple") T.isinstance_ T.tuple_ (pv_ 1) (by decide +kernel)))) (q_or1 (q_ne hr (p_len T.len_ (a_cons (pv_ 1) a_nil)) p_int)))) (b_one (t_ret p_bl)) b_nil)
  (b_one (t_ret (p_and (p_c c_is_draw hr (by decide) (a_cons (pv_ 0) (a_cons (p_ixn 1 p_int) a_nil))) (p_one (p_is (T := "bool") T.isinstance_ T.bool_ (p_ixn 1 p_int) (by decide +kernel))))))), ?_⟩
  intro ds k hw
  obtain ⟨l, p, a, s, rfl, hi, hk⟩ := hw
  refine rho_of [.dat (storyT l), .dat (lookD p)] rfl ?_
  walk_at "ck"
  refine ⟨l, p.1, a, s, rfl, hi, ?_⟩
  walk_at "ck"
  exact ⟨_, rfl, hk⟩
def N_need_told : List Str := ["story", "told", "look"]
theorem sc_need_told : FnScope N_need_told ["story", "told"] (defScope (top 66)) := ⟨rfl, rfl, rfl, by decide +kernel, rfl, by decide +kernel, by decide +kernel⟩
theorem ok_need_told (T : Txt K mg) (c_is_look : Cal P w K mg base 3 "is_look" (spF w_is_look) []) : Cal P w K mg base 4 "need_told" (spF w_need_told) [] := by
  obtain ⟨f, fd, F, hm⟩ := T.fn 48 rfl
  refine mk_F F hm sc_need_told (fun _ _ _ _ _ _ us hl => match us, hl with | [_, _], _ => rfl) len_need_told fun cdv A outer s H E hr => ?_
  have nd : N_need_told.Nodup := sc_need_told.nd
  refine ⟨_, (b_one (t_if (q_pw (q_or (q_not (q_val (p_is (T := "tuple") T.isinstance_ T.tuple_ (pv_ 1) (by decide +kernel)))) (q_or1 (q_not (q_val (p_all rfl T.all_ (a_cons (p_lc rfl nd (i_tup (pv_ 1)) (blkOk_by (N := N_need_told) (sc := defScope (top 66)) (own := [("look", 2)]) (by decide +kernel)) rfl (fun _ _ _ _ _ => (v_name 2 nd)) (fun _ _ _ _ _ => ts_nil) (fun _ _ _ _ _ => (p_c c_is_look hr (by decide) (a_cons (pv_ 0) (a_cons (pv_ 2) a_nil))))) a_nil))))))) b_never b_nil)), ?_⟩
  intro ds k hw
  obtain ⟨l, ts, rfl, hts, hl, hk⟩ := hw
  refine rho_of [.dat (storyT l), .dat (.tuple (ts.map lookD)), .unk] rfl ?_
  walk_at "ck"
  refine lc_map lookD (fun _ => .bool true) ts [] (by show ts.length + 0 ≤ _; omega) (fun p hp k k0 hb => ?_) ?_
  · obtain ⟨a, s, h⟩ := hts p hp
    walk_at "ck"
    refine ⟨l, p, a, s, rfl, h, ?_⟩
    exact hb
  walk_at "ck"
  refine wAll_map (fun _ _ => rfl) ?_
  walk_at "ck"
  exact hk
def N_fitting_lots : List Str := ["cellar", "story", "told", "carries", "found", "index", "bad", "lot"]
theorem sc_fitting_lots : FnScope N_fitting_lots ["cellar", "story", "told"] (defScope (top 67)) := ⟨rfl, rfl, rfl, by decide +kernel, rfl, by decide +kernel, by decide +kernel⟩
theorem ok_fitting_lots (T : Txt K mg) (c_carried_lots : Cal P w K mg base 3 "carried_lots" (spC w_carried_lots) []) (c_every_lot : Cal P w K mg base 1 "every_lot" (spF w_every_lot) []) : Cal P w K mg base 4 "fitting_lots" (spF w_fitting_lots) [] := by
  obtain ⟨f, fd, F, hm⟩ := T.fn 49 rfl
  refine mk_F F hm sc_fitting_lots (fun _ _ _ _ _ _ us hl => match us, hl with | [_, _, _], _ => rfl) len_fitting_lots fun cdv A outer s H E hr => ?_
  have nd : N_fitting_lots.Nodup := sc_fitting_lots.nd
  refine ⟨_, (b_cons (t_setD 3 nd (d_c c_carried_lots hr (by decide) (a_cons (pv_ 0) (a_cons (pv_ 1) a_nil))))
  (b_cons (t_set 4 nd (p_c c_every_lot hr (by decide) (a_cons (pv_ 0) (a_cons (pv_ 1) a_nil))))
  (b_cons (t_for PassesOwn.never rfl (i_tup (pv_ 2)) (v_pair 5 6 rfl nd)
  (b_one (t_setLc 4 rfl nd (i_list (pv_ 4)) (blkOk_by (N := N_fitting_lots) (sc := defScope (top 67)) (own := [("lot", 7)]) (by decide +kernel)) rfl (fun _ _ _ _ _ => (v_name 7 nd)) (fun _ _ _ _ _ => (ts_one (q_eq hr (p_in (pv_ 7) (p_getD 3 hr (pv_ 5))) (pv_ 6)))) (fun _ _ _ _ _ => (pv_ 7)))))
  (b_one (t_ret (pv_ 4)))))), ?_⟩
  intro ds k hw
  obtain ⟨c, l, L, ts, f, rfl, pre, hts, hl, hf, hk⟩ := hw
  have hL30 := pre.len
  refine rho_of [.dat (cellD c), .dat (storyT l), .dat (.tuple (ts.map lookD)), .unk, .unk, .unk, .unk, .unk] rfl ?_
  walk_at "ck"
  refine ⟨c, l, L, rfl, pre, fun tab ht => ?_⟩
  walk_at "ck"
  refine ⟨c, l, rfl, pre.st, fun L' hL' => ?_⟩
  obtain rfl := hL'.unique pre.lots
  walk_at "ck"
  refine for_map lookD (fun j ρ => ∃ x5 x6 x7, ρ = [.dat (cellD c), .dat (storyT l), .dat (.tuple (ts.map lookD)), .dic (tabD tab), .dat (.list ((fitL f (ts.take j) L').map .int)), x5, x6, x7]) ts ⟨_, _, _, by rw [List.take_zero, show fitL f [] L' = L' from List.filter_eq_self.mpr fun _ _ => rfl]; rfl⟩ (fun j p ρ nx' hj hI hn => ?_) (fun ρ hI => ?_)
  · obtain ⟨x5, x6, x7, rfl⟩ := hI
    obtain ⟨a, s, hi⟩ := hts p (List.mem_of_getElem? hj)
    obtain ⟨ns, h1, h2⟩ := ht.get hi
    have hfl : (fitL f (ts.take j) L').length ≤ 30 := Nat.le_trans (List.length_filter_le _ _) hL30
    walk_at "ck"
    refine lc_filter PyData.int (fun z => f p.1 z == p.2) PyData.int (fitL f (ts.take j) L') [] (by show _ + 0 ≤ _; omega) (fun z hz k k0 hb => ?_) ?_
    · walk_at "ck"
      refine ⟨.inl (p.1 : Int), _, rfl, tab_val (asc_nodup ht.keyAsc) h1, ?_⟩
      walk_at "ck"
      have e : decide (decide (z ∈ ns) = p.2) = (f p.1 z == p.2) := by
        have e1 : decide (z ∈ ns) = f p.1 z := by
          rw [Bool.eq_iff_iff, decide_eq_true_eq, h2.mem z]
          exact (hf p.1 a s hi z).symm
        rw [e1]
        cases f p.1 z <;> cases p.2 <;> rfl
      rw [e]
      exact hb
    walk_at "ck"
    rw [fit_step, ← show ts.take (j + 1) = ts.take j ++ [p] by rw [List.take_add_one, hj]; rfl]
    exact hn _ ⟨_, _, _, rfl⟩
  · obtain ⟨x5, x6, x7, rfl⟩ := hI
    rw [List.take_length]
    walk_at "ck"
    exact ⟨_, rfl, hk⟩
def N_suspects : List Str := ["cellar", "story", "told"]
theorem sc_suspects : FnScope N_suspects ["cellar", "story", "told"] (defScope (top 68)) := ⟨rfl, rfl, rfl, by decide +kernel, rfl, by decide +kernel, by decide +kernel⟩
theorem ok_suspects (T : Txt K mg) (c_fitting_lots : Cal P w K mg base 4 "fitting_lots" (spF w_fitting_lots) []) (c_need_cellar : Cal P w K mg base 5 "need_cellar" (spF w_need_cellar) []) (c_need_story : Cal P w K mg base 6 "need_story" (spF w_need_story) []) (c_need_told : Cal P w K mg base 4 "need_told" (spF w_need_told) []) : Cal P w K mg base 7 "suspects" (spF w_suspects) [] := by
  obtain ⟨f, fd, F, hm⟩ := T.fn 50 rfl
  refine mk_F F hm sc_suspects (fun _ _ _ _ _ _ us hl => match us, hl with | [_, _, _], _ => rfl) len_suspects fun cdv A outer s H E hr => ?_
  have nd : N_suspects.Nodup := sc_suspects.nd
  refine ⟨_, (b_cons (t_expr (p_c c_need_cellar hr (by decide) (a_cons (pv_ 0) a_nil)))
  (b_cons (t_expr (p_c c_need_story hr (by decide) (a_cons (pv_ 1) (a_cons (p_len T.len_ (a_cons (pv_ 0) a_nil)) a_nil))))
  (b_cons (t_expr (p_c c_need_told hr (by decide) (a_cons (pv_ 1) (a_cons (pv_ 2) a_nil))))
  (b_one (t_ret (p_c c_fitting_lots hr (by decide) (a_cons (pv_ 0) (a_cons (pv_ 1) (a_cons (pv_ 2) a_nil))))))))), ?_⟩
  intro ds k hw
  obtain ⟨c, l, L, ts, f, rfl, pre, hts, hl, hf, hk⟩ := hw
  refine rho_of [.dat (cellD c), .dat (storyT l), .dat (.tuple (ts.map lookD))] rfl ?_
  walk_at "ck"
  refine ⟨c, rfl, pre.st.cell, ?_⟩
  walk_at "ck"
  refine ⟨l, c.length, by rw [List.length_map], pre.st.ok, pre.st.len, ?_⟩
  walk_at "ck"
  refine ⟨l, ts, rfl, hts, hl, ?_⟩
  walk_at "ck"
  refine ⟨c, l, L, ts, f, rfl, pre, hts, hl, hf, ?_⟩
  exact ⟨_, rfl, hk⟩
end
end CK
set_option Elab.async false
set_option linter.all false
set_option maxRecDepth 100000
set_option maxHeartbeats 4000000
namespace CK
open PySem PySem.Spec PyProof.Rows L2
open Evl (Ex ex_l ex_t fresh_back)
open C8 (Cal pe_c)
def DeckOk (b : Nat) (dk : List PD) : Prop := ∃ (cells : List Int) (idx : Nat) (left mixed cnt : Int), dk = [.list (cells.map .int), .int (idx : Int), .int left, .int mixed, .int cnt] ∧ 0 ≤ left ∧ 0 ≤ mixed ∧ mixed < 1000000000000000000000000000057 ∧ 0 ≤ cnt ∧ cnt ≤ (b : Int)
theorem DeckOk.mono {b b' : Nat} {dk : List PD} (h : DeckOk b dk) (hb : b ≤ b') : DeckOk b' dk := by
  obtain ⟨cells, idx, left, mixed, cnt, rfl, h1, h2, h3, h4, h5⟩ := h
  exact ⟨cells, idx, left, mixed, cnt, rfl, h1, h2, h3, h4, by omega⟩
abbrev WDK := List PD → List PD → (List PD → PD → Prop) → Prop
def w__law_draw : WDK := fun dk ds k => ∃ (b : Nat) (n : Int), DeckOk b dk ∧ ds = [.int n] ∧ 0 < n ∧ n ≤ 2 ^ 200 ∧ b ≤ 100000 ∧ ∀ dk' r, DeckOk (b + 1) dk' → 0 ≤ r → r < n → k dk' (.int r)
def w__law_fraction : WDA := fun ds k => ∃ a b : Int, ds = [.int a, .int b] ∧ 0 ≤ a ∧ 0 < b ∧ b < 2 ^ 300 ∧ k (frD (fracM a b))
theorem pow_lt {i : Int} {m : Nat} (h0 : 0 ≤ i) (h : i < 2 ^ m) : i.natAbs < 2 ^ m := natAbs_lt (by have : (0 : Int) < 2 ^ m := Int.pow_pos (by decide); generalize (2 : Int) ^ m = t at *; omega) h
theorem bits3 {i : Int} (h0 : 0 ≤ i) (h : i < 2 ^ 200) : CPowW i 3 := by
  refine ⟨by decide, ?_⟩
  have h2 := log2_lt (pow_lt h0 h) (by decide)
  have h3 : Builtin.Int.intBits i ≤ 200 := by
    unfold Builtin.Int.intBits
    split <;> omega
  omega
theorem wmodp {i j : Int} {k : PD → Prop} (hj : 0 < j) (h : ∀ r, 0 ≤ r → r < j → k (.int r)) : wMod (.int i) (.int j) k := ⟨hj, h _ (Int.emod_nonneg _ (by omega)) (Int.emod_lt_of_pos _ hj)⟩
theorem wdivp {i j : Int} {k : PD → Prop} (hi : 0 ≤ i) (hj : 0 < j) (hj2 : j ≤ 2 ^ 200) (h : ∀ r, 0 ≤ r → r ≤ i → k (.int r)) : wDiv (.int i) (.int j) k := by
  have e : (2 : Int) ^ 200 < 2 ^ 201 := by decide
  have h1 : j.natAbs < 2 ^ 201 := pow_lt (by omega) (Int.lt_of_le_of_lt hj2 e)
  have h2 := log2_lt h1 (by decide)
  exact ⟨⟨hj, by omega⟩, h _ (Int.ediv_nonneg hi (by omega)) (Int.ediv_le_self _ hi)⟩
theorem p1018 : (10 : Int) ^ (18 : Int).toNat = 1000000000000000000 := by decide
theorem p1030 : (10 : Int) ^ (30 : Int).toNat = 1000000000000000000000000000000 := by decide
theorem p1032 : (10 : Int) ^ (32 : Int).toNat = 100000000000000000000000000000000 := by decide
theorem p1035 : (10 : Int) ^ (35 : Int).toNat = 100000000000000000000000000000000000 := by decide
theorem p109 : (10 : Int) ^ (9 : Int).toNat = 1000000000 := by decide
theorem c10 {j : Int} (h0 : 0 ≤ j) (h : j ≤ 1000) : CPowW 10 j := ⟨h0, by
  have : Builtin.Int.intBits 10 = 4 := by decide
  rw [this]
  omega⟩
theorem e200 : (2 : Int) ^ 200 = 1606938044258990275541962092341162602522202993782792835301376 := by decide
def ShB (s : Fr) : Prop := ShOk s ∧ s.2 ≤ 1000000000000000000000000000000
structure AmB (x : Fr) : Prop where
  fr : FrOk x
  pos : 0 < x.1
  n : x.1 ≤ 1000000000000000000000000000000
  d : x.2 ≤ 1000000000000000000000000000000
theorem fr_small {x : Fr} (h : Red x) (h0 : 0 ≤ x.1) (h1 : x.1 ≤ 1000000000000000000000000000000) (h2 : x.2 ≤ 1000000000000000000000000000000) : FrOk x := by
  have hp := h.pos
  refine ⟨h, Nat.lt_of_lt_of_le (pow_lt (m := 200) h0 (by rw [e200]; omega)) (Nat.pow_le_pow_right (by decide) (by decide)), Nat.lt_of_lt_of_le (pow_lt (m := 200) (by omega) (by rw [e200]; omega)) (Nat.pow_le_pow_right (by decide) (by decide))⟩
theorem frac_le {a b : Int} (ha : 0 ≤ a) (hb : 0 < b) : 0 ≤ (fracM a b).1 ∧ (fracM a b).1 ≤ a ∧ (fracM a b).2 ≤ b := by
  have g := gpos (a := a) hb
  exact ⟨Int.ediv_nonneg ha (by omega), Int.ediv_le_self _ ha, Int.ediv_le_self _ (by omega)⟩
theorem frac_share {a b : Int} (ha : 0 ≤ a) (hab : a ≤ b) (hb : 0 < b) (hB : b ≤ 1000000000000000000000000000000) : ShB (fracM a b) := by
  obtain ⟨h1, h2, h3⟩ := frac_le ha hb
  have r := fracM_red (a := a) hb
  refine ⟨⟨fr_small r h1 (by omega) (by omega), h1, ?_⟩, by omega⟩
  exact Int.ediv_le_ediv (gpos hb) hab
theorem frac_amt {a b : Int} (ha : 0 < a) (hb : 0 < b) (hA : a ≤ 1000000000000000000000000000000) (hB : b ≤ 1000000000000000000000000000000) : AmB (fracM a b) := by
  obtain ⟨h1, h2, h3⟩ := frac_le (a := a) (by omega) hb
  have r := fracM_red (a := a) hb
  refine ⟨fr_small r h1 (by omega) (by omega), ?_, by omega, by omega⟩
  have e := gmul_l (a := a) (b := b)
  by_cases q : (fracM a b).1 = 0
  · have e : (fracM a b).1 * ((Nat.gcd a.natAbs b.natAbs : Nat) : Int) = a := e
    rw [q] at e
    omega
  · omega
theorem draw_of {b : Nat} {n : Int} {dk : List PD} {k : List PD → PD → Prop} (h : DeckOk b dk) (hn : 0 < n) (hn2 : n ≤ 1606938044258990275541962092341162602522202993782792835301376) (hb : b ≤ 100000) (hk : ∀ dk' r, DeckOk (b + 1) dk' → 0 ≤ r → r < n → k dk' (.int r)) : w__law_draw dk [.int n] k := ⟨b, n, h, rfl, hn, by rw [e200]; exact hn2, hb, hk⟩
theorem ix_ints {ms : List Int} {r : Int} {k : PD → Prop} (h0 : 0 ≤ r) (h1 : r < (ms.length : Int)) (h : ∀ m, m ∈ ms → k (.int m)) : wIx (.list (ms.map .int)) (.int r) k := by
  obtain ⟨j, rfl⟩ : ∃ j : Nat, r = (j : Int) := ⟨r.toNat, by omega⟩
  obtain ⟨m, hm⟩ := get_ex (xs := ms) (i := j) (by omega)
  exact ⟨.int m, atI_nat (by rw [List.getElem?_map, hm]; rfl), h m (List.mem_of_getElem? hm)⟩
theorem ix_strs {ms : List Str} {r : Int} {k : PD → Prop} (h0 : 0 ≤ r) (h1 : r < (ms.length : Int)) (h : ∀ m, m ∈ ms → k (.str m)) : wIx (.list (ms.map .str)) (.int r) k := by
  obtain ⟨j, rfl⟩ : ∃ j : Nat, r = (j : Int) := ⟨r.toNat, by omega⟩
  obtain ⟨m, hm⟩ := get_ex (xs := ms) (i := j) (by omega)
  exact ⟨.str m, atI_nat (by rw [List.getElem?_map, hm]; rfl), h m (List.mem_of_getElem? hm)⟩
def kindB (z : Str) : Bool := decide (1 ≤ z.length) && decide (z.length ≤ 8) && z.cps.toList.all fun c => decide (97 ≤ c) && decide (c ≤ 122)
theorem kind_of {z : Str} (h : kindB z = true) : KindOk z := by
  unfold kindB at h
  rw [Bool.and_eq_true, Bool.and_eq_true, decide_eq_true_eq, decide_eq_true_eq, List.all_eq_true] at h
  refine ⟨h.1.1, h.1.2, fun c hc => ?_⟩
  have := h.2 c hc
  rw [Bool.and_eq_true, decide_eq_true_eq, decide_eq_true_eq] at this
  exact this
theorem letters_at : ∀ i : Fin 26, (Str.ofString "abcdefghijklmnopqrstuvwxyz").cps.toList[i.val]? = some (97 + i.val) := by decide +kernel
theorem join_cps : ∀ zs : List Str, kcp (Str.join "" zs) = (zs.map kcp).flatten
  | [] => rfl
  | [x] => by
    show kcp x = kcp x ++ []
    rw [List.append_nil]
  | x :: y :: r => by
    have ih := join_cps (y :: r)
    show kcp (x ++ "" ++ Str.join "" (y :: r)) = kcp x ++ ((y :: r).map kcp).flatten
    rw [← ih]
    show (x.cps ++ (Str.ofString "").cps ++ (Str.join "" (y :: r)).cps).toList = x.cps.toList ++ (Str.join "" (y :: r)).cps.toList
    rw [Array.toList_append, Array.toList_append]
    show x.cps.toList ++ [] ++ _ = _
    rw [List.append_nil]
structure OneL (z : Str) : Prop where
  ex : ∃ c, z = ⟨#[c]⟩ ∧ 97 ≤ c ∧ c ≤ 122
theorem join_kind {zs : List Str} (h : ∀ z, z ∈ zs → OneL z) (h1 : 1 ≤ zs.length) (h2 : zs.length ≤ 8) : KindOk (Txt.join "" zs) := by
  have e : Txt.join "" zs = Str.join "" zs := eq_of_beq (join_plain_closes "" zs)
  rw [e]
  have hf : ∀ zs : List Str, (∀ z, z ∈ zs → OneL z) → (zs.map kcp).flatten.length = zs.length ∧ ∀ c, c ∈ (zs.map kcp).flatten → 97 ≤ c ∧ c ≤ 122 := by
    intro zs
    induction zs with
    | nil => intro _; exact ⟨rfl, fun c hc => (nomatch hc)⟩
    | cons z r ih =>
      intro h
      obtain ⟨i1, i2⟩ := ih fun y hy => h y (List.mem_cons_of_mem _ hy)
      obtain ⟨c, rfl, c1, c2⟩ := (h z List.mem_cons_self).ex
      refine ⟨?_, fun d hd => ?_⟩
      · show ([c] ++ (r.map kcp).flatten).length = _
        rw [List.length_append, i1]
        simp [Nat.add_comm]
      · have hd : d ∈ [c] ++ (r.map kcp).flatten := hd
        rcases List.mem_append.mp hd with q | q
        · rw [List.mem_singleton.mp q]
          exact ⟨c1, c2⟩
        · exact i2 d q
  obtain ⟨g1, g2⟩ := hf zs h
  have hl : (Str.join "" zs).length = zs.length := by
    rw [← g1, ← join_cps]
    unfold kcp
    rw [Array.length_toList]
    rfl
  exact ⟨by omega, by omega, fun c hc => g2 c (by rw [← join_cps]; exact hc)⟩
theorem sum_one {zs : List Str} (h : ∀ z, z ∈ zs → OneL z) : (zs.map (·.length)).sum = zs.length := by
  induction zs with
  | nil => rfl
  | cons z r ih =>
    obtain ⟨c, rfl, _⟩ := (h z List.mem_cons_self).ex
    rw [List.map_cons, List.sum_cons, ih fun y hy => h y (List.mem_cons_of_mem _ hy), List.length_cons]
    show 1 + r.length = r.length + 1
    omega
def w__law_share : WDK := fun dk ds k => ∃ b : Nat, DeckOk b dk ∧ ds = [] ∧ b ≤ 90000 ∧ ∀ dk' s, DeckOk (b + 5) dk' → ShB s → k dk' (frD s)
def w__law_amount : WDK := fun dk ds k => ∃ b : Nat, DeckOk b dk ∧ ds = [] ∧ b ≤ 90000 ∧ ∀ dk' x, DeckOk (b + 4) dk' → AmB x → k dk' (frD x)
def w__law_kind : WDK := fun dk ds k => ∃ b : Nat, DeckOk b dk ∧ ds = [] ∧ b ≤ 90000 ∧ ∀ dk' z, DeckOk (b + 10) dk' → KindOk z → k dk' (.str z)
theorem len__law_draw (dk ds : List PD) (k : List PD → PD → Prop) (h : w__law_draw dk ds k) : ds.length + 1 = 2 := by obtain ⟨_, _, _, rfl, _⟩ := h; rfl
theorem len__law_share (dk ds : List PD) (k : List PD → PD → Prop) (h : w__law_share dk ds k) : ds.length + 1 = 1 := by obtain ⟨_, _, rfl, _⟩ := h; rfl
theorem len__law_amount (dk ds : List PD) (k : List PD → PD → Prop) (h : w__law_amount dk ds k) : ds.length + 1 = 1 := by obtain ⟨_, _, rfl, _⟩ := h; rfl
theorem len__law_kind (dk ds : List PD) (k : List PD → PD → Prop) (h : w__law_kind dk ds k) : ds.length + 1 = 1 := by obtain ⟨_, _, rfl, _⟩ := h; rfl
theorem len__law_fraction (ds : List PD) (k : PD → Prop) (h : w__law_fraction ds k) : ds.length = 2 := by obtain ⟨_, _, rfl, _⟩ := h; rfl
local macro_rules | `(tactic| walk_at "ck1") => `(tactic| first
  | (with_reducible refine r_seq ?_) | (with_reducible refine r_next ?_) | (with_reducible refine r_ret ?_) | (with_reducible refine r_set ?_) | (with_reducible refine r_ifs ?_) | (with_reducible refine r_drop ?_)
  | (with_reducible refine r_B ?_) | (with_reducible refine r_boolK ?_) | (with_reducible refine r_op ?_) | (with_reducible refine r_c ?_)
  | (with_reducible refine r_call ?_) | (with_reducible refine r_cons ?_) | (with_reducible refine r_nil ?_) | (with_reducible refine r_intK ?_)
  | ((with_reducible refine' r_var ?e ?_); (case e => exact rfl))
  | ((with_reducible refine' r_ixT ?e ?_); (case e => exact rfl))
  | ((with_reducible refine' r_loT ?e ?_); (case e => exact rfl))
  | ((with_reducible refine' r_ixK ?e ?_); (case e => exact rfl))
  | (with_reducible refine r_eqI ?_) | (with_reducible refine r_neI ?_) | (with_reducible refine r_int2 ?_) | (with_reducible refine r_eqS ?_) | (with_reducible refine r_addI ?_)
  | (with_reducible refine r_and ?_) | (with_reducible refine r_or ?_) | (with_reducible refine r_not ?_) | (with_reducible refine r_andV ?_) | (with_reducible refine r_orV ?_) | (with_reducible refine r_notV ?_) | (with_reducible refine r_ife ?_)
  | (with_reducible refine r_tup ?_) | (with_reducible refine r_lst ?_) | (with_reducible refine r_len1 ?_) | (with_reducible refine r_len2 ?_) | (with_reducible refine r_len0 ?_) | (with_reducible refine r_len3 ?_) | (with_reducible refine r_len4 ?_)
  | (with_reducible refine br_T ?_) | (with_reducible refine br_F ?_)
  | (with_reducible refine r_is ?_) | (with_reducible refine r_is1 ?_) | (with_reducible refine r_is2 ?_) | (with_reducible refine r_is3 ?_) | (with_reducible refine r_is4 ?_) | (with_reducible refine r_is5 ?_) | (with_reducible refine r_is6 ?_) | (with_reducible refine r_is7 ?_)
  | (with_reducible refine r_un ?_) | (with_reducible refine r_neg ?_) | (with_reducible refine r_chain ?_) | (with_reducible refine r_lenT ?_) | (with_reducible refine r_lenL ?_)
  | (with_reducible refine r_lstK ?_) | (with_reducible refine r_tupK ?_) | (with_reducible refine r_strK ?_) | (with_reducible refine r_pairK ?_)
  | ((with_reducible refine' r_ixL ?e ?_); (case e => exact rfl)) | ((with_reducible refine' r_loL ?e ?_); (case e => exact rfl))
  | ((with_reducible refine' r_ixO ?e ?_); (case e => exact rfl)) | ((with_reducible refine' r_loO ?e ?_); (case e => exact rfl))
  | ((with_reducible refine' r_ixD ?e ?_); (case e => exact rfl)) | ((with_reducible refine' r_loD ?e ?_); (case e => exact rfl))
  | ((with_reducible refine' r_varo ?e ?_); (case e => exact rfl))
  | ((with_reducible refine' r_wixT ?e ?_); (case e => exact rfl)) | ((with_reducible refine' r_wixL ?e ?_); (case e => exact rfl))
  | (with_reducible refine r_intI ?_) | (with_reducible refine r_intB ?_) | (with_reducible refine r_abs ?_) | (with_reducible refine r_max2 ?_) | (with_reducible refine r_min2 ?_) | (with_reducible refine r_gcd ?_) | (with_reducible refine r_tuple ?_) | (with_reducible refine r_listL ?_) | (with_reducible refine r_listT ?_)
  | (with_reducible refine r_isN ?_) | (with_reducible refine r_notN ?_) | (with_reducible refine r_neS ?_) | (with_reducible refine r_neB ?_) | (with_reducible refine r_eqB ?_)
  | (with_reducible refine r_for ?_) | (with_reducible refine r_itL ?_) | (with_reducible refine r_itT ?_) | (with_reducible refine r_enL ?_) | (with_reducible refine r_zip ?_) | (with_reducible refine r_rng1 ?_) | (with_reducible refine r_rng2 ?_) | (with_reducible refine r_sgn ?_)
  | (with_reducible refine r_slF ?_) | (with_reducible refine r_slT ?_) | (with_reducible refine r_gN ?_) | (with_reducible refine r_gP ?_) | (with_reducible refine r_yes ?_)
  | (with_reducible refine r_lcv ?_) | (with_reducible refine r_lc ?_) | (with_reducible refine r_setO ?_) | (with_reducible refine r_setD ?_) | (with_reducible refine r_retO ?_) | (with_reducible refine r_retC ?_) | (with_reducible refine r_par ?_) | (with_reducible refine r_olst ?_) | (with_reducible refine r_olist ?_) | (with_reducible refine r_wlistOL ?_) | (with_reducible refine r_wlistOT ?_) | (with_reducible refine r_ocall ?_)
  | (with_reducible refine r_ltS ?_) | (with_reducible refine r_putD ?_) | (with_reducible refine r_app ?_) | (with_reducible refine r_setI ?_) | (with_reducible refine r_cK ?_) | (with_reducible refine r_sortS ?_) | (with_reducible refine r_sortI ?_) | (with_reducible refine r_sortSet ?_) | (with_reducible refine r_index ?_) | (with_reducible refine r_join ?_) | (with_reducible refine r_getC ?_)
  | ((with_reducible refine' r_dicT ?e ?_); (case e => exact rfl)) | ((with_reducible refine' r_dkT ?e ?_); (case e => exact rfl)) | ((with_reducible refine' r_dkTD ?e ?_); (case e => exact rfl)) | ((with_reducible refine' r_get2 ?e ?_); (case e => exact rfl)) | ((with_reducible refine' r_getD ?e ?_); (case e => exact rfl))
  | ((with_reducible refine' r_dic ?e ?_); (case e => exact rfl)) | ((with_reducible refine' r_dkO ?e ?_); (case e => exact rfl)) | ((with_reducible refine' r_dkD ?e ?_); (case e => exact rfl)) | ((with_reducible refine' r_datK ?e ?_); (case e => exact rfl)) | (with_reducible refine r_keyS ?_) | (with_reducible refine r_keyI ?_)
  | ((with_reducible refine' r_ixnE ?e ?_); (case e => exact rfl)) | (with_reducible refine r_while ?_) | (with_reducible refine r_neFr1 ?_) | (with_reducible refine r_neInts ?_) | (with_reducible refine r_eqInil ?_) | (with_reducible refine r_inI ?_) | (with_reducible refine r_ninI ?_) | (with_reducible refine r_inN ?_)
  | (with_reducible refine r_enT ?_) | (with_reducible refine r_par00 ?_) | (with_reducible refine r_all ?_) | (with_reducible refine r_any ?_) | (with_reducible refine r_lenS ?_)
  | (with_reducible refine r_len5 ?_) | (with_reducible refine r_len6 ?_) | (with_reducible refine r_len7 ?_) | (with_reducible refine r_len8 ?_))
local macro_rules | `(tactic| walk_at "ckb") => `(tactic| first
  | (with_reducible refine br_nT ?_) | (with_reducible refine br_nF ?_)
  | (with_reducible refine br_dt (by first | omega | assumption | (with_unfolding_all rfl) | (simp only [List.length_cons, List.length_nil]; omega) | decide +kernel) ?_) | (with_reducible refine br_df (by first | omega | assumption | (with_unfolding_all rfl) | (simp only [List.length_cons, List.length_nil]; omega) | decide +kernel) ?_)
  | (with_reducible refine br_nt (by first | omega | assumption | (with_unfolding_all rfl) | (simp only [List.length_cons, List.length_nil]; omega) | decide +kernel) ?_) | (with_reducible refine br_nf (by first | omega | assumption | (with_unfolding_all rfl) | (simp only [List.length_cons, List.length_nil]; omega) | decide +kernel) ?_)
  | (with_reducible refine And.intro (by omega) ?_))
local macro_rules | `(tactic| walk_at "ck") => `(tactic| repeat (first
  | (with_reducible refine r_seq ?_)
  | (with_reducible refine r_next ?_)
  | (with_reducible refine r_ret ?_)
  | (with_reducible refine r_set ?_)
  | (with_reducible refine r_ifs ?_)
  | (with_reducible refine r_B ?_)
  | (with_reducible refine r_boolK ?_)
  | (with_reducible refine r_op ?_)
  | (with_reducible refine r_c ?_)
  | (with_reducible refine r_call ?_)
  | (with_reducible refine r_cons ?_)
  | (with_reducible refine r_nil ?_)
  | (with_reducible refine r_intK ?_)
  | ((with_reducible refine' r_var ?e ?_); (case e => exact rfl))
  | ((with_reducible refine' r_ixK ?e ?_); (case e => exact rfl))
  | (with_reducible refine r_eqI ?_)
  | (with_reducible refine r_neI ?_)
  | (with_reducible refine r_int2 ?_)
  | (with_reducible refine r_addI ?_)
  | (with_reducible refine r_and ?_)
  | (with_reducible refine r_tup ?_)
  | (with_reducible refine r_lst ?_)
  | (with_reducible refine r_len2 ?_)
  | (with_reducible refine r_len3 ?_)
  | (with_reducible refine br_T ?_)
  | (with_reducible refine br_F ?_)
  | (with_reducible refine r_lenL ?_)
  | (with_reducible refine r_lstK ?_)
  | (with_reducible refine r_strK ?_)
  | ((with_reducible refine' r_ixD ?e ?_); (case e => exact rfl))
  | ((with_reducible refine' r_loD ?e ?_); (case e => exact rfl))
  | (with_reducible refine r_intI ?_)
  | (with_reducible refine r_abs ?_)
  | (with_reducible refine r_min2 ?_)
  | (with_reducible refine r_rng1 ?_)
  | (with_reducible refine r_gN ?_)
  | (with_reducible refine r_yes ?_)
  | (with_reducible refine r_lcv ?_)
  | (with_reducible refine r_par ?_)
  | (with_reducible refine r_setI ?_)
  | (with_reducible refine r_cK ?_)
  | (with_reducible refine r_join ?_)
  | ((with_reducible refine' r_dkTD ?e ?_); (case e => exact rfl))
  | ((with_reducible refine' r_dkD ?e ?_); (case e => exact rfl))
  | ((with_reducible refine' r_ixnE ?e ?_); (case e => exact rfl))
  | (with_reducible refine r_while ?_)
  | (with_reducible refine r_len6 ?_)
  | (with_reducible refine r_len8 ?_)
  | (with_reducible refine And.intro (by omega) ?_)))
section
variable {P : Program} {w : World} {K : PySem.W.Frag} {mg : Str → Option Value} {base : Heap}
def N__law_draw : List Str := ["_law_deck_here", "_law_bound", "_law_cell", "_law_digit", "_law_stir"]
theorem sc__law_draw : FnScope N__law_draw ["_law_deck_here", "_law_bound"] (defScope (top 71)) := ⟨rfl, rfl, rfl, by decide +kernel, rfl, by decide +kernel, by decide +kernel⟩
theorem ok__law_draw (T : Txt K mg) : Cal P w K mg base 1 "_law_draw" (spK w__law_draw) [] := by
  obtain ⟨f, fd, F, hm⟩ := T.fn 52 rfl
  refine mk_K F hm sc__law_draw (fun _ _ _ _ _ _ us hl => match us, hl with | [_, _], _ => rfl) len__law_draw fun cdv A outer s H E hr => ?_
  have nd : N__law_draw.Nodup := sc__law_draw.nd
  refine ⟨_, (b_cons (t_if (q_pw (q_and (q_eq hr (p_ixn 0 p_int) p_int) (q_and1 (q_lt (p_ixn 0 p_int) (p_len T.len_ (a_cons (p_ixn 0 p_int) a_nil)))))) (b_cons (t_set 2 nd (p_abs T.abs_ (a_cons (p_ix (p_ixn 0 p_int) (p_ixn 0 p_int)) a_nil)))
  (b_cons (t_setI 0 (p_add (p_ixn 0 p_int) p_int) p_int)
  (b_one (t_if (q_ge (pv_ 2) (p_pow p_int p_int)) (b_one (t_setI 0 (p_sub (pv_ 2) (p_pow p_int p_int)) p_int)) (b_one (t_setI 0 (p_add (p_add (p_ixn 0 p_int) (p_mul p_int (pv_ 2))) p_int) p_int)))))) b_nil)
  (b_cons (t_if (q_gt (p_ixn 0 p_int) p_int) (b_cons (t_set 3 nd (p_mod (p_intc T.int_ (a_cons (p_ixn 0 p_int) a_nil)) (pv_ 1)))
  (b_cons (t_setI 0 (p_div (p_ixn 0 p_int) (pv_ 1)) p_int)
  (b_one (t_ret (pv_ 3))))) b_nil)
  (b_cons (t_setI 0 (p_add (p_ixn 0 p_int) p_int) p_int)
  (b_cons (t_set 4 nd (p_mod (p_intc T.int_ (a_cons (p_add (p_pow (p_add (p_ixn 0 p_int) (p_mul p_int (p_ixn 0 p_int))) p_int) (p_ixn 0 p_int)) a_nil)) (p_add (p_pow p_int p_int) p_int)))
  (b_cons (t_setI 0 (p_mod (p_intc T.int_ (a_cons (p_add (p_mul (pv_ 4) p_int) (p_ixn 0 p_int)) a_nil)) (p_add (p_pow p_int p_int) p_int)) p_int)
  (b_one (t_ret (p_mod (p_div (p_mod (p_intc T.int_ (a_cons (p_pow (p_ixn 0 p_int) p_int) a_nil)) (p_add (p_pow p_int p_int) p_int)) p_int) (pv_ 1))))))))), ?_⟩
  intro dk ds k hw
  obtain ⟨b, n, hdk, rfl, hn, hn2, hb, hk⟩ := hw
  obtain ⟨cells, idx, left, mixed, cnt, rfl, h1, h2, h3, h4, h5⟩ := hdk
  refine rho_of [.dck [.list (cells.map .int), .int (idx : Int), .int left, .int mixed, .int cnt], .dat (.int n), .unk, .unk, .unk] rfl ?_
  rw [e200] at hn2
  refine seq_inv (fun ρ' => ∃ (idx' : Nat) (left' mixed' : Int) (x2 : En), ρ' = [.dck [.list (cells.map .int), .int (idx' : Int), .int left', .int mixed', .int cnt], .dat (.int n), x2, .unk, .unk] ∧ 0 ≤ left' ∧ 0 ≤ mixed' ∧ mixed' < 1000000000011000000000000000059 ∧ (0 < left' → mixed' < 1000000000000000000000000000057)) (fun nx' hn' => ?_) (fun ρ hI => ?_)
  · walk_at "ck"
    refine br_2 (fun q => ?_) (fun q => ?_)
    · walk_at "ck"
      rw [List.length_map]
      refine br_2 (fun q2 => ?_) (fun q2 => ?_)
      · walk_at "ck"
        obtain ⟨cell, hc⟩ := get_ex (xs := cells) (i := idx) (by omega)
        refine r_wixL (ds := cells.map .int) (d := .int cell) (atI_nat (by rw [List.getElem?_map, hc]; rfl)) ?_
        walk_at "ck"
        have habs : 0 ≤ (if cell < 0 then -cell else cell) := by split <;> omega
        generalize (if cell < 0 then -cell else cell) = ac at *
        refine r_powC (c10 (by decide) (by decide)) p1018 ?_
        walk_at "ck"
        refine br_2 (fun q3 => ?_) (fun q3 => ?_)
        · walk_at "ck"
          refine r_powC (c10 (by decide) (by decide)) p1018 ?_
          walk_at "ck"
          exact hn' _ ⟨idx + 1, _, _, _, rfl, by omega, h2, by omega, fun _ => h3⟩
        · walk_at "ck"
          refine r_int2C (cmul (m := 200) (n := 200) (by decide) (pow_lt habs (by rw [e200]; omega)) (by decide) (by decide) (by decide)) ?_
          walk_at "ck"
          exact hn' _ ⟨idx + 1, _, _, _, rfl, h1, by omega, by omega, fun _ => by omega⟩
      · walk_at "ck"
        exact hn' _ ⟨idx, _, _, _, rfl, h1, h2, by omega, fun _ => h3⟩
    · walk_at "ck"
      exact hn' _ ⟨idx, _, _, _, rfl, h1, h2, by omega, fun _ => h3⟩
  · obtain ⟨idx', left', mixed', x2, rfl, g1, g2, g3, g4⟩ := hI
    walk_at "ck"
    refine br_2 (fun q => ?_) (fun q => ?_)
    · walk_at "ck"
      refine wmodp hn fun r hr1 hr2 => ?_
      walk_at "ck"
      refine wdivp g1 hn (by rw [e200]; exact hn2) fun r2 hr3 hr4 => ?_
      walk_at "ck"
      exact ⟨_, _, rfl, rfl, hk _ _ ⟨cells, idx', r2, mixed', cnt, rfl, hr3, g2, g4 (by omega), h4, by omega⟩ hr1 hr2⟩
    · walk_at "ck"
      refine r_int2C (cmul (m := 200) (n := 200) (by decide) (pow_lt (by omega) (by rw [e200]; omega)) (by decide) (by decide) (by decide)) ?_
      walk_at "ck"
      refine r_int2C (bits3 (by omega) (by rw [e200]; omega)) ?_
      walk_at "ck"
      refine r_powC (c10 (by decide) (by decide)) p1032 ?_
      walk_at "ck"
      refine wmodp (by omega) fun st hs1 hs2 => ?_
      walk_at "ck"
      refine r_int2C (cmul (m := 200) (n := 200) (pow_lt (by omega) (by rw [e200]; omega)) (by decide) (by decide) (by decide) (by decide)) ?_
      walk_at "ck"
      refine r_powC (c10 (by decide) (by decide)) p1030 ?_
      walk_at "ck"
      refine wmodp (by omega) fun m2 hm1 hm2 => ?_
      walk_at "ck"
      refine r_int2C (bits3 (by omega) (by rw [e200]; omega)) ?_
      walk_at "ck"
      refine r_powC (c10 (by decide) (by decide)) p1035 ?_
      walk_at "ck"
      refine wmodp (by omega) fun v hv1 hv2 => ?_
      walk_at "ck"
      refine wdivp hv1 (by decide) (by decide) fun v2 hv3 hv4 => ?_
      walk_at "ck"
      refine wmodp hn fun r hr1 hr2 => ?_
      exact ⟨_, _, rfl, rfl, hk _ _ ⟨cells, idx', left', m2, cnt + 1, rfl, g1, hm1, by omega, by omega, by omega⟩ hr1 hr2⟩
def N__law_fraction : List Str := ["_law_above", "_law_below", "_law_one", "_law_other"]
theorem sc__law_fraction : FnScope N__law_fraction ["_law_above", "_law_below"] (defScope (top 72)) := ⟨rfl, rfl, rfl, by decide +kernel, rfl, by decide +kernel, by decide +kernel⟩
theorem ok__law_fraction (T : Txt K mg) : Cal P w K mg base 1 "_law_fraction" (spF w__law_fraction) [] := by
  obtain ⟨f, fd, F, hm⟩ := T.fn 53 rfl
  refine mk_F F hm sc__law_fraction (fun _ _ _ _ _ _ us hl => match us, hl with | [_, _], _ => rfl) len__law_fraction fun cdv A outer s H E hr => ?_
  have nd : N__law_fraction.Nodup := sc__law_fraction.nd
  refine ⟨_, (b_cons (t_par 2 3 rfl nd (pv_ 0) (pv_ 1))
  (b_cons (t_while PassesOwn.never (q_ne hr (pv_ 3) p_int) (b_one (t_par 2 3 rfl nd (pv_ 3) (p_mod (p_intc T.int_ (a_cons (pv_ 2) a_nil)) (pv_ 3)))))
  (b_one (t_ret (p_tup (a_cons (p_div (pv_ 0) (pv_ 2)) (a_cons (p_div (pv_ 1) (pv_ 2)) a_nil))))))), ?_⟩
  intro ds k hw
  obtain ⟨a, b, rfl, ha, hb, hb2, hk⟩ := hw
  refine rho_of [.dat (.int a), .dat (.int b), .unk, .unk] rfl ?_
  walk_at "ck"
  refine ⟨fun m ρ => ∃ x y : Int, ρ = [.dat (.int a), .dat (.int b), .dat (.int x), .dat (.int y)] ∧ m = y.natAbs ∧ 0 ≤ x ∧ 0 ≤ y ∧ Nat.gcd x.natAbs y.natAbs = Nat.gcd a.natAbs b.natAbs, ⟨_, a, b, rfl, rfl, ha, by omega, rfl⟩, ?_⟩
  rintro m ρ ⟨x, y, rfl, rfl, hx, hy, hg⟩
  walk_at "ck"
  refine br_2n (fun q => ?_) (fun q => ?_)
  · walk_at "ck"
    have hy0 : 0 < y := by omega
    refine r_int2C hy0 ?_
    walk_at "ck"
    have e1 := Int.emod_nonneg x (show y ≠ 0 by omega)
    have e2 := Int.emod_lt_of_pos x hy0
    refine ⟨_, ?_, y, x % y, rfl, rfl, hy, e1, ?_⟩
    · omega
    · rw [Int.natAbs_emod_of_nonneg hx, ← hg, Nat.gcd_comm y.natAbs, ← Nat.gcd_rec, Nat.gcd_comm]
  · subst q
    have hx2 : x = ((Nat.gcd a.natAbs b.natAbs : Nat) : Int) := by
      rw [← hg]
      simp
      omega
    have g := gpos (a := a) hb
    have gl := log2_lt (fracM_d (a := a) hb (n := 300) (natAbs_lt (by have : (0 : Int) < 2 ^ 300 := Int.pow_pos (by decide); generalize (2 : Int) ^ 300 = t at *; omega) hb2)) (by decide)
    rw [← hx2] at g gl
    walk_at "ck"
    refine r_int2C ⟨g, by omega⟩ ?_
    walk_at "ck"
    refine r_int2C ⟨g, by omega⟩ ?_
    walk_at "ck"
    rw [hx2]
    exact ⟨_, rfl, hk⟩
def N__law_share : List Str := ["_law_deck_here", "_law_way", "_law_below"]
theorem sc__law_share : FnScope N__law_share ["_law_deck_here"] (defScope (top 73)) := ⟨rfl, rfl, rfl, by decide +kernel, rfl, by decide +kernel, by decide +kernel⟩
theorem ok__law_share (T : Txt K mg) (c__law_draw : Cal P w K mg base 1 "_law_draw" (spK w__law_draw) []) (c__law_fraction : Cal P w K mg base 1 "_law_fraction" (spF w__law_fraction) []) : Cal P w K mg base 2 "_law_share" (spK w__law_share) [] := by
  obtain ⟨f, fd, F, hm⟩ := T.fn 54 rfl
  refine mk_K F hm sc__law_share (fun _ _ _ _ _ _ us hl => match us, hl with | [_], _ => rfl) len__law_share fun cdv A outer s H E hr => ?_
  have nd : N__law_share.Nodup := sc__law_share.nd
  refine ⟨_, (b_cons (t_set 1 nd (p_cK 0 c__law_draw hr (by decide) (a_cons p_int a_nil)))
  (b_cons (t_if (q_lt (pv_ 1) p_int) (b_one (t_ret (p_tup (a_cons (pv_ 1) (a_cons p_int a_nil))))) b_nil)
  (b_cons (t_set 2 nd p_int)
  (b_cons (t_if (q_gt (pv_ 1) p_int) (b_one (t_set 2 nd (p_add p_int (p_cK 0 c__law_draw hr (by decide) (a_cons p_int a_nil))))) b_nil)
  (b_cons (t_if (q_pw (q_and (q_eq hr (pv_ 1) p_int) (q_and1 (q_eq hr (p_cK 0 c__law_draw hr (by decide) (a_cons p_int a_nil)) p_int)))) (b_one (t_set 2 nd (p_add p_int (p_cK 0 c__law_draw hr (by decide) (a_cons (p_sub (p_pow p_int p_int) p_int) a_nil))))) b_nil)
  (b_one (t_ret (p_c c__law_fraction hr (by decide) (a_cons (p_cK 0 c__law_draw hr (by decide) (a_cons (p_add (pv_ 2) p_int) a_nil)) (a_cons (pv_ 2) a_nil)))))))))), ?_⟩
  intro dk ds k hw
  obtain ⟨b, hdk, rfl, hb, hk⟩ := hw
  refine rho_of [.dck dk, .unk, .unk] rfl ?_
  walk_at "ck"
  refine draw_of hdk (by omega) (by omega) (by omega) fun dk1 w1 hd1 h1 h2 => ?_
  walk_at "ck"
  refine br_2 (fun q => ?_) (fun q => ?_)
  · walk_at "ck"
    refine ⟨_, _, rfl, rfl, ?_⟩
    have e : frD (w1, 1) = .tuple [.int w1, .int 1] := rfl
    rw [← e]
    refine hk _ _ (hd1.mono (by omega)) ⟨⟨fr_small ⟨Int.one_pos, ?_⟩ h1 (by show w1 ≤ _; omega) (by show (1 : Int) ≤ _; decide), h1, by show w1 ≤ 1; omega⟩, by show (1 : Int) ≤ _; decide⟩
    show Nat.gcd w1.natAbs 1 = 1
    exact Nat.gcd_one_right _
  refine r_next ?_
  refine r_seq ?_
  walk_at "ck1"
  walk_at "ck1"
  refine seq_inv (fun ρ' => ∃ dk2 below, ρ' = [.dck dk2, .dat (.int w1), .dat (.int below)] ∧ DeckOk (b + 2) dk2 ∧ 2 ≤ below ∧ below ≤ 12) (fun nx' hn' => ?_) (fun ρ hI => ?_)
  · walk_at "ck"
    refine br_2 (fun q2 => ?_) (fun q2 => ?_)
    · walk_at "ck"
      refine draw_of hd1 (by omega) (by omega) (by omega) fun dk2 r hd2 h3 h4 => ?_
      walk_at "ck"
      exact hn' _ ⟨dk2, _, rfl, hd2, by omega, by omega⟩
    · walk_at "ck"
      exact hn' _ ⟨dk1, _, rfl, hd1.mono (by omega), by omega, by omega⟩
  obtain ⟨dk2, below, rfl, hd2, g1, g2⟩ := hI
  refine seq_inv (fun ρ' => ∃ dk3 below, ρ' = [.dck dk3, .dat (.int w1), .dat (.int below)] ∧ DeckOk (b + 4) dk3 ∧ 1 ≤ below ∧ below ≤ 1000000000000000000000000000000) (fun nx' hn' => ?_) (fun ρ hI => ?_)
  · walk_at "ck"
    refine br_2 (fun q2 => ?_) (fun q2 => ?_)
    · walk_at "ck"
      refine draw_of hd2 (by omega) (by omega) (by omega) fun dk3 r hd3 h3 h4 => ?_
      walk_at "ck"
      refine br_2 (fun q3 => ?_) (fun q3 => ?_)
      · walk_at "ck"
        refine r_powC (c10 (by decide) (by decide)) p1030 ?_
        walk_at "ck"
        refine draw_of hd3 (by omega) (by omega) (by omega) fun dk4 r2 hd4 h5 h6 => ?_
        walk_at "ck"
        exact hn' _ ⟨dk4, _, rfl, hd4, by omega, by omega⟩
      · walk_at "ck"
        exact hn' _ ⟨dk3, below, rfl, hd3.mono (by omega), by omega, by omega⟩
    · walk_at "ck"
      exact hn' _ ⟨dk2, below, rfl, hd2.mono (by omega), by omega, by omega⟩
  obtain ⟨dk3, below, rfl, hd3, g1, g2⟩ := hI
  walk_at "ck"
  refine draw_of hd3 (by omega) (by omega) (by omega) fun dk4 r hd4 h3 h4 => ?_
  walk_at "ck"
  refine ⟨r, below, rfl, h3, by omega, Int.lt_of_le_of_lt g2 (by decide), ?_⟩
  exact ⟨_, _, rfl, rfl, hk _ _ hd4 (frac_share h3 (by omega) (by omega) g2)⟩
def N__law_amount : List Str := ["_law_deck_here", "_law_most"]
theorem sc__law_amount : FnScope N__law_amount ["_law_deck_here"] (defScope (top 74)) := ⟨rfl, rfl, rfl, by decide +kernel, rfl, by decide +kernel, by decide +kernel⟩
theorem ok__law_amount (T : Txt K mg) (c__law_draw : Cal P w K mg base 1 "_law_draw" (spK w__law_draw) []) (c__law_fraction : Cal P w K mg base 1 "_law_fraction" (spF w__law_fraction) []) : Cal P w K mg base 2 "_law_amount" (spK w__law_amount) [] := by
  obtain ⟨f, fd, F, hm⟩ := T.fn 55 rfl
  refine mk_K F hm sc__law_amount (fun _ _ _ _ _ _ us hl => match us, hl with | [_], _ => rfl) len__law_amount fun cdv A outer s H E hr => ?_
  have nd : N__law_amount.Nodup := sc__law_amount.nd
  refine ⟨_, (b_cons (t_set 1 nd (p_ix (p_lst (a_cons p_int (a_cons p_int (a_cons p_int (a_cons p_int (a_cons p_int (a_cons p_int (a_cons (p_pow p_int p_int) (a_cons (p_sub (p_pow p_int p_int) p_int) a_nil))))))))) (p_cK 0 c__law_draw hr (by decide) (a_cons p_int a_nil))))
  (b_one (t_ret (p_c c__law_fraction hr (by decide) (a_cons (p_add p_int (p_cK 0 c__law_draw hr (by decide) (a_cons (pv_ 1) a_nil))) (a_cons (p_add p_int (p_cK 0 c__law_draw hr (by decide) (a_cons (p_min2 rfl T.min_ (a_cons (pv_ 1) (a_cons (p_ix (p_lst (a_cons p_int (a_cons p_int (a_cons (pv_ 1) a_nil)))) (p_cK 0 c__law_draw hr (by decide) (a_cons p_int a_nil))) a_nil))) a_nil))) a_nil)))))), ?_⟩
  intro dk ds k hw
  obtain ⟨b, hdk, rfl, hb, hk⟩ := hw
  refine rho_of [.dck dk, .unk] rfl ?_
  walk_at "ck"
  refine r_powC (c10 (by decide) (by decide)) p109 ?_
  walk_at "ck"
  refine r_powC (c10 (by decide) (by decide)) p1030 ?_
  walk_at "ck"
  refine draw_of hdk (by omega) (by omega) (by omega) fun dk1 w1 hd1 h1 h2 => ?_
  walk_at "ck"
  refine ix_ints (ms := [12, 12, 12, 12, 12, 60, 1000000000, 1000000000000000000000000000000 - 1]) h1 h2 fun m hm => ?_
  have hm1 : 12 ≤ m ∧ m ≤ 999999999999999999999999999999 := by
    have : ∀ m ∈ ([12, 12, 12, 12, 12, 60, 1000000000, 1000000000000000000000000000000 - 1] : List Int), 12 ≤ m ∧ m ≤ 999999999999999999999999999999 := by decide
    exact this m hm
  walk_at "ck"
  refine draw_of hd1 (by omega) (by omega) (by omega) fun dk2 r2 hd2 h3 h4 => ?_
  walk_at "ck"
  refine draw_of hd2 (by omega) (by omega) (by omega) fun dk3 r3 hd3 h5 h6 => ?_
  walk_at "ck"
  refine ix_ints (ms := [1, 4, m]) h5 h6 fun m2 hm2 => ?_
  have hm3 : 1 ≤ m2 ∧ m2 ≤ m := by
    rcases List.mem_cons.mp hm2 with e | e
    · omega
    · rcases List.mem_cons.mp e with e | e
      · omega
      · have := List.mem_singleton.mp e
        omega
  walk_at "ck"
  have hmin : 1 ≤ (if m2 < m then m2 else m) ∧ (if m2 < m then m2 else m) ≤ m := by split <;> omega
  generalize (if m2 < m then m2 else m) = m4 at *
  refine draw_of hd3 (by omega) (by omega) (by omega) fun dk4 r4 hd4 h7 h8 => ?_
  walk_at "ck"
  refine ⟨_, _, rfl, by omega, by omega, Int.lt_of_le_of_lt (show 1 + r4 ≤ 1000000000000000000000000000000 by omega) (by decide), ?_⟩
  exact ⟨_, _, rfl, rfl, hk _ _ hd4 (frac_amt (by omega) (by omega) (by omega) (by omega))⟩
def N__law_kind : List Str := ["_law_deck_here", "_law_letters", "_law_turn"]
theorem sc__law_kind : FnScope N__law_kind ["_law_deck_here"] (defScope (top 75)) := ⟨rfl, rfl, rfl, by decide +kernel, rfl, by decide +kernel, by decide +kernel⟩
theorem ok__law_kind (T : Txt K mg) (c__law_draw : Cal P w K mg base 1 "_law_draw" (spK w__law_draw) []) : Cal P w K mg base 2 "_law_kind" (spK w__law_kind) [] := by
  obtain ⟨f, fd, F, hm⟩ := T.fn 56 rfl
  refine mk_K F hm sc__law_kind (fun _ _ _ _ _ _ us hl => match us, hl with | [_], _ => rfl) len__law_kind fun cdv A outer s H E hr => ?_
  have nd : N__law_kind.Nodup := sc__law_kind.nd
  refine ⟨_, (b_cons (t_if (q_gt (p_cK 0 c__law_draw hr (by decide) (a_cons p_int a_nil)) p_int) (b_one (t_ret (p_ix (p_lst (a_cons p_str (a_cons p_str (a_cons p_str (a_cons p_str (a_cons p_str (a_cons p_str a_nil))))))) (p_cK 0 c__law_draw hr (by decide) (a_cons p_int a_nil))))) b_nil)
  (b_cons (t_set 1 nd p_str)
  (b_one (t_ret (p_join p_str (p_lc rfl nd (i_rng1 T.range_ (p_add p_int (p_cK 0 c__law_draw hr (by decide) (a_cons p_int a_nil)))) (blkOk_by (N := N__law_kind) (sc := defScope (top 75)) (own := [("_law_turn", 2)]) (by decide +kernel)) rfl (fun _ _ _ _ _ => (v_name 2 nd)) (fun _ _ _ _ _ => ts_nil) (fun _ _ _ _ _ => (p_ix (pv_ 1) (p_cK 0 c__law_draw hr (by decide) (a_cons p_int a_nil)))))))))), ?_⟩
  intro dk ds k hw
  obtain ⟨b, hdk, rfl, hb, hk⟩ := hw
  refine rho_of [.dck dk, .unk, .unk] rfl ?_
  walk_at "ck"
  refine draw_of hdk (by omega) (by omega) (by omega) fun dk1 w1 hd1 h1 h2 => ?_
  walk_at "ck"
  refine br_2 (fun q => ?_) (fun q => ?_)
  · walk_at "ck"
    refine draw_of hd1 (by omega) (by omega) (by omega) fun dk2 r2 hd2 h3 h4 => ?_
    walk_at "ck"
    refine ix_strs (ms := ["red", "white", "old", "a", "zz", "re"]) h3 h4 fun z hz => ?_
    have hz2 : KindOk z := by
      have : ∀ z ∈ (["red", "white", "old", "a", "zz", "re"] : List Str), kindB z = true := by decide +kernel
      exact kind_of (this z hz)
    exact ⟨_, _, rfl, rfl, hk _ _ (hd2.mono (by omega)) hz2⟩
  walk_at "ck"
  refine draw_of hd1 (by omega) (by omega) (by omega) fun dk2 r2 hd2 h3 h4 => ?_
  walk_at "ck"
  have hr : ∃ n : Nat, 1 + r2 = ((n : Nat) : Int) ∧ 1 ≤ n ∧ n ≤ 8 := ⟨(1 + r2).toNat, by omega, by omega, by omega⟩
  obtain ⟨n, hn, hn1, hn2⟩ := hr
  rw [hn, show ((n : Int)).toNat = n from Int.toNat_natCast _, rng0]
  refine lc_inv (fun j acc ρ => ∃ dk' zs, ρ = [.dck dk', .dat (.str "abcdefghijklmnopqrstuvwxyz"), .unk] ∧ DeckOk (b + 2 + j) dk' ∧ acc = zs.map .str ∧ zs.length = j ∧ ∀ z, z ∈ zs → OneL z) ((List.range n).map natD) 0 [] ⟨dk2, [], rfl, hd2, rfl, rfl, fun _ h => nomatch h⟩ (fun i x acc ρ k k0 hi hI hk' hk0 => ?_) (fun acc ρ hI => ?_)
  · obtain ⟨dk3, zs, rfl, hd3, rfl, hzl, hz⟩ := hI
    have hlt := (List.getElem?_eq_some_iff.mp hi).1
    rw [List.length_map, List.length_range] at hlt
    refine ⟨by rw [List.length_map]; omega, ?_⟩
    walk_at "ck"
    refine draw_of hd3 (by omega) (by omega) (by omega) fun dk4 r hd4 h5 h6 => ?_
    walk_at "ck"
    obtain ⟨rn, rfl⟩ : ∃ rn : Nat, r = (rn : Int) := ⟨r.toNat, by omega⟩
    refine ⟨by decide +kernel, 97 + rn, atI_nat (letters_at ⟨rn, by omega⟩), ?_⟩
    walk_at "ck"
    refine hk' _ _ ⟨dk4, zs ++ [⟨#[97 + rn]⟩], rfl, hd4.mono (by omega), by rw [List.map_append]; rfl, by rw [List.length_append, hzl]; rfl, fun z hz' => ?_⟩
    rcases List.mem_append.mp hz' with q | q
    · exact hz z q
    · rw [List.mem_singleton.mp q]
      exact ⟨97 + rn, rfl, by omega, by omega⟩
  · obtain ⟨dk3, zs, rfl, hd3, rfl, hzl, hz⟩ := hI
    rw [List.length_map, List.length_range] at hzl hd3
    walk_at "ck"
    refine ⟨zs, rfl, ?_, ?_⟩
    · rw [sum_one hz]
      show zs.length + zs.length * 0 ≤ _
      omega
    · exact ⟨_, _, rfl, rfl, hk _ _ (hd3.mono (by omega)) (join_kind hz (by omega) (by omega))⟩
end
end CK
set_option Elab.async false
set_option linter.all false
set_option maxRecDepth 100000
set_option maxHeartbeats 4000000
namespace CK
open PySem PySem.Spec PyProof.Rows L2
open Evl (Ex ex_l ex_t fresh_back)
open C8 (Cal pe_c)
structure FillB (f : Fill) : Prop where
  ok : FillOk f
  am : ∀ e, e ∈ f → AmB e.2
  len : f.length ≤ 2
def DeedB : Deed → Prop
  | .add _ f => FillB f
  | d => d.den ≤ 1000000000000000000000000000000
def w__law_fill : WDK := fun dk ds k => ∃ b : Nat, DeckOk b dk ∧ ds = [.int 2] ∧ b ≤ 80000 ∧ ∀ dk' f, DeckOk (b + 29) dk' → FillB f → k dk' (fillD f)
def w__law_cellar : WDK := fun dk ds k => ∃ b : Nat, DeckOk b dk ∧ ds = [.int 1] ∧ b ≤ 70000 ∧ ∀ dk' c, DeckOk (b + 300) dk' → CellOk c → (∀ f, f ∈ c → FillB f) → k dk' (cellD c)
def w__law_deed : WDK := fun dk ds k => ∃ (b n : Nat), DeckOk b dk ∧ ds = [natD n] ∧ 1 ≤ n ∧ n ≤ 8 ∧ b ≤ 70000 ∧ ∀ dk' d, DeckOk (b + 60) dk' → d.Ok n → DeedB d → k dk' (deedD d)
def nes (c : Cell) : Nat := (c.filter fun f => !decide (f = [])).length
def adds (l : List Deed) : Nat := (l.filter addB).length
def w__law_story : WDK := fun dk ds k => ∃ (b : Nat) (c : Cell), DeckOk b dk ∧ ds = [cellD c, .int 24] ∧ CellOk c ∧ b ≤ 60000 ∧ ∀ dk' l, DeckOk (b + 2000) dk' → l.length ≤ 24 → (∀ d, d ∈ l → d.Ok c.length ∧ DeedB d) → nes c + adds l ≤ 10 → k dk' (storyT l)
theorem putT_len (tot : Fill) (k : Str) (x : Fr) : (putT tot k x).length ≤ tot.length + 1 := by
  induction tot with
  | nil => exact Nat.le_refl _
  | cons e es ih =>
    unfold putT
    split
    · rw [List.length_cons, List.length_cons]; omega
    · rw [List.length_cons, List.length_cons]; omega
theorem amt_in {tot : Fill} {k : Str} (h : k ∈ tot.map (·.1)) : (k, amt tot k) ∈ tot := by
  induction tot with
  | nil => cases h
  | cons e es ih =>
    unfold amt
    by_cases q : e.1 = k
    · rw [if_pos q, ← q]
      exact List.mem_cons_self
    · rw [if_neg q]
      rw [List.map_cons] at h
      rcases List.mem_cons.mp h with z | z
      · exact absurd z.symm q
      · exact List.mem_cons_of_mem _ (ih z)
theorem other_of {a n : Nat} {r : Int} (ha : a < n) (h0 : 0 ≤ r) (h1 : r < (n : Int) - 1) : ∃ o : Nat, ((a : Int) + 1 + r) % (n : Int) = (o : Int) ∧ o < n ∧ o ≠ a := by
  by_cases q : (a : Int) + 1 + r < (n : Int)
  · refine ⟨((a : Int) + 1 + r).toNat, ?_, by omega, by omega⟩
    rw [Int.emod_eq_of_lt (by omega) q]
    omega
  · refine ⟨((a : Int) + 1 + r - n).toNat, ?_, by omega, by omega⟩
    have e : ((a : Int) + 1 + r - (n : Int)) % (n : Int) = (a : Int) + 1 + r - (n : Int) := Int.emod_eq_of_lt (by omega) (by omega)
    rw [Int.sub_emod_right] at e
    rw [e]
    omega
theorem adds_app (l : List Deed) (d : Deed) : adds (l ++ [d]) = adds l + (if addB d = true then 1 else 0) := by
  unfold adds
  rw [List.filter_append, List.length_append]
  congr 1
  rw [List.filter_cons]
  split <;> rfl
theorem sh11 : ShOk (1, 1) := ⟨fr_small ⟨by decide, by decide⟩ (by decide) (by decide) (by decide), by decide, by decide⟩
theorem nes_le (c : Cell) : nes c ≤ c.length := List.length_filter_le _ _
theorem len__law_fill (dk ds : List PD) (k : List PD → PD → Prop) (h : w__law_fill dk ds k) : ds.length + 1 = 2 := by obtain ⟨_, _, rfl, _⟩ := h; rfl
theorem len__law_cellar (dk ds : List PD) (k : List PD → PD → Prop) (h : w__law_cellar dk ds k) : ds.length + 1 = 2 := by obtain ⟨_, _, rfl, _⟩ := h; rfl
theorem len__law_deed (dk ds : List PD) (k : List PD → PD → Prop) (h : w__law_deed dk ds k) : ds.length + 1 = 2 := by obtain ⟨_, _, _, rfl, _⟩ := h; rfl
theorem len__law_story (dk ds : List PD) (k : List PD → PD → Prop) (h : w__law_story dk ds k) : ds.length + 1 = 3 := by obtain ⟨_, _, _, rfl, _⟩ := h; rfl
local macro_rules | `(tactic| walk_at "ck") => `(tactic| repeat (first
  | (with_reducible refine r_seq ?_)
  | (with_reducible refine r_next ?_)
  | (with_reducible refine r_ret ?_)
  | (with_reducible refine r_set ?_)
  | (with_reducible refine r_ifs ?_)
  | (with_reducible refine r_B ?_)
  | (with_reducible refine r_boolK ?_)
  | (with_reducible refine r_op ?_)
  | (with_reducible refine r_c ?_)
  | (with_reducible refine r_call ?_)
  | (with_reducible refine r_cons ?_)
  | (with_reducible refine r_nil ?_)
  | (with_reducible refine r_intK ?_)
  | ((with_reducible refine' r_var ?e ?_); (case e => exact rfl))
  | ((with_reducible refine' r_ixT ?e ?_); (case e => exact rfl))
  | ((with_reducible refine' r_loT ?e ?_); (case e => exact rfl))
  | ((with_reducible refine' r_ixK ?e ?_); (case e => exact rfl))
  | (with_reducible refine r_eqI ?_)
  | (with_reducible refine r_int2 ?_)
  | (with_reducible refine r_eqS ?_)
  | (with_reducible refine r_addI ?_)
  | (with_reducible refine r_and ?_)
  | (with_reducible refine r_or ?_)
  | (with_reducible refine r_andV ?_)
  | (with_reducible refine r_ife ?_)
  | (with_reducible refine r_tup ?_)
  | (with_reducible refine r_lst ?_)
  | (with_reducible refine r_len2 ?_)
  | (with_reducible refine r_len0 ?_)
  | (with_reducible refine r_len3 ?_)
  | (with_reducible refine r_len4 ?_)
  | (with_reducible refine br_T ?_)
  | (with_reducible refine br_F ?_)
  | (with_reducible refine r_lenT ?_)
  | (with_reducible refine r_lenL ?_)
  | (with_reducible refine r_lstK ?_)
  | (with_reducible refine r_tupK ?_)
  | ((with_reducible refine' r_varo ?e ?_); (case e => exact rfl))
  | (with_reducible refine r_intI ?_)
  | (with_reducible refine r_intB ?_)
  | (with_reducible refine r_tuple ?_)
  | (with_reducible refine r_for ?_)
  | (with_reducible refine r_itL ?_)
  | (with_reducible refine r_itT ?_)
  | (with_reducible refine r_rng1 ?_)
  | (with_reducible refine r_gN ?_)
  | (with_reducible refine r_yes ?_)
  | (with_reducible refine r_lcv ?_)
  | (with_reducible refine r_setO ?_)
  | (with_reducible refine r_setD ?_)
  | (with_reducible refine r_olst ?_)
  | (with_reducible refine r_putD ?_)
  | (with_reducible refine r_app ?_)
  | (with_reducible refine r_cK ?_)
  | (with_reducible refine r_sortS ?_)
  | ((with_reducible refine' r_dicT ?e ?_); (case e => exact rfl))
  | ((with_reducible refine' r_dkT ?e ?_); (case e => exact rfl))
  | ((with_reducible refine' r_dkTD ?e ?_); (case e => exact rfl))
  | ((with_reducible refine' r_getD ?e ?_); (case e => exact rfl))
  | ((with_reducible refine' r_dic ?e ?_); (case e => exact rfl))
  | ((with_reducible refine' r_dkO ?e ?_); (case e => exact rfl))
  | ((with_reducible refine' r_dkD ?e ?_); (case e => exact rfl))
  | (with_reducible refine r_keyS ?_)
  | (with_reducible refine r_len7 ?_)
  | (with_reducible refine br_dt (by first | omega | assumption | (with_unfolding_all rfl) | (simp only [List.length_cons, List.length_nil]; omega) | decide +kernel) ?_)
  | (with_reducible refine br_df (by first | omega | assumption | (with_unfolding_all rfl) | (simp only [List.length_cons, List.length_nil]; omega) | decide +kernel) ?_)
  | (with_reducible refine And.intro (by omega) ?_)))
section
variable {P : Program} {w : World} {K : PySem.W.Frag} {mg : Str → Option Value} {base : Heap}
def N__law_fill : List Str := ["_law_deck_here", "_law_most", "_law_found", "_law_turn", "_law_kind_here"]
theorem sc__law_fill : FnScope N__law_fill ["_law_deck_here", "_law_most"] (defScope (top 76)) := ⟨rfl, rfl, rfl, by decide +kernel, rfl, by decide +kernel, by decide +kernel⟩
theorem ok__law_fill (T : Txt K mg) (c__law_amount : Cal P w K mg base 2 "_law_amount" (spK w__law_amount) []) (c__law_draw : Cal P w K mg base 1 "_law_draw" (spK w__law_draw) []) (c__law_kind : Cal P w K mg base 2 "_law_kind" (spK w__law_kind) []) : Cal P w K mg base 3 "_law_fill" (spK w__law_fill) [] := by
  obtain ⟨f, fd, F, hm⟩ := T.fn 57 rfl
  refine mk_K F hm sc__law_fill (fun _ _ _ _ _ _ us hl => match us, hl with | [_, _], _ => rfl) len__law_fill fun cdv A outer s H E hr => ?_
  have nd : N__law_fill.Nodup := sc__law_fill.nd
  refine ⟨_, (b_cons (t_setD 2 nd d_new)
  (b_cons (t_for PassesOwn.never rfl (i_rng1 T.range_ (p_cK 0 c__law_draw hr (by decide) (a_cons (p_add (pv_ 1) p_int) a_nil))) (v_name 3 nd)
  (b_cons (t_set 4 nd (p_cK 0 c__law_kind hr (by decide) a_nil))
  (b_one (t_putD 2 hr (p_cK 0 c__law_amount hr (by decide) a_nil) (pv_ 4)))))
  (b_one (t_ret (p_tuple T.tuple_ (a_cons (p_lc rfl nd (i_list (p_sortedDS 2 T.sorted_)) (blkOk_by (N := N__law_fill) (sc := defScope (top 76)) (own := [("_law_kind_here", 4)]) (by decide +kernel)) rfl (fun _ _ _ _ _ => (v_name 4 nd)) (fun _ _ _ _ _ => ts_nil) (fun _ _ _ _ _ => (p_tup (a_cons (pv_ 4) (a_cons (p_getD 2 hr (pv_ 4)) a_nil))))) a_nil)))))), ?_⟩
  intro dk ds k hw
  obtain ⟨b, hdk, rfl, hb, hk⟩ := hw
  refine rho_of [.dck dk, .dat (.int 2), .unk, .unk, .unk] rfl ?_
  walk_at "ck"
  refine draw_of hdk (by omega) (by omega) (by omega) fun dk1 r hd1 h1 h2 => ?_
  walk_at "ck"
  obtain ⟨n, rfl⟩ : ∃ n : Nat, r = (n : Int) := ⟨r.toNat, by omega⟩
  rw [show ((n : Int)).toNat = n from Int.toNat_natCast _, rng0]
  refine for_map natD (fun j ρ => ∃ dk' tot x3 x4, ρ = [.dck dk', .dat (.int 2), .dic (totD tot), x3, x4] ∧ DeckOk (b + 1 + 14 * j) dk' ∧ (tot.map (·.1)).Nodup ∧ (∀ e, e ∈ tot → KindOk e.1 ∧ AmB e.2) ∧ tot.length ≤ j) (List.range n) ⟨dk1, [], _, _, rfl, hd1, List.nodup_nil, fun _ h => (nomatch h), Nat.le_refl _⟩ (fun j x ρ nx' hj hI hn => ?_) (fun ρ hI => ?_)
  · obtain ⟨dk2, tot, x3, x4, rfl, hd2, hnd, he, htl⟩ := hI
    have hlt := (List.getElem?_eq_some_iff.mp hj).1
    rw [List.length_range] at hlt
    walk_at "ck"
    refine ⟨_, hd2, rfl, by omega, fun dk3 z hd3 hz => ?_⟩
    walk_at "ck"
    refine ⟨_, hd3, rfl, by omega, fun dk4 y hd4 hy => ?_⟩
    walk_at "ck"
    refine ⟨by rw [List.length_map]; omega, ?_⟩
    rw [totD_put hnd]
    refine hn _ ⟨dk4, _, _, _, rfl, hd4.mono (by omega), putT_nodup hnd, fun e hm => ?_, by have := putT_len tot z y; omega⟩
    rcases putT_mem hm with q | q
    · exact he e q
    · rw [q]; exact ⟨hz, hy⟩
  · obtain ⟨dk2, tot, x3, x4, rfl, hd2, hnd, he, htl⟩ := hI
    rw [List.length_range] at hd2 htl
    walk_at "ck"
    refine ⟨tot.map (·.1), totD_keys tot, by rw [List.length_map]; omega, fun ys hp hs => ?_⟩
    have nd : ys.Nodup := hp.nodup_iff.mpr hnd
    have asc := sorted_asc hs nd
    have hyl : ys.length ≤ 2 := by
      rw [hp.length_eq, List.length_map]
      omega
    walk_at "ck"
    refine lc_map PyData.str (fun y => entD (y, amt tot y)) ys [] (by show ys.length + 0 ≤ _; omega) (fun y hy k k0 hb => ?_) ?_
    · walk_at "ck"
      refine ⟨.inr y, frD (amt tot y), rfl, ?_, ?_⟩
      · rw [totD_val, if_pos (hp.mem_iff.mp hy)]
      · walk_at "ck"
        exact hb
    walk_at "ck"
    have hf : FillB (ys.map fun y => (y, amt tot y)) := by
      have key : ∀ e, e ∈ (ys.map fun y => (y, amt tot y)) → KindOk e.1 ∧ AmB e.2 := fun e hm => by
        obtain ⟨y, hy, rfl⟩ := List.mem_map.mp hm
        exact he _ (amt_in (hp.mem_iff.mp hy))
      exact ⟨⟨fun e hm => ⟨(key e hm).1, (key e hm).2.fr, (key e hm).2.pos⟩, by rw [Asc, List.pairwise_map]; exact asc, by rw [List.length_map]; omega⟩, fun e hm => (key e hm).2, by rw [List.length_map]; exact hyl⟩
    refine ⟨_, _, rfl, rfl, ?_⟩
    have h := hk dk2 _ (hd2.mono (by omega)) hf
    unfold fillD at h
    rw [List.map_map] at h
    rw [List.nil_append]
    exact h
def N__law_cellar : List Str := ["_law_deck_here", "_law_least", "_law_cask"]
theorem sc__law_cellar : FnScope N__law_cellar ["_law_deck_here", "_law_least"] (defScope (top 77)) := ⟨rfl, rfl, rfl, by decide +kernel, rfl, by decide +kernel, by decide +kernel⟩
theorem ok__law_cellar (T : Txt K mg) (c__law_draw : Cal P w K mg base 1 "_law_draw" (spK w__law_draw) []) (c__law_fill : Cal P w K mg base 3 "_law_fill" (spK w__law_fill) []) : Cal P w K mg base 4 "_law_cellar" (spK w__law_cellar) [] := by
  obtain ⟨f, fd, F, hm⟩ := T.fn 58 rfl
  refine mk_K F hm sc__law_cellar (fun _ _ _ _ _ _ us hl => match us, hl with | [_, _], _ => rfl) len__law_cellar fun cdv A outer s H E hr => ?_
  have nd : N__law_cellar.Nodup := sc__law_cellar.nd
  refine ⟨_, (b_one (t_ret (p_tuple T.tuple_ (a_cons (p_lc rfl nd (i_rng1 T.range_ (p_add (pv_ 1) (p_cK 0 c__law_draw hr (by decide) (a_cons (p_sub p_int (pv_ 1)) a_nil)))) (blkOk_by (N := N__law_cellar) (sc := defScope (top 77)) (own := [("_law_cask", 2)]) (by decide +kernel)) rfl (fun _ _ _ _ _ => (v_name 2 nd)) (fun _ _ _ _ _ => ts_nil) (fun _ _ _ _ _ => (p_cK 0 c__law_fill hr (by decide) (a_cons p_int a_nil)))) a_nil)))), ?_⟩
  intro dk ds k hw
  obtain ⟨b, hdk, rfl, hb, hk⟩ := hw
  refine rho_of [.dck dk, .dat (.int 1), .unk] rfl ?_
  walk_at "ck"
  refine draw_of hdk (by omega) (by omega) (by omega) fun dk1 r hd1 h1 h2 => ?_
  walk_at "ck"
  obtain ⟨n, hn, hn1, hn2⟩ : ∃ n : Nat, 1 + r = ((n : Nat) : Int) ∧ 1 ≤ n ∧ n ≤ 8 := ⟨(1 + r).toNat, by omega, by omega, by omega⟩
  rw [hn, show ((n : Int)).toNat = n from Int.toNat_natCast _, rng0]
  refine lc_inv (fun j acc ρ => ∃ dk' c, ρ = [.dck dk', .dat (.int 1), .unk] ∧ DeckOk (b + 1 + 29 * j) dk' ∧ acc = c.map fillD ∧ c.length = j ∧ ∀ f, f ∈ c → FillB f) ((List.range n).map natD) 0 [] ⟨dk1, [], rfl, hd1, rfl, rfl, fun _ h => nomatch h⟩ (fun i x acc ρ k k0 hi hI hk' hk0 => ?_) (fun acc ρ hI => ?_)
  · obtain ⟨dk3, c, rfl, hd3, rfl, hzl, hz⟩ := hI
    have hlt := (List.getElem?_eq_some_iff.mp hi).1
    rw [List.length_map, List.length_range] at hlt
    refine ⟨by rw [List.length_map]; omega, ?_⟩
    walk_at "ck"
    refine ⟨_, hd3, rfl, by omega, fun dk4 f hd4 hf => ?_⟩
    refine hk' _ _ ⟨dk4, c ++ [f], rfl, hd4.mono (by omega), by rw [List.map_append]; rfl, by rw [List.length_append, hzl]; rfl, fun z hz' => ?_⟩
    rcases List.mem_append.mp hz' with q | q
    · exact hz z q
    · rw [List.mem_singleton.mp q]
      exact hf
  · obtain ⟨dk3, c, rfl, hd3, rfl, hzl, hz⟩ := hI
    rw [List.length_map, List.length_range] at hzl hd3
    walk_at "ck"
    exact ⟨_, _, rfl, rfl, hk dk3 c (hd3.mono (by omega)) ⟨by omega, by omega, fun f hf => (hz f hf).ok⟩ hz⟩
def N__law_deed : List Str := ["_law_deck_here", "_law_casks", "_law_word", "_law_one", "_law_other"]
theorem sc__law_deed : FnScope N__law_deed ["_law_deck_here", "_law_casks"] (defScope (top 78)) := ⟨rfl, rfl, rfl, by decide +kernel, rfl, by decide +kernel, by decide +kernel⟩
theorem ok__law_deed (T : Txt K mg) (c__law_draw : Cal P w K mg base 1 "_law_draw" (spK w__law_draw) []) (c__law_fill : Cal P w K mg base 3 "_law_fill" (spK w__law_fill) []) (c__law_share : Cal P w K mg base 2 "_law_share" (spK w__law_share) []) : Cal P w K mg base 4 "_law_deed" (spK w__law_deed) [] := by
  obtain ⟨f, fd, F, hm⟩ := T.fn 59 rfl
  refine mk_K F hm sc__law_deed (fun _ _ _ _ _ _ us hl => match us, hl with | [_, _], _ => rfl) len__law_deed fun cdv A outer s H E hr => ?_
  have nd : N__law_deed.Nodup := sc__law_deed.nd
  refine ⟨_, (b_cons (t_set 2 nd (p_ix (p_lst (a_cons p_str (a_cons p_str (a_cons p_str (a_cons p_str (a_cons p_str (a_cons p_str (a_cons p_str a_nil)))))))) (p_cK 0 c__law_draw hr (by decide) (a_cons p_int a_nil))))
  (b_cons (t_set 3 nd (p_cK 0 c__law_draw hr (by decide) (a_cons (pv_ 1) a_nil)))
  (b_cons (t_if (q_eq hr (pv_ 2) p_str) (b_one (t_ret (p_tup (a_cons p_str (a_cons (pv_ 3) (a_cons (p_cK 0 c__law_fill hr (by decide) (a_cons p_int a_nil)) a_nil)))))) b_nil)
  (b_cons (t_if (q_pw (q_and (q_in (pv_ 2) (p_tup (a_cons p_str (a_cons p_str a_nil)))) (q_and1 (q_gt (pv_ 1) p_int)))) (b_cons (t_set 4 nd (p_mod (p_intc T.int_ (a_cons (p_add (p_add (pv_ 3) p_int) (p_cK 0 c__law_draw hr (by decide) (a_cons (p_sub (pv_ 1) p_int) a_nil))) a_nil)) (pv_ 1)))
  (b_one (t_ret (p_tup (a_cons (pv_ 2) (a_cons (pv_ 3) (a_cons (pv_ 4) (a_cons (p_cK 0 c__law_share hr (by decide) a_nil) a_nil)))))))) b_nil)
  (b_one (t_ret (p_tup (a_cons (p_ife (q_eq hr (pv_ 2) p_str) p_str p_str) (a_cons (pv_ 3) (a_cons (p_cK 0 c__law_share hr (by decide) a_nil) a_nil)))))))))), ?_⟩
  intro dk ds k hw
  obtain ⟨b, n, hdk, rfl, hn1, hn2, hb, hk⟩ := hw
  refine rho_of [.dck dk, .dat (natD n), .unk, .unk, .unk] rfl ?_
  walk_at "ck"
  refine draw_of hdk (by omega) (by omega) (by omega) fun dk1 r hd1 h1 h2 => ?_
  walk_at "ck"
  refine ix_strs (ms := ["move", "move", "swap", "draw", "draw", "keep", "add"]) h1 h2 fun z hz => ?_
  have hz : z = "move" ∨ z = "swap" ∨ z = "draw" ∨ z = "keep" ∨ z = "add" := by
    simp only [List.mem_cons, List.not_mem_nil, or_false] at hz
    rcases hz with h | h | h | h | h | h | h <;> simp [h]
  walk_at "ck"
  refine draw_of hd1 (by omega) (by omega) (by omega) fun dk2 r2 hd2 h3 h4 => ?_
  obtain ⟨a, rfl⟩ : ∃ a : Nat, r2 = (a : Int) := ⟨r2.toNat, by omega⟩
  have ha : a < n := by omega
  rcases hz with rfl | rfl | rfl | rfl | rfl
  · walk_at "ck"
    refine ⟨rfl, rfl, ?_⟩
    walk_at "ck"
    refine br_t (by decide +kernel) ?_
    walk_at "ck"
    refine br_2 (fun q => ?_) (fun q => ?_)
    · walk_at "ck"
      refine draw_of hd2 (by omega) (by omega) (by omega) fun dk3 r3 hd3 h5 h6 => ?_
      walk_at "ck"
      refine r_int2C (show (0 : Int) < (n : Int) by omega) ?_
      obtain ⟨o, ho, ho1, ho2⟩ := other_of (a := a) (n := n) (r := r3) ha h5 (by omega)
      rw [ho]
      walk_at "ck"
      refine ⟨_, hd3, rfl, by omega, fun dk4 s hd4 hs => ?_⟩
      walk_at "ck"
      exact ⟨_, _, rfl, rfl, hk dk4 (.move a o s) (hd4.mono (by omega)) ⟨ha, ho1, Ne.symm ho2, hs.1⟩ hs.2⟩
    · walk_at "ck"
      refine ⟨_, hd2, rfl, by omega, fun dk4 s hd4 hs => ?_⟩
      walk_at "ck"
      exact ⟨_, _, rfl, rfl, hk dk4 (.draw a s) (hd4.mono (by omega)) ⟨ha, hs.1⟩ hs.2⟩
  · walk_at "ck"
    refine ⟨rfl, rfl, ?_⟩
    walk_at "ck"
    refine br_t (by decide +kernel) ?_
    walk_at "ck"
    refine br_2 (fun q => ?_) (fun q => ?_)
    · walk_at "ck"
      refine draw_of hd2 (by omega) (by omega) (by omega) fun dk3 r3 hd3 h5 h6 => ?_
      walk_at "ck"
      refine r_int2C (show (0 : Int) < (n : Int) by omega) ?_
      obtain ⟨o, ho, ho1, ho2⟩ := other_of (a := a) (n := n) (r := r3) ha h5 (by omega)
      rw [ho]
      walk_at "ck"
      refine ⟨_, hd3, rfl, by omega, fun dk4 s hd4 hs => ?_⟩
      walk_at "ck"
      exact ⟨_, _, rfl, rfl, hk dk4 (.swap a o s) (hd4.mono (by omega)) ⟨ha, ho1, Ne.symm ho2, hs.1⟩ hs.2⟩
    · walk_at "ck"
      refine ⟨_, hd2, rfl, by omega, fun dk4 s hd4 hs => ?_⟩
      walk_at "ck"
      exact ⟨_, _, rfl, rfl, hk dk4 (.draw a s) (hd4.mono (by omega)) ⟨ha, hs.1⟩ hs.2⟩
  · walk_at "ck"
    refine ⟨rfl, rfl, ?_⟩
    walk_at "ck"
    refine br_f (by decide +kernel) ?_
    walk_at "ck"
    refine ⟨_, hd2, rfl, by omega, fun dk4 s hd4 hs => ?_⟩
    walk_at "ck"
    exact ⟨_, _, rfl, rfl, hk dk4 (.draw a s) (hd4.mono (by omega)) ⟨ha, hs.1⟩ hs.2⟩
  · walk_at "ck"
    refine ⟨rfl, rfl, ?_⟩
    walk_at "ck"
    refine br_f (by decide +kernel) ?_
    walk_at "ck"
    refine ⟨_, hd2, rfl, by omega, fun dk4 s hd4 hs => ?_⟩
    walk_at "ck"
    exact ⟨_, _, rfl, rfl, hk dk4 (.keep a s) (hd4.mono (by omega)) ⟨ha, hs.1⟩ hs.2⟩
  · walk_at "ck"
    refine ⟨_, hd2, rfl, by omega, fun dk3 f hd3 hf => ?_⟩
    walk_at "ck"
    exact ⟨_, _, rfl, rfl, hk dk3 (.add a f) (hd3.mono (by omega)) ⟨ha, hf.ok⟩ hf⟩
def N__law_story : List Str := ["_law_deck_here", "_law_cellar_here", "_law_most", "_law_found", "_law_many", "_law_fill_here", "_law_draws", "_law_turn", "_law_deed_here", "_law_is_lot"]
theorem sc__law_story : FnScope N__law_story ["_law_deck_here", "_law_cellar_here", "_law_most"] (defScope (top 79)) := ⟨rfl, rfl, rfl, by decide +kernel, rfl, by decide +kernel, by decide +kernel⟩
theorem ok__law_story (T : Txt K mg) (c__law_deed : Cal P w K mg base 4 "_law_deed" (spK w__law_deed) []) (c__law_draw : Cal P w K mg base 1 "_law_draw" (spK w__law_draw) []) : Cal P w K mg base 5 "_law_story" (spK w__law_story) [] := by
  obtain ⟨f, fd, F, hm⟩ := T.fn 60 rfl
  refine mk_K F hm sc__law_story (fun _ _ _ _ _ _ us hl => match us, hl with | [_, _, _], _ => rfl) len__law_story fun cdv A outer s H E hr => ?_
  have nd : N__law_story.Nodup := sc__law_story.nd
  refine ⟨_, (b_cons (t_setO 3 nd (o_lst a_nil))
  (b_cons (t_set 4 nd (p_len T.len_ (a_cons (p_lc rfl nd (i_tup (pv_ 1)) (blkOk_by (N := N__law_story) (sc := defScope (top 79)) (own := [("_law_fill_here", 5)]) (by decide +kernel)) rfl (fun _ _ _ _ _ => (v_name 5 nd)) (fun _ _ _ _ _ => (ts_one (q_ne hr (pv_ 5) (p_tup a_nil)))) (fun _ _ _ _ _ => (pv_ 5))) a_nil)))
  (b_cons (t_set 6 nd p_int)
  (b_cons (t_for PassesOwn.never rfl (i_rng1 T.range_ (p_cK 0 c__law_draw hr (by decide) (a_cons (p_add (pv_ 2) p_int) a_nil))) (v_name 7 nd)
  (b_cons (t_set 8 nd (p_cK 0 c__law_deed hr (by decide) (a_cons (p_len T.len_ (a_cons (pv_ 1) a_nil)) a_nil)))
  (b_cons (t_set 9 nd (p_and (p_eq hr (p_ixn 8 p_int) p_str) (p_one (p_ne hr (p_ixn 8 p_int) (p_tup a_nil)))))
  (b_cons (t_if (q_pw (q_or (q_pw (q_and (q_eq hr (p_ixn 8 p_int) p_str) (q_and1 (q_eq hr (pv_ 6) p_int)))) (q_or1 (q_pw (q_and (q_val (pv_ 9)) (q_and1 (q_eq hr (pv_ 4) p_int))))))) (b_one (t_set 8 nd (p_tup (a_cons p_str (a_cons (p_ixn 8 p_int) (a_cons (p_tup (a_cons p_int (a_cons p_int a_nil))) a_nil)))))) b_nil)
  (b_cons (t_set 6 nd (p_add (pv_ 6) (p_intc T.int_ (a_cons (p_eq hr (p_ixn 8 p_int) p_str) a_nil))))
  (b_cons (t_set 4 nd (p_add (pv_ 4) (p_intc T.int_ (a_cons (p_and (p_eq hr (p_ixn 8 p_int) p_str) (p_one (p_ne hr (p_ixn 8 p_int) (p_tup a_nil)))) a_nil))))
  (b_one (t_app 3 (pv_ 8)))))))))
  (b_one (t_ret (p_tuple T.tuple_ (a_cons (pv_ 3) a_nil)))))))), ?_⟩
  intro dk ds k hw
  obtain ⟨b, c, hdk, rfl, hc, hb, hk⟩ := hw
  have hc1 := hc.hi
  have hnes := nes_le c
  refine rho_of [.dck dk, .dat (cellD c), .dat (.int 24), .unk, .unk, .unk, .unk, .unk, .unk, .unk] rfl ?_
  walk_at "ck"
  refine lc_filter fillD (fun f => !decide (f = [])) fillD c [] (by show c.length + 0 ≤ _; omega) (fun f hf k k0 hb => ?_) ?_
  · walk_at "ck"
    refine r_neFill (hc.fill f hf) ?_
    walk_at "ck"
    exact hb
  walk_at "ck"
  have e0 : (([] ++ (c.filter fun f => !decide (f = [])).map fillD).length : Int) = (nes c : Int) := by
    rw [List.nil_append, List.length_map]
    rfl
  rw [e0]
  refine draw_of hdk (by omega) (by omega) (by omega) fun dk1 r hd1 h1 h2 => ?_
  walk_at "ck"
  obtain ⟨n, rfl⟩ : ∃ n : Nat, r = (n : Int) := ⟨r.toNat, by omega⟩
  rw [show ((n : Int)).toNat = n from Int.toNat_natCast _, rng0]
  refine for_map natD (fun j ρ => ∃ dk' l x5 draws x7 x8 x9, ρ = [.dck dk', .dat (cellD c), .dat (.int 24), .own (l.map deedD), .dat (.int ((nes c + adds l : Nat) : Int)), x5, .dat (.int draws), x7, x8, x9] ∧ DeckOk (b + 1 + 60 * j) dk' ∧ l.length = j ∧ (∀ d, d ∈ l → d.Ok c.length ∧ DeedB d) ∧ nes c + adds l ≤ 10) (List.range n) ⟨dk1, [], _, _, _, _, _, rfl, hd1, rfl, fun _ h => (nomatch h), by show nes c + 0 ≤ 10; omega⟩ (fun j x ρ nx' hj hI hn => ?_) (fun ρ hI => ?_)
  · obtain ⟨dk2, l, x5, draws, x7, x8, x9, rfl, hd2, hll, hok, hm10⟩ := hI
    have hlt := (List.getElem?_eq_some_iff.mp hj).1
    rw [List.length_range] at hlt
    walk_at "ck"
    refine ⟨_, c.length, hd2, by rw [List.length_map], hc.lo, hc.hi, by omega, fun dk3 d hd3 ok db => ?_⟩
    have fin : ∀ (d' : Deed) (m' ds' : Int) (y7 y8 y9 : En), d'.Ok c.length → DeedB d' → m' = ((nes c + adds (l ++ [d']) : Nat) : Int) → nes c + adds (l ++ [d']) ≤ 10 → nx' [.dck dk3, .dat (cellD c), .dat (.int 24), .own (l.map deedD ++ [deedD d']), .dat (.int m'), x5, .dat (.int ds'), y7, y8, y9] := fun d' m' ds' y7 y8 y9 o1 o2 e o3 => by
      subst e
      rw [show l.map deedD ++ [deedD d'] = (l ++ [d']).map deedD by rw [List.map_append]; rfl]
      refine hn _ ⟨dk3, l ++ [d'], _, _, _, _, _, rfl, hd3.mono (by omega), by rw [List.length_append, hll]; rfl, fun x hx => ?_, o3⟩
      rcases List.mem_append.mp hx with q | q
      · exact hok x q
      · rw [List.mem_singleton.mp q]
        exact ⟨o1, o2⟩
    have hll2 : (l.map deedD).length < 100000 := by rw [List.length_map]; omega
    cases d with
    | add a f =>
      walk_at "ck"
      refine r_neFill ok.2 ?_
      walk_at "ck"
      refine br_2n (fun q => ?_) (fun q => ?_)
      · walk_at "ck"
        refine br_2 (fun q2 => ?_) (fun q2 => ?_)
        · walk_at "ck"
          exact fin (.keep a (1, 1)) _ _ _ _ _ ⟨ok.1, sh11⟩ (show (1 : Int) ≤ _ by decide) (by rw [adds_app]; simp [addB]) (by rw [adds_app]; exact hm10)
        · walk_at "ck"
          refine r_neFill ok.2 ?_
          walk_at "ck"
          exact fin (.add a f) _ _ _ _ _ ok db (by rw [adds_app]; simp [addB, q]; omega) (by rw [adds_app]; simp [addB, q]; omega)
      · walk_at "ck"
        refine r_neFill ok.2 ?_
        walk_at "ck"
        exact fin (.add a f) _ _ _ _ _ ok db (by rw [adds_app]; simp [addB, q]) (by rw [adds_app]; simp [addB, q]; omega)
    | draw a s =>
      walk_at "ck"
      refine br_2 (fun q2 => ?_) (fun q2 => ?_)
      · walk_at "ck"
        exact fin (.keep a (1, 1)) _ _ _ _ _ ⟨ok.1, sh11⟩ (show (1 : Int) ≤ _ by decide) (by rw [adds_app]; simp [addB]) (by rw [adds_app]; exact hm10)
      · walk_at "ck"
        exact fin (.draw a s) _ _ _ _ _ ok db (by rw [adds_app]; simp [addB]) (by rw [adds_app]; exact hm10)
    | move a e s =>
      walk_at "ck"
      exact fin (.move a e s) _ _ _ _ _ ok db (by rw [adds_app]; simp [addB]) (by rw [adds_app]; exact hm10)
    | swap a e s =>
      walk_at "ck"
      exact fin (.swap a e s) _ _ _ _ _ ok db (by rw [adds_app]; simp [addB]) (by rw [adds_app]; exact hm10)
    | keep a s =>
      walk_at "ck"
      exact fin (.keep a s) _ _ _ _ _ ok db (by rw [adds_app]; simp [addB]) (by rw [adds_app]; exact hm10)
  · obtain ⟨dk2, l, x5, draws, x7, x8, x9, rfl, hd2, hll, hok, hm10⟩ := hI
    rw [List.length_range] at hd2 hll
    walk_at "ck"
    exact ⟨_, _, rfl, rfl, hk dk2 l (hd2.mono (by omega)) (by omega) hok hm10⟩
end
end CK
set_option Elab.async false
set_option linter.all false
set_option maxRecDepth 100000
set_option maxHeartbeats 4000000
namespace CK
open PySem PySem.Spec PyProof.Rows L2
open Evl (Ex ex_l ex_t fresh_back)
open C8 (Cal pe_c)
def w__law_kept : WDA := fun ds k => ∃ (d : Deed) (a : Nat) (over : Bool), ds = [deedD d, natD a, .bool over] ∧ k (frD (keptM d a over))
def w__law_amount_of : WDA := fun ds k => ∃ (f : Fill) (z : Str), ds = [fillD f, .str z] ∧ k (frD (amt f z))
def w__law_lots : WDA := fun ds k => ∃ (c : Cell) (l : List Deed), ds = [cellD c, storyT l] ∧ Sty c l ∧ ∀ L, Lots c l L → k (.list (L.map .int))
theorem zip_range {α : Type} (xs : List α) (x0 : α) : xs.zipIdx = (List.range xs.length).map fun i => (xs.getD i x0, i) := by
  refine List.ext_getElem? fun i => ?_
  rw [List.getElem?_zipIdx, List.getElem?_map]
  by_cases q : i < xs.length
  · rw [List.getElem?_range q, List.getElem?_eq_getElem q]
    show some (xs[i], 0 + i) = some (xs.getD i x0, i)
    rw [List.getD_eq_getElem?_getD, List.getElem?_eq_getElem q, Nat.zero_add]
    rfl
  · rw [List.getElem?_eq_none (by omega), List.getElem?_eq_none (by rw [List.length_range]; omega)]
    rfl
theorem first_range (c : Cell) : firstL c = ((List.range c.length).filter fun a => !decide (c.getD a [] = [])).map fun a : Nat => -1 - (a : Int) := by
  unfold firstL
  rw [zip_range c [], List.filter_map, List.map_map]
  rfl
theorem later_range (l : List Deed) : laterL l = ((List.range l.length).filter fun i => addB (l.getD i (.draw 0 (0, 1)))).map fun i : Nat => (i : Int) := by
  unfold laterL
  rw [zip_range l (.draw 0 (0, 1)), List.filter_map, List.map_map]
  rfl
theorem atI_l {l : List Deed} {i : Nat} (h : i < l.length) : atI (l.map deedD) (i : Int) = some (deedD (l.getD i (.draw 0 (0, 1)))) := atI_nat (by rw [List.getElem?_map, List.getElem?_eq_getElem h, List.getD_eq_getElem?_getD, List.getElem?_eq_getElem h]; rfl)
theorem getD_l {l : List Deed} {i : Nat} (h : i < l.length) : l[i]? = some (l.getD i (.draw 0 (0, 1))) := by rw [List.getD_eq_getElem?_getD, List.getElem?_eq_getElem h]; rfl
theorem len__law_kept (ds : List PD) (k : PD → Prop) (h : w__law_kept ds k) : ds.length = 3 := by obtain ⟨_, _, _, rfl, _⟩ := h; rfl
theorem len__law_amount_of (ds : List PD) (k : PD → Prop) (h : w__law_amount_of ds k) : ds.length = 2 := by obtain ⟨_, _, rfl, _⟩ := h; rfl
theorem len__law_lots (ds : List PD) (k : PD → Prop) (h : w__law_lots ds k) : ds.length = 2 := by obtain ⟨_, _, rfl, _⟩ := h; rfl
local macro_rules | `(tactic| walk_at "ck") => `(tactic| repeat (first
  | (with_reducible refine r_seq ?_)
  | (with_reducible refine r_next ?_)
  | (with_reducible refine r_ret ?_)
  | (with_reducible refine r_set ?_)
  | (with_reducible refine r_ifs ?_)
  | (with_reducible refine r_B ?_)
  | (with_reducible refine r_boolK ?_)
  | (with_reducible refine r_op ?_)
  | (with_reducible refine r_c ?_)
  | (with_reducible refine r_call ?_)
  | (with_reducible refine r_cons ?_)
  | (with_reducible refine r_nil ?_)
  | (with_reducible refine r_intK ?_)
  | ((with_reducible refine' r_var ?e ?_); (case e => exact rfl))
  | ((with_reducible refine' r_ixT ?e ?_); (case e => exact rfl))
  | ((with_reducible refine' r_loT ?e ?_); (case e => exact rfl))
  | ((with_reducible refine' r_ixK ?e ?_); (case e => exact rfl))
  | (with_reducible refine r_neI ?_)
  | (with_reducible refine r_int2 ?_)
  | (with_reducible refine r_eqS ?_)
  | (with_reducible refine r_and ?_)
  | (with_reducible refine r_or ?_)
  | (with_reducible refine r_tup ?_)
  | (with_reducible refine r_len2 ?_)
  | (with_reducible refine r_len0 ?_)
  | (with_reducible refine br_T ?_)
  | (with_reducible refine br_F ?_)
  | (with_reducible refine r_un ?_)
  | (with_reducible refine r_neg ?_)
  | (with_reducible refine r_lenT ?_)
  | (with_reducible refine r_tupK ?_)
  | ((with_reducible refine' r_wixT ?e ?_); (case e => exact rfl))
  | (with_reducible refine r_neS ?_)
  | (with_reducible refine r_for ?_)
  | (with_reducible refine r_itT ?_)
  | (with_reducible refine r_rng1 ?_)
  | (with_reducible refine r_gN ?_)
  | (with_reducible refine r_gP ?_)
  | (with_reducible refine r_lcv ?_)
  | (with_reducible refine br_dt (by first | omega | assumption | (with_unfolding_all rfl) | (simp only [List.length_cons, List.length_nil]; omega) | decide +kernel) ?_)
  | (with_reducible refine br_df (by first | omega | assumption | (with_unfolding_all rfl) | (simp only [List.length_cons, List.length_nil]; omega) | decide +kernel) ?_)
  | (with_reducible refine br_nt (by first | omega | assumption | (with_unfolding_all rfl) | (simp only [List.length_cons, List.length_nil]; omega) | decide +kernel) ?_)
  | (with_reducible refine br_nf (by first | omega | assumption | (with_unfolding_all rfl) | (simp only [List.length_cons, List.length_nil]; omega) | decide +kernel) ?_)))
section
variable {P : Program} {w : World} {K : PySem.W.Frag} {mg : Str → Option Value} {base : Heap}
def N__law_amount_of : List Str := ["_law_fill_here", "_law_kind_here", "_law_name", "_law_much"]
theorem sc__law_amount_of : FnScope N__law_amount_of ["_law_fill_here", "_law_kind_here"] (defScope (top 82)) := ⟨rfl, rfl, rfl, by decide +kernel, rfl, by decide +kernel, by decide +kernel⟩
theorem ok__law_amount_of (T : Txt K mg) : Cal P w K mg base 1 "_law_amount_of" (spF w__law_amount_of) [] := by
  obtain ⟨f, fd, F, hm⟩ := T.fn 63 rfl
  refine mk_F F hm sc__law_amount_of (fun _ _ _ _ _ _ us hl => match us, hl with | [_, _], _ => rfl) len__law_amount_of fun cdv A outer s H E hr => ?_
  have nd : N__law_amount_of.Nodup := sc__law_amount_of.nd
  refine ⟨_, (b_cons (t_for PassesOwn.never rfl (i_tup (pv_ 0)) (v_pair 2 3 rfl nd)
  (b_one (t_if (q_eq hr (pv_ 2) (pv_ 1)) (b_one (t_ret (pv_ 3))) b_nil)))
  (b_one (t_ret (p_tup (a_cons p_int (a_cons p_int a_nil)))))), ?_⟩
  intro ds k hw
  obtain ⟨f, z, rfl, hk⟩ := hw
  refine rho_of [.dat (fillD f), .dat (.str z), .unk, .unk] rfl ?_
  walk_at "ck"
  refine for_map entD (fun i ρ => (∃ a b, ρ = [.dat (fillD f), .dat (.str z), a, b]) ∧ amt f z = amt (f.drop i) z) f ⟨⟨_, _, rfl⟩, rfl⟩ (fun i e ρ nx' hi hI hn => ?_) (fun ρ hI => ?_)
  · obtain ⟨⟨a, b, rfl⟩, ha⟩ := hI
    have hd : f.drop i = e :: f.drop (i + 1) := by
      obtain ⟨h1, h2⟩ := List.getElem?_eq_some_iff.mp hi
      rw [List.drop_eq_getElem_cons h1, h2]
    rw [hd] at ha
    have ha : amt f z = if e.1 = z then e.2 else amt (f.drop (i + 1)) z := ha
    walk_at "ck"
    refine br_2 (fun q => ?_) (fun q => ?_)
    · walk_at "ck"
      refine ⟨_, rfl, ?_⟩
      rw [if_pos q] at ha
      rw [← ha]
      exact hk
    · walk_at "ck"
      rw [if_neg q] at ha
      exact hn _ ⟨⟨_, _, rfl⟩, ha⟩
  · obtain ⟨⟨a, b, rfl⟩, ha⟩ := hI
    rw [List.drop_length] at ha
    walk_at "ck"
    refine ⟨_, rfl, ?_⟩
    rw [ha] at hk
    exact hk
def N__law_lots : List Str := ["_law_cellar_here", "_law_story_here", "_law_first", "_law_cask", "_law_later", "_law_index"]
theorem sc__law_lots : FnScope N__law_lots ["_law_cellar_here", "_law_story_here"] (defScope (top 81)) := ⟨rfl, rfl, rfl, by decide +kernel, rfl, by decide +kernel, by decide +kernel⟩
theorem ok__law_lots (T : Txt K mg) : Cal P w K mg base 1 "_law_lots" (spF w__law_lots) [] := by
  obtain ⟨f, fd, F, hm⟩ := T.fn 62 rfl
  refine mk_F F hm sc__law_lots (fun _ _ _ _ _ _ us hl => match us, hl with | [_, _], _ => rfl) len__law_lots fun cdv A outer s H E hr => ?_
  have nd : N__law_lots.Nodup := sc__law_lots.nd
  refine ⟨_, (b_cons (t_setLc 2 rfl nd (i_rng1 T.range_ (p_len T.len_ (a_cons (pv_ 0) a_nil))) (blkOk_by (N := N__law_lots) (sc := defScope (top 81)) (own := [("_law_cask", 3)]) (by decide +kernel)) rfl (fun _ _ _ _ _ => (v_name 3 nd)) (fun _ _ _ _ _ => (ts_one (q_ne hr (p_ixn 0 (pv_ 3)) (p_tup a_nil)))) (fun _ _ _ _ _ => (p_sub (p_neg p_int) (pv_ 3))))
  (b_cons (t_setLc 4 rfl nd (i_rng1 T.range_ (p_len T.len_ (a_cons (pv_ 1) a_nil))) (blkOk_by (N := N__law_lots) (sc := defScope (top 81)) (own := [("_law_index", 5)]) (by decide +kernel)) rfl (fun _ _ _ _ _ => (v_name 5 nd)) (fun _ _ _ _ _ => (ts_one (q_pw (q_and (q_eq hr (p_ix (p_ixn 1 (pv_ 5)) p_int) p_str) (q_and1 (q_ne hr (p_ix (p_ixn 1 (pv_ 5)) p_int) (p_tup a_nil))))))) (fun _ _ _ _ _ => (pv_ 5)))
  (b_one (t_ret (p_add (p_sorted T.sorted_ (a_cons (pv_ 2) a_nil)) (pv_ 4)))))), ?_⟩
  intro ds k hw
  obtain ⟨c, l, rfl, st, hk⟩ := hw
  have hc1 := st.cell.hi
  have hl := st.len
  refine rho_of [.dat (cellD c), .dat (storyT l), .unk, .unk, .unk, .unk] rfl ?_
  walk_at "ck"
  rw [List.length_map]
  refine ⟨by omega, ?_⟩
  rw [show ((c.length : Int)).toNat = c.length from Int.toNat_natCast _, rng0]
  refine lc_filter natD (fun a => !decide (c.getD a [] = [])) (fun a => .int (-1 - (a : Int))) (List.range c.length) [] (by rw [List.length_range]; show c.length + 0 ≤ _; omega) (fun a ha k k0 hb => ?_) ?_
  · have ha := List.mem_range.mp ha
    walk_at "ck"
    refine ⟨_, atI_c ha, ?_⟩
    walk_at "ck"
    refine r_neFill (st.cell.at a) ?_
    walk_at "ck"
    exact hb
  walk_at "ck"
  rw [List.length_map]
  refine ⟨by omega, ?_⟩
  rw [show ((l.length : Int)).toNat = l.length from Int.toNat_natCast _, rng0]
  refine lc_filter natD (fun i => addB (l.getD i (.draw 0 (0, 1)))) (fun i => .int (i : Int)) (List.range l.length) [] (by rw [List.length_range]; show l.length + 0 ≤ _; omega) (fun i hi k k0 hb => ?_) ?_
  · have hi := List.mem_range.mp hi
    have ok := st.ok _ (List.mem_of_getElem? (getD_l hi))
    have hat := atI_l hi
    generalize l.getD i (.draw 0 (0, 1)) = d at *
    walk_at "ck"
    refine ⟨_, hat, ?_⟩
    cases d with
    | add a f =>
      walk_at "ck"
      refine ⟨_, hat, ?_⟩
      walk_at "ck"
      refine r_neFill ok.2 ?_
      walk_at "ck"
      exact hb
    | move a b s =>
      walk_at "ck"
      exact hb.f
    | swap a b s =>
      walk_at "ck"
      exact hb.f
    | draw a s =>
      walk_at "ck"
      exact hb.f
    | keep a s =>
      walk_at "ck"
      exact hb.f
  walk_at "ck"
  rw [List.nil_append, List.nil_append]
  refine ⟨firstL c, by rw [first_range, List.map_map]; rfl, ?_, fun ns hp hs => ?_⟩
  · unfold firstL
    rw [List.length_map]
    refine Nat.lt_of_le_of_lt (List.length_filter_le _ _) ?_
    rw [List.length_zipIdx]
    omega
  walk_at "ck"
  have hz2 : ns.length ≤ 8 := by
    rw [hp.length_eq]
    unfold firstL
    rw [List.length_map]
    refine Nat.le_trans (List.length_filter_le _ _) ?_
    rw [List.length_zipIdx]
    omega
  have hz3 : ((List.range l.length).filter fun i => addB (l.getD i (.draw 0 (0, 1)))).length ≤ l.length := by
    refine Nat.le_trans (List.length_filter_le _ _) ?_
    rw [List.length_range]
    exact Nat.le_refl _
  refine r_addL (by rw [List.length_map, List.length_map]; omega) ?_
  refine ⟨_, rfl, ?_⟩
  have h := hk _ (lots_of (l := l) hp hs)
  rw [List.map_append, later_range, List.map_map] at h
  exact h
def N__law_kept : List Str := ["_law_deed_here", "_law_cask", "_law_is_over", "_law_share_here"]
theorem sc__law_kept : FnScope N__law_kept ["_law_deed_here", "_law_cask", "_law_is_over"] (defScope (top 83)) := ⟨rfl, rfl, rfl, by decide +kernel, rfl, by decide +kernel, by decide +kernel⟩
theorem ok__law_kept (T : Txt K mg) : Cal P w K mg base 1 "_law_kept" (spF w__law_kept) [] := by
  obtain ⟨f, fd, F, hm⟩ := T.fn 64 rfl
  refine mk_F F hm sc__law_kept (fun _ _ _ _ _ _ us hl => match us, hl with | [_, _, _], _ => rfl) len__law_kept fun cdv A outer s H E hr => ?_
  have nd : N__law_kept.Nodup := sc__law_kept.nd
  refine ⟨_, (b_cons (t_set 3 nd (p_ixn 0 (p_neg p_int)))
  (b_cons (t_if (q_pw (q_or (q_eq hr (p_ixn 0 p_int) p_str) (q_or1 (q_pw (q_and (q_ne hr (p_ixn 0 p_int) (pv_ 1)) (q_and1 (q_pw (q_or (q_ne hr (p_ixn 0 p_int) p_str) (q_or1 (q_ne hr (p_ixn 0 p_int) (pv_ 1))))))))))) (b_one (t_ret (p_tup (a_cons p_int (a_cons p_int a_nil))))) b_nil)
  (b_cons (t_if (q_pw (q_or (q_val (pv_ 2)) (q_or1 (q_eq hr (p_ixn 0 p_int) p_str)))) (b_one (t_ret (pv_ 3))) b_nil)
  (b_one (t_ret (p_tup (a_cons (p_sub (p_ixn 3 p_int) (p_ixn 3 p_int)) (a_cons (p_ixn 3 p_int) a_nil)))))))), ?_⟩
  intro ds k hw
  obtain ⟨d, a, over, rfl, hk⟩ := hw
  refine rho_of [.dat (deedD d), .dat (natD a), .dat (.bool over), .unk] rfl ?_
  cases d with
  | add p f =>
    walk_at "ck"
    exact ⟨_, rfl, hk⟩
  | move p q s =>
    replace hk : k (frD (if p = a then (if over = true then s else (s.2 - s.1, s.2)) else (1, 1))) := hk
    walk_at "ck"
    refine br_2n (fun z => ?_) (fun z => ?_)
    · rw [if_neg (by omega)] at hk
      walk_at "ck"
      exact ⟨_, rfl, hk⟩
    · rw [if_pos (by omega)] at hk
      walk_at "ck"
      cases over with
      | true =>
        walk_at "ck"
        exact ⟨_, rfl, hk⟩
      | false =>
        walk_at "ck"
        exact ⟨_, rfl, hk⟩
  | draw p s =>
    replace hk : k (frD (if p = a then (if over = true then s else (s.2 - s.1, s.2)) else (1, 1))) := hk
    walk_at "ck"
    refine br_2n (fun z => ?_) (fun z => ?_)
    · rw [if_neg (by omega)] at hk
      walk_at "ck"
      exact ⟨_, rfl, hk⟩
    · rw [if_pos (by omega)] at hk
      walk_at "ck"
      cases over with
      | true =>
        walk_at "ck"
        exact ⟨_, rfl, hk⟩
      | false =>
        walk_at "ck"
        exact ⟨_, rfl, hk⟩
  | keep p s =>
    replace hk : k (frD (if p = a then s else (1, 1))) := hk
    walk_at "ck"
    refine br_2n (fun z => ?_) (fun z => ?_)
    · rw [if_neg (by omega)] at hk
      walk_at "ck"
      exact ⟨_, rfl, hk⟩
    · rw [if_pos (by omega)] at hk
      walk_at "ck"
      cases over with
      | true =>
        walk_at "ck"
        exact ⟨_, rfl, hk⟩
      | false =>
        walk_at "ck"
        exact ⟨_, rfl, hk⟩
  | swap p q s =>
    replace hk : k (frD (if p = a ∨ q = a then (if over = true then s else (s.2 - s.1, s.2)) else (1, 1))) := hk
    have tail : (p = a ∨ q = a) → (over = true → k (frD s)) ∧ (over = false → k (frD (s.2 - s.1, s.2))) := fun z => by
      rw [if_pos z] at hk
      exact ⟨fun e => by rw [if_pos e] at hk; exact hk, fun e => by rw [if_neg (by rw [e]; decide)] at hk; exact hk⟩
    walk_at "ck"
    refine br_2n (fun z => ?_) (fun z => ?_)
    · walk_at "ck"
      refine br_2n (fun z2 => ?_) (fun z2 => ?_)
      · rw [if_neg (by omega)] at hk
        walk_at "ck"
        exact ⟨_, rfl, hk⟩
      · have tl := tail (by omega)
        walk_at "ck"
        cases over with
        | true =>
          walk_at "ck"
          exact ⟨_, rfl, tl.1 rfl⟩
        | false =>
          walk_at "ck"
          exact ⟨_, rfl, tl.2 rfl⟩
    · have tl := tail (by omega)
      walk_at "ck"
      cases over with
      | true =>
        walk_at "ck"
        exact ⟨_, rfl, tl.1 rfl⟩
      | false =>
        walk_at "ck"
        exact ⟨_, rfl, tl.2 rfl⟩
end
end CK
set_option Elab.async false
set_option linter.all false
set_option maxRecDepth 100000
set_option maxHeartbeats 4000000
namespace CK
open PySem PySem.Spec PyProof.Rows L2
open Evl (Ex ex_l ex_t fresh_back)
open C8 (Cal pe_c)
def w__law_marked : WDA := fun ds k => ∃ (c : Cell) (l : List Deed) (L : List Int), ds = [cellD c, storyT l, .list (L.map .int)] ∧ LotPre c l L ∧ L.length ≤ 10 ∧ k (.tuple [cellD (mkC c L), storyL (mkL l L)])
theorem kinds_list : (([] : List PD) ++ ((signsD "abcdefghij").filter fun _ => true).map fun d => match d with | .str z => PyData.str ("lot" ++ z) | _ => .none) = kinds10.map PyData.str := by
  with_unfolding_all rfl
theorem fold_snoc {α : Type} {xs : List α} {j : Nat} {x : α} (h : xs[j]? = some x) : xs.take (j + 1) = xs.take j ++ [x] := by rw [List.take_add_one, h]; rfl
theorem len__law_marked (ds : List PD) (k : PD → Prop) (h : w__law_marked ds k) : ds.length = 3 := by obtain ⟨_, _, _, rfl, _⟩ := h; rfl
local macro_rules | `(tactic| walk_at "ck") => `(tactic| repeat (first
  | (with_reducible refine r_seq ?_)
  | (with_reducible refine r_next ?_)
  | (with_reducible refine r_ret ?_)
  | (with_reducible refine r_set ?_)
  | (with_reducible refine r_ifs ?_)
  | (with_reducible refine r_B ?_)
  | (with_reducible refine r_boolK ?_)
  | (with_reducible refine r_op ?_)
  | (with_reducible refine r_c ?_)
  | (with_reducible refine r_call ?_)
  | (with_reducible refine r_cons ?_)
  | (with_reducible refine r_nil ?_)
  | (with_reducible refine r_intK ?_)
  | ((with_reducible refine' r_var ?e ?_); (case e => exact rfl))
  | ((with_reducible refine' r_ixT ?e ?_); (case e => exact rfl))
  | ((with_reducible refine' r_loT ?e ?_); (case e => exact rfl))
  | ((with_reducible refine' r_ixK ?e ?_); (case e => exact rfl))
  | (with_reducible refine r_int2 ?_)
  | (with_reducible refine r_eqS ?_)
  | (with_reducible refine r_and ?_)
  | (with_reducible refine r_ife ?_)
  | (with_reducible refine r_tup ?_)
  | (with_reducible refine r_len1 ?_)
  | (with_reducible refine r_len2 ?_)
  | (with_reducible refine r_len0 ?_)
  | (with_reducible refine r_len3 ?_)
  | (with_reducible refine br_T ?_)
  | (with_reducible refine br_F ?_)
  | (with_reducible refine r_un ?_)
  | (with_reducible refine r_neg ?_)
  | (with_reducible refine r_lenT ?_)
  | (with_reducible refine r_lstK ?_)
  | (with_reducible refine r_strK ?_)
  | ((with_reducible refine' r_ixL ?e ?_); (case e => exact rfl))
  | ((with_reducible refine' r_loL ?e ?_); (case e => exact rfl))
  | ((with_reducible refine' r_varo ?e ?_); (case e => exact rfl))
  | ((with_reducible refine' r_wixT ?e ?_); (case e => exact rfl))
  | (with_reducible refine r_tuple ?_)
  | (with_reducible refine r_for ?_)
  | (with_reducible refine r_rng1 ?_)
  | (with_reducible refine r_sgn ?_)
  | (with_reducible refine r_gN ?_)
  | (with_reducible refine r_yes ?_)
  | (with_reducible refine r_lcv ?_)
  | (with_reducible refine r_app ?_)
  | (with_reducible refine r_index ?_)
  | ((with_reducible refine' r_dkT ?e ?_); (case e => exact rfl))
  | ((with_reducible refine' r_dkO ?e ?_); (case e => exact rfl))
  | (with_reducible refine r_par00 ?_)
  | (with_reducible refine br_dt (by first | omega | assumption | (with_unfolding_all rfl) | (simp only [List.length_cons, List.length_nil]; omega) | decide +kernel) ?_)
  | (with_reducible refine br_df (by first | omega | assumption | (with_unfolding_all rfl) | (simp only [List.length_cons, List.length_nil]; omega) | decide +kernel) ?_)))
section
variable {P : Program} {w : World} {K : PySem.W.Frag} {mg : Str → Option Value} {base : Heap}
def N__law_marked : List Str := ["_law_cellar_here", "_law_story_here", "_law_known", "_law_kinds", "_law_letter", "_law_fills", "_law_deeds", "_law_cask", "_law_fill_here", "_law_index", "_law_deed_here"]
theorem sc__law_marked : FnScope N__law_marked ["_law_cellar_here", "_law_story_here", "_law_known"] (defScope (top 80)) := ⟨rfl, rfl, rfl, by decide +kernel, rfl, by decide +kernel, by decide +kernel⟩
theorem ok__law_marked (T : Txt K mg) : Cal P w K mg base 1 "_law_marked" (spF w__law_marked) [] := by
  obtain ⟨f, fd, F, hm⟩ := T.fn 61 rfl
  refine mk_F F hm sc__law_marked (fun _ _ _ _ _ _ us hl => match us, hl with | [_, _, _], _ => rfl) len__law_marked fun cdv A outer s H E hr => ?_
  have nd : N__law_marked.Nodup := sc__law_marked.nd
  refine ⟨_, (b_cons (t_setLc 3 rfl nd (i_str p_str) (blkOk_by (N := N__law_marked) (sc := defScope (top 80)) (own := [("_law_letter", 4)]) (by decide +kernel)) rfl (fun _ _ _ _ _ => (v_name 4 nd)) (fun _ _ _ _ _ => ts_nil) (fun _ _ _ _ _ => (p_add p_str (pv_ 4))))
  (b_cons (t_par00 5 6 rfl nd)
  (b_cons (t_for PassesOwn.never rfl (i_rng1 T.range_ (p_len T.len_ (a_cons (pv_ 0) a_nil))) (v_name 7 nd)
  (b_cons (t_set 8 nd (p_ixn 0 (pv_ 7)))
  (b_one (t_app 5 (p_ife (q_ne hr (pv_ 8) (p_tup a_nil)) (p_tup (a_cons (p_tup (a_cons (p_ixn 3 (p_index (pv_ 2) (p_sub (p_neg p_int) (pv_ 7)))) (a_cons (p_ix (p_ixn 8 p_int) p_int) a_nil))) a_nil)) (p_tup a_nil))))))
  (b_cons (t_for PassesOwn.never rfl (i_rng1 T.range_ (p_len T.len_ (a_cons (pv_ 1) a_nil))) (v_name 9 nd)
  (b_cons (t_set 10 nd (p_ixn 1 (pv_ 9)))
  (b_cons (t_if (q_pw (q_and (q_eq hr (p_ixn 10 p_int) p_str) (q_and1 (q_ne hr (p_ixn 10 p_int) (p_tup a_nil))))) (b_one (t_set 10 nd (p_tup (a_cons p_str (a_cons (p_ixn 10 p_int) (a_cons (p_tup (a_cons (p_tup (a_cons (p_ixn 3 (p_index (pv_ 2) (pv_ 9))) (a_cons (p_ix (p_ix (p_ixn 10 p_int) p_int) p_int) a_nil))) a_nil)) a_nil)))))) b_nil)
  (b_one (t_app 6 (pv_ 10))))))
  (b_one (t_ret (p_tup (a_cons (p_tuple T.tuple_ (a_cons (pv_ 5) a_nil)) (a_cons (pv_ 6) a_nil))))))))), ?_⟩
  intro ds k hw
  obtain ⟨c, l, L, rfl, pre, hL, hk⟩ := hw
  have hc1 := pre.st.cell.hi
  have hl := pre.st.len
  refine rho_of [.dat (cellD c), .dat (storyT l), .dat (.list (L.map .int)), .unk, .unk, .unk, .unk, .unk, .unk, .unk, .unk] rfl ?_
  walk_at "ck"
  refine lcW_fm (fun _ => true) (fun d => match d with | .str z => PyData.str ("lot" ++ z) | _ => .none) (signsD "abcdefghij") [] (by decide +kernel) (fun x hx k k0 hb => ?_) ?_
  · obtain ⟨ch, hc, rfl⟩ := List.mem_map.mp hx
    walk_at "ck"
    refine r_addS (by show 3 + 1 ≤ 100000; decide) ?_
    walk_at "ck"
    exact hb.t
  rw [kinds_list]
  walk_at "ck"
  rw [List.length_map]
  refine ⟨by omega, ?_⟩
  rw [show ((c.length : Int)).toNat = c.length from Int.toNat_natCast _, rng0]
  refine for_map natD (fun j ρ => ∃ x4 x7 x8 x9 x10, ρ = [.dat (cellD c), .dat (storyT l), .dat (.list (L.map .int)), .dat (.list (kinds10.map .str)), x4, .own (((mkC c L).take j).map fillD), .own [], x7, x8, x9, x10]) (List.range c.length) ⟨_, _, _, _, _, by rw [List.take_zero]; rfl⟩ (fun j x ρ nx' hj hI hn => ?_) (fun ρ hI => ?_)
  · obtain ⟨x4, x7, x8, x9, x10, rfl⟩ := hI
    obtain ⟨hj1, hj2⟩ := List.getElem?_eq_some_iff.mp hj
    rw [List.getElem_range] at hj2
    subst hj2
    rw [List.length_range] at hj1
    have hat := atI_c hj1
    have hf : c[j]? = some (c.getD j []) := by rw [List.getD_eq_getElem?_getD, List.getElem?_eq_getElem hj1]; rfl
    have hm : (mkC c L)[j]? = some (mkF L (-1 - (j : Int)) (c.getD j [])) := by rw [mkC_at, hf]; rfl
    have hok := pre.st.cell.at j
    have hlot : c.getD j [] ≠ [] → (-1 - (j : Int)) ∈ L := fun h => (pre.lots.mem _).mpr (.inl ⟨j, rfl, hj1, h⟩)
    have htl : ((mkC c L).take j).length ≤ 8 := by rw [List.length_take, mkC_len]; omega
    have fin : ∀ (y : PD) (y8 : En), y = fillD (mkF L (-1 - (j : Int)) (c.getD j [])) → nx' [.dat (cellD c), .dat (storyT l), .dat (.list (L.map .int)), .dat (.list (kinds10.map .str)), x4, .own (((mkC c L).take j).map fillD ++ [y]), .own [], .dat (natD j), y8, x9, x10] := fun y y8 e => by
      subst e
      rw [show ((mkC c L).take j).map fillD ++ [fillD (mkF L (-1 - (j : Int)) (c.getD j []))] = ((mkC c L).take (j + 1)).map fillD by rw [fold_snoc hm, List.map_append]; rfl]
      exact hn _ ⟨_, _, _, _, _, rfl⟩
    generalize c.getD j [] = f at *
    walk_at "ck"
    refine ⟨_, hat, ?_⟩
    walk_at "ck"
    refine r_neFill hok ?_
    walk_at "ck"
    cases f with
    | nil =>
      refine br_nf rfl ?_
      walk_at "ck"
      rw [List.length_map]
      refine ⟨by omega, ?_⟩
      exact fin _ _ rfl
    | cons e es =>
      refine br_nt (fun e => nomatch e) ?_
      have hz := hlot (fun e => nomatch e)
      obtain ⟨i1, i2⟩ := idx_of pre.lots.asc hz
      walk_at "ck"
      refine ⟨L, rfl, _, i1, i2, ?_⟩
      walk_at "ck"
      refine ⟨.str (kd L (-1 - (j : Int))), atI_nat (by rw [List.getElem?_map, kd_at hL hz]; rfl), ?_⟩
      walk_at "ck"
      refine ⟨entD e, atI_nat (j := 0) rfl, ?_⟩
      walk_at "ck"
      rw [List.length_map]
      refine ⟨by omega, ?_⟩
      exact fin _ _ rfl
  obtain ⟨x4, x7, x8, x9, x10, rfl⟩ := hI
  rw [List.take_of_length_le (by rw [mkC_len, List.length_range]; exact Nat.le_refl _)]
  walk_at "ck"
  rw [List.length_map]
  refine ⟨by omega, ?_⟩
  rw [show ((l.length : Int)).toNat = l.length from Int.toNat_natCast _, rng0]
  refine for_map natD (fun j ρ => ∃ x4 x7 x8 x9 x10, ρ = [.dat (cellD c), .dat (storyT l), .dat (.list (L.map .int)), .dat (.list (kinds10.map .str)), x4, .own ((mkC c L).map fillD), .own (((mkL l L).take j).map deedD), x7, x8, x9, x10]) (List.range l.length) ⟨_, _, _, _, _, by rw [List.take_zero]; rfl⟩ (fun j x ρ nx' hj hI hn => ?_) (fun ρ hI => ?_)
  · obtain ⟨x4, x7, x8, x9, x10, rfl⟩ := hI
    obtain ⟨hj1, hj2⟩ := List.getElem?_eq_some_iff.mp hj
    rw [List.getElem_range] at hj2
    subst hj2
    rw [List.length_range] at hj1
    have hd := getD_l hj1
    have hat := atI_l hj1
    have ok := pre.st.ok _ (List.mem_of_getElem? hd)
    have hm : (mkL l L)[j]? = some (mkD L j (l.getD j (.draw 0 (0, 1)))) := by rw [mkL_at, hd]; rfl
    have htl : ((mkL l L).take j).length ≤ 900 := by rw [List.length_take, mkL_len]; omega
    generalize l.getD j (.draw 0 (0, 1)) = d at *
    have fin : ∀ (y : PD) (y10 : En), y = deedD (mkD L j d) → nx' [.dat (cellD c), .dat (storyT l), .dat (.list (L.map .int)), .dat (.list (kinds10.map .str)), x4, .own ((mkC c L).map fillD), .own (((mkL l L).take j).map deedD ++ [y]), x7, x8, .dat (natD j), y10] := fun y y10 e => by
      subst e
      rw [show ((mkL l L).take j).map deedD ++ [deedD (mkD L j d)] = ((mkL l L).take (j + 1)).map deedD by rw [fold_snoc hm, List.map_append]; rfl]
      exact hn _ ⟨_, _, _, _, _, rfl⟩
    walk_at "ck"
    refine ⟨_, hat, ?_⟩
    cases d with
    | add a f =>
      walk_at "ck"
      refine r_neFill ok.2 ?_
      walk_at "ck"
      cases f with
      | nil =>
        refine br_nf rfl ?_
        walk_at "ck"
        rw [List.length_map]
        refine ⟨by omega, ?_⟩
        exact fin _ _ rfl
      | cons e es =>
        refine br_nt (fun e => nomatch e) ?_
        have hz : (j : Int) ∈ L := (pre.lots.mem _).mpr (.inr ⟨j, a, e :: es, rfl, hd, fun e => nomatch e⟩)
        obtain ⟨i1, i2⟩ := idx_of pre.lots.asc hz
        walk_at "ck"
        refine ⟨L, rfl, _, i1, i2, ?_⟩
        walk_at "ck"
        refine ⟨.str (kd L (j : Int)), atI_nat (by rw [List.getElem?_map, kd_at hL hz]; rfl), ?_⟩
        walk_at "ck"
        refine r_wixT (ds := (e :: es).map entD) (d := entD e) (atI_nat (j := 0) rfl) ?_
        walk_at "ck"
        rw [List.length_map]
        refine ⟨by omega, ?_⟩
        exact fin _ _ rfl
    | move a b s =>
      walk_at "ck"
      rw [List.length_map]
      refine ⟨by omega, ?_⟩
      exact fin _ _ rfl
    | swap a b s =>
      walk_at "ck"
      rw [List.length_map]
      refine ⟨by omega, ?_⟩
      exact fin _ _ rfl
    | draw a s =>
      walk_at "ck"
      rw [List.length_map]
      refine ⟨by omega, ?_⟩
      exact fin _ _ rfl
    | keep a s =>
      walk_at "ck"
      rw [List.length_map]
      refine ⟨by omega, ?_⟩
      exact fin _ _ rfl
  obtain ⟨x4, x7, x8, x9, x10, rfl⟩ := hI
  rw [List.take_of_length_le (by rw [mkL_len, List.length_range]; exact Nat.le_refl _)]
  walk_at "ck"
  exact ⟨_, rfl, hk⟩
end
end CK
set_option Elab.async false
set_option linter.all false
set_option maxRecDepth 100000
set_option maxHeartbeats 4000000
namespace CK
open PySem PySem.Spec PyProof.Rows L2
open Evl (Ex ex_l ex_t fresh_back)
open C8 (Cal pe_c)
structure Mark (c : Cell) (l : List Deed) (L : List Int) (st : List Cell) : Prop where
  pre : LotPre c l L
  ten : L.length ≤ 10
  run : ∃ Ks N M, RunOk (mkC c L) (mkL l L) Ks N M st
  den : ∀ d, d ∈ l → d.den ≤ 1000000000000000000000000000000
  am : ∀ f, f ∈ c → ∀ e, e ∈ f → AmB e.2
  amA : ∀ a f, Deed.add a f ∈ l → ∀ e, e ∈ f → AmB e.2
  len : l.length ≤ 24
def w__law_road_right : WDA := fun ds k => ∃ (c : Cell) (l : List Deed) (L : List Int) (st : List Cell) (z : Int) (i a : Nat) (s : Fr) (p : List Int), ds = [.list (st.map cellD), storyL (mkL l L), .int z, .str (kd L z), natD i, .list ((p ++ [(i : Int)]).map .int)] ∧ Mark c l L st ∧ z ∈ L ∧ l[i]? = some (.draw a s) ∧ Path c l z p i a ∧ k (.bool true)
theorem br_val {b : Bool} {ta tb : TED} {ρ : Rho} {Q : PD → Rho → Prop} (I : PD → Prop) (h1 : b = true → ∀ Q' : PD → Rho → Prop, (∀ d, I d → Q' d ρ) → ta ρ Q') (h2 : b = false → ∀ Q' : PD → Rho → Prop, (∀ d, I d → Q' d ρ) → tb ρ Q') (h : ∀ d, I d → Q d ρ) : br b (ta ρ Q) (tb ρ Q) := ⟨fun q => h1 q Q h, fun q => h2 q Q h⟩
theorem AmB.lft {x : Fr} (h : AmB x) : Lft x 100 := Lft.start h.pos h.fr.red.pos h.n h.d
theorem atI_m {l : List Deed} {L : List Int} {u : Nat} {d : Deed} (h : l[u]? = some d) : atI ((mkL l L).map deedD) (u : Int) = some (deedD (mkD L u d)) := atI_nat (by rw [List.getElem?_map, mkL_at, h]; rfl)
theorem atI_st {st : List Cell} {u : Nat} {c1 : Cell} (h : st[u]? = some c1) : atI (st.map cellD) (u : Int) = some (cellD c1) := atI_nat (by rw [List.getElem?_map, h]; rfl)
theorem lft_c {x y : Fr} {n : Nat} (hx : Lft x n) (hn : n + 100 ≤ 10000) (hy : Kept y 1000000000000000000000000000000) : CMulW x.1 y.1 ∧ CMulW x.2 y.2 := by
  have h1 := hx.abs
  have h2 : y.1.natAbs < 2 ^ 100 := natAbs_lt (by have := hy.n; omega) (Int.lt_of_le_of_lt hy.nb big_lt)
  have h3 : y.2.natAbs < 2 ^ 100 := natAbs_lt (by have := hy.d; omega) (Int.lt_of_le_of_lt hy.db big_lt)
  have h4 : x.1.natAbs < 2 ^ (n + 1) := Nat.lt_of_lt_of_le h1.1 (Nat.pow_le_pow_right (by decide) (by omega))
  have h5 : x.2.natAbs < 2 ^ (n + 1) := Nat.lt_of_lt_of_le h1.2 (Nat.pow_le_pow_right (by decide) (by omega))
  exact ⟨cmul h4 h2 (by omega) (by decide) (by omega), cmul h5 h3 (by omega) (by decide) (by omega)⟩
theorem lft_f {x y : Fr} {n : Nat} (hx : Lft x n) (hn : n ≤ 10000) (hy : FrOk y) : CMulW y.1 x.2 ∧ CMulW x.1 y.2 := by
  have h1 := hx.abs
  have h4 : x.1.natAbs < 2 ^ (n + 1) := Nat.lt_of_lt_of_le h1.1 (Nat.pow_le_pow_right (by decide) (by omega))
  have h5 : x.2.natAbs < 2 ^ (n + 1) := Nat.lt_of_lt_of_le h1.2 (Nat.pow_le_pow_right (by decide) (by omega))
  exact ⟨cmul hy.n h5 (by decide) (by omega) (by omega), cmul h4 hy.d (by omega) (by decide) (by omega)⟩
theorem r_nin2 {a b o : Nat} {y : Str} {s : Fr} {k : PD → Prop} (h : o = a ∨ o = b) (hk : k (.bool false)) : ¬ (HT.sIx [PyData.str y, .int (a : Int), .int (b : Int), frD s].length 0 (some 1) = 0 ∧ HT.sIx [PyData.str y, .int (a : Int), .int (b : Int), frD s].length [PyData.str y, .int (a : Int), .int (b : Int), frD s].length (some 3) = [PyData.str y, .int (a : Int), .int (b : Int), frD s].length) ∧ wIn true (natD o) (.tuple (cutD [PyData.str y, .int (a : Int), .int (b : Int), frD s] (some 1) (some 3))) k := by
  refine ⟨fun h => (by cases h.1), ?_⟩
  show flatD _ = true ∧ [natD a, natD b].all flatD = true ∧ k (.bool (!(([a, b].map fun a : Nat => (a : Int)).map PyData.int).any fun y => eqD y (natD o)))
  refine ⟨rfl, rfl, ?_⟩
  have e := inD_ints (o : Int) ([a, b].map fun a : Nat => (a : Int))
  unfold inD at e
  rw [e, decide_eq_true (by rcases h with h | h <;> simp [h])]
  exact hk
theorem kept11 : Kept (1, 1) 1000000000000000000000000000000 := ⟨by decide, by decide, by decide, by decide⟩
theorem len__law_road_right (ds : List PD) (k : PD → Prop) (h : w__law_road_right ds k) : ds.length = 6 := by obtain ⟨_, _, _, _, _, _, _, _, _, rfl, _⟩ := h; rfl
local macro_rules | `(tactic| walk_at "ck1") => `(tactic| first
  | (with_reducible refine r_seq ?_) | (with_reducible refine r_next ?_) | (with_reducible refine r_ret ?_) | (with_reducible refine r_set ?_) | (with_reducible refine r_ifs ?_) | (with_reducible refine r_drop ?_)
  | (with_reducible refine r_B ?_) | (with_reducible refine r_boolK ?_) | (with_reducible refine r_op ?_) | (with_reducible refine r_c ?_)
  | (with_reducible refine r_call ?_) | (with_reducible refine r_cons ?_) | (with_reducible refine r_nil ?_) | (with_reducible refine r_intK ?_)
  | ((with_reducible refine' r_var ?e ?_); (case e => exact rfl))
  | ((with_reducible refine' r_ixT ?e ?_); (case e => exact rfl))
  | ((with_reducible refine' r_loT ?e ?_); (case e => exact rfl))
  | ((with_reducible refine' r_ixK ?e ?_); (case e => exact rfl))
  | (with_reducible refine r_eqI ?_) | (with_reducible refine r_neI ?_) | (with_reducible refine r_int2 ?_) | (with_reducible refine r_eqS ?_) | (with_reducible refine r_addI ?_)
  | (with_reducible refine r_and ?_) | (with_reducible refine r_or ?_) | (with_reducible refine r_not ?_) | (with_reducible refine r_andV ?_) | (with_reducible refine r_orV ?_) | (with_reducible refine r_notV ?_) | (with_reducible refine r_ife ?_)
  | (with_reducible refine r_tup ?_) | (with_reducible refine r_lst ?_) | (with_reducible refine r_len1 ?_) | (with_reducible refine r_len2 ?_) | (with_reducible refine r_len0 ?_) | (with_reducible refine r_len3 ?_) | (with_reducible refine r_len4 ?_)
  | (with_reducible refine br_T ?_) | (with_reducible refine br_F ?_)
  | (with_reducible refine r_is ?_) | (with_reducible refine r_is1 ?_) | (with_reducible refine r_is2 ?_) | (with_reducible refine r_is3 ?_) | (with_reducible refine r_is4 ?_) | (with_reducible refine r_is5 ?_) | (with_reducible refine r_is6 ?_) | (with_reducible refine r_is7 ?_)
  | (with_reducible refine r_un ?_) | (with_reducible refine r_neg ?_) | (with_reducible refine r_chain ?_) | (with_reducible refine r_lenT ?_) | (with_reducible refine r_lenL ?_)
  | (with_reducible refine r_lstK ?_) | (with_reducible refine r_tupK ?_) | (with_reducible refine r_strK ?_) | (with_reducible refine r_pairK ?_)
  | ((with_reducible refine' r_ixL ?e ?_); (case e => exact rfl)) | ((with_reducible refine' r_loL ?e ?_); (case e => exact rfl))
  | ((with_reducible refine' r_ixO ?e ?_); (case e => exact rfl)) | ((with_reducible refine' r_loO ?e ?_); (case e => exact rfl))
  | ((with_reducible refine' r_ixD ?e ?_); (case e => exact rfl)) | ((with_reducible refine' r_loD ?e ?_); (case e => exact rfl))
  | ((with_reducible refine' r_varo ?e ?_); (case e => exact rfl))
  | ((with_reducible refine' r_wixT ?e ?_); (case e => exact rfl)) | ((with_reducible refine' r_wixL ?e ?_); (case e => exact rfl))
  | (with_reducible refine r_intI ?_) | (with_reducible refine r_intB ?_) | (with_reducible refine r_abs ?_) | (with_reducible refine r_max2 ?_) | (with_reducible refine r_min2 ?_) | (with_reducible refine r_gcd ?_) | (with_reducible refine r_tuple ?_) | (with_reducible refine r_listL ?_) | (with_reducible refine r_listT ?_)
  | (with_reducible refine r_isN ?_) | (with_reducible refine r_notN ?_) | (with_reducible refine r_neS ?_) | (with_reducible refine r_neB ?_) | (with_reducible refine r_eqB ?_)
  | (with_reducible refine r_for ?_) | (with_reducible refine r_itL ?_) | (with_reducible refine r_itT ?_) | (with_reducible refine r_enL ?_) | (with_reducible refine r_zip ?_) | (with_reducible refine r_rng1 ?_) | (with_reducible refine r_rng2 ?_) | (with_reducible refine r_sgn ?_)
  | (with_reducible refine r_slF ?_) | (with_reducible refine r_slT ?_) | (with_reducible refine r_gN ?_) | (with_reducible refine r_gP ?_) | (with_reducible refine r_yes ?_)
  | (with_reducible refine r_lcv ?_) | (with_reducible refine r_lc ?_) | (with_reducible refine r_setO ?_) | (with_reducible refine r_setD ?_) | (with_reducible refine r_retO ?_) | (with_reducible refine r_retC ?_) | (with_reducible refine r_par ?_) | (with_reducible refine r_olst ?_) | (with_reducible refine r_olist ?_) | (with_reducible refine r_wlistOL ?_) | (with_reducible refine r_wlistOT ?_) | (with_reducible refine r_ocall ?_)
  | (with_reducible refine r_ltS ?_) | (with_reducible refine r_putD ?_) | (with_reducible refine r_app ?_) | (with_reducible refine r_setI ?_) | (with_reducible refine r_cK ?_) | (with_reducible refine r_sortS ?_) | (with_reducible refine r_sortI ?_) | (with_reducible refine r_sortSet ?_) | (with_reducible refine r_index ?_) | (with_reducible refine r_join ?_) | (with_reducible refine r_getC ?_)
  | ((with_reducible refine' r_dicT ?e ?_); (case e => exact rfl)) | ((with_reducible refine' r_dkT ?e ?_); (case e => exact rfl)) | ((with_reducible refine' r_dkTD ?e ?_); (case e => exact rfl)) | ((with_reducible refine' r_get2 ?e ?_); (case e => exact rfl)) | ((with_reducible refine' r_getD ?e ?_); (case e => exact rfl))
  | ((with_reducible refine' r_dic ?e ?_); (case e => exact rfl)) | ((with_reducible refine' r_dkO ?e ?_); (case e => exact rfl)) | ((with_reducible refine' r_dkD ?e ?_); (case e => exact rfl)) | ((with_reducible refine' r_datK ?e ?_); (case e => exact rfl)) | (with_reducible refine r_keyS ?_) | (with_reducible refine r_keyI ?_)
  | ((with_reducible refine' r_ixnE ?e ?_); (case e => exact rfl)) | (with_reducible refine r_while ?_) | (with_reducible refine r_neFr1 ?_) | (with_reducible refine r_neInts ?_) | (with_reducible refine r_eqInil ?_) | (with_reducible refine r_inI ?_) | (with_reducible refine r_ninI ?_) | (with_reducible refine r_inN ?_)
  | (with_reducible refine r_enT ?_) | (with_reducible refine r_par00 ?_) | (with_reducible refine r_all ?_) | (with_reducible refine r_any ?_) | (with_reducible refine r_lenS ?_)
  | (with_reducible refine r_len5 ?_) | (with_reducible refine r_len6 ?_) | (with_reducible refine r_len7 ?_) | (with_reducible refine r_len8 ?_))
local macro_rules | `(tactic| walk_at "ckb") => `(tactic| first
  | (with_reducible refine br_nT ?_) | (with_reducible refine br_nF ?_)
  | (with_reducible refine br_dt (by first | omega | assumption | (with_unfolding_all rfl) | (simp only [List.length_cons, List.length_nil]; omega) | decide +kernel) ?_) | (with_reducible refine br_df (by first | omega | assumption | (with_unfolding_all rfl) | (simp only [List.length_cons, List.length_nil]; omega) | decide +kernel) ?_)
  | (with_reducible refine br_nt (by first | omega | assumption | (with_unfolding_all rfl) | (simp only [List.length_cons, List.length_nil]; omega) | decide +kernel) ?_) | (with_reducible refine br_nf (by first | omega | assumption | (with_unfolding_all rfl) | (simp only [List.length_cons, List.length_nil]; omega) | decide +kernel) ?_)
  | (with_reducible refine And.intro (by omega) ?_))
local macro_rules | `(tactic| walk_at "ck") => `(tactic| repeat (first
  | (with_reducible refine r_seq ?_)
  | (with_reducible refine r_next ?_)
  | (with_reducible refine r_ret ?_)
  | (with_reducible refine r_set ?_)
  | (with_reducible refine r_ifs ?_)
  | (with_reducible refine r_B ?_)
  | (with_reducible refine r_boolK ?_)
  | (with_reducible refine r_op ?_)
  | (with_reducible refine r_c ?_)
  | (with_reducible refine r_call ?_)
  | (with_reducible refine r_cons ?_)
  | (with_reducible refine r_nil ?_)
  | (with_reducible refine r_intK ?_)
  | ((with_reducible refine' r_var ?e ?_); (case e => exact rfl))
  | ((with_reducible refine' r_ixT ?e ?_); (case e => exact rfl))
  | ((with_reducible refine' r_loT ?e ?_); (case e => exact rfl))
  | ((with_reducible refine' r_ixK ?e ?_); (case e => exact rfl))
  | (with_reducible refine r_eqI ?_)
  | (with_reducible refine r_neI ?_)
  | (with_reducible refine r_int2 ?_)
  | (with_reducible refine r_addI ?_)
  | (with_reducible refine r_and ?_)
  | (with_reducible refine r_or ?_)
  | (with_reducible refine r_not ?_)
  | (with_reducible refine r_andV ?_)
  | (with_reducible refine r_ife ?_)
  | (with_reducible refine r_tup ?_)
  | (with_reducible refine r_lst ?_)
  | (with_reducible refine r_len2 ?_)
  | (with_reducible refine r_len0 ?_)
  | (with_reducible refine br_T ?_)
  | (with_reducible refine br_F ?_)
  | (with_reducible refine r_is ?_)
  | (with_reducible refine r_is1 ?_)
  | (with_reducible refine r_is6 ?_)
  | (with_reducible refine r_un ?_)
  | (with_reducible refine r_neg ?_)
  | (with_reducible refine r_lstK ?_)
  | (with_reducible refine r_tupK ?_)
  | ((with_reducible refine' r_ixL ?e ?_); (case e => exact rfl))
  | ((with_reducible refine' r_loL ?e ?_); (case e => exact rfl))
  | ((with_reducible refine' r_wixT ?e ?_); (case e => exact rfl))
  | (with_reducible refine r_max2 ?_)
  | (with_reducible refine r_for ?_)
  | (with_reducible refine r_itL ?_)
  | (with_reducible refine r_rng2 ?_)
  | (with_reducible refine r_slT ?_)
  | (with_reducible refine r_gN ?_)
  | (with_reducible refine r_yes ?_)
  | (with_reducible refine r_lcv ?_)
  | (with_reducible refine r_sortSet ?_)
  | (with_reducible refine r_neInts ?_)
  | (with_reducible refine r_eqInil ?_)
  | (with_reducible refine r_inI ?_)
  | (with_reducible refine br_nT ?_)
  | (with_reducible refine br_dt (by first | omega | assumption | (with_unfolding_all rfl) | (simp only [List.length_cons, List.length_nil]; omega) | decide +kernel) ?_)
  | (with_reducible refine br_df (by first | omega | assumption | (with_unfolding_all rfl) | (simp only [List.length_cons, List.length_nil]; omega) | decide +kernel) ?_)
  | (with_reducible refine br_nf (by first | omega | assumption | (with_unfolding_all rfl) | (simp only [List.length_cons, List.length_nil]; omega) | decide +kernel) ?_)
  | (with_reducible refine And.intro (by omega) ?_)))
section
variable {P : Program} {w : World} {K : PySem.W.Frag} {mg : Str → Option Value} {base : Heap}
def N__law_road_right : List Str := ["_law_states", "_law_deeds", "_law_lot", "_law_kind_here", "_law_index", "_law_value", "_law_part", "_law_start", "_law_cask", "_law_left", "_law_at", "_law_found", "_law_share_here"]
theorem sc__law_road_right : FnScope N__law_road_right ["_law_states", "_law_deeds", "_law_lot", "_law_kind_here", "_law_index", "_law_value"] (defScope (top 84)) := ⟨rfl, rfl, rfl, by decide +kernel, rfl, by decide +kernel, by decide +kernel⟩
theorem ok__law_road_right (T : Txt K mg) (c__law_amount_of : Cal P w K mg base 1 "_law_amount_of" (spF w__law_amount_of) []) (c__law_kept : Cal P w K mg base 1 "_law_kept" (spF w__law_kept) []) : Cal P w K mg base 2 "_law_road_right" (spF w__law_road_right) [] := by
  obtain ⟨f, fd, F, hm⟩ := T.fn 65 rfl
  refine mk_F F hm sc__law_road_right (fun _ _ _ _ _ _ us hl => match us, hl with | [_, _, _, _, _, _], _ => rfl) len__law_road_right fun cdv A outer s H E hr => ?_
  have nd : N__law_road_right.Nodup := sc__law_road_right.nd
  refine ⟨_, (b_cons (t_if (q_pw (q_or (q_not (q_val (p_is (T := "list") T.isinstance_ T.list_ (pv_ 5) (by decide +kernel)))) (q_or (q_eq hr (pv_ 5) (p_lst a_nil)) (q_or1 (q_not (q_val (p_all rfl T.all_ (a_cons (p_lc rfl nd (i_list (pv_ 5)) (blkOk_by (N := N__law_road_right) (sc := defScope (top 84)) (own := [("_law_part", 6)]) (by decide +kernel)) rfl (fun _ _ _ _ _ => (v_name 6 nd)) (fun _ _ _ _ _ => ts_nil) (fun _ _ _ _ _ => (p_is (T := "int") T.isinstance_ T.int_ (pv_ 6) (by decide +kernel)))) a_nil)))))))) (b_one (t_ret p_bl)) b_nil)
  (b_cons (t_if (q_pw (q_or (q_ne hr (p_ixn 5 (p_neg p_int)) (pv_ 4)) (q_or1 (q_ne hr (pv_ 5) (p_sortedSet hr T.sorted_ T.set_ (pv_ 5)))))) (b_one (t_ret p_bl)) b_nil)
  (b_cons (t_set 7 nd (p_max2 rfl T.max_ (a_cons (p_add (pv_ 2) p_int) (a_cons p_int a_nil))))
  (b_cons (t_set 8 nd (p_ife (q_ge (pv_ 2) p_int) (p_ix (p_ixn 1 (pv_ 2)) p_int) (p_sub (p_neg p_int) (pv_ 2))))
  (b_cons (t_set 9 nd (p_ife (q_ge (pv_ 2) p_int) (p_ix (p_ix (p_ix (p_ixn 1 (pv_ 2)) p_int) p_int) p_int) (p_ix (p_ix (p_ix (p_ixn 0 p_int) (pv_ 8)) p_int) p_int)))
  (b_cons (t_for PassesOwn.never rfl (i_rng2 T.range_ (pv_ 7) (p_add (pv_ 4) p_int)) (v_name 10 nd)
  (b_cons (t_set 11 nd (p_c c__law_amount_of hr (by decide) (a_cons (p_ix (p_ixn 0 (pv_ 10)) (pv_ 8)) (a_cons (pv_ 3) a_nil))))
  (b_cons (t_if (q_pw (q_or (q_le (p_ixn 11 p_int) p_int) (q_or1 (q_lt (p_mul (p_ixn 11 p_int) (p_ixn 9 p_int)) (p_mul (p_ixn 9 p_int) (p_ixn 11 p_int)))))) (b_one (t_ret p_bl)) b_nil)
  (b_cons (t_set 12 nd (p_tup (a_cons p_int (a_cons p_int a_nil))))
  (b_cons (t_if (q_pw (q_and (q_in (pv_ 10) (pv_ 5)) (q_and1 (q_lt (pv_ 10) (pv_ 4))))) (b_cons (t_if (q_pw (q_or (q_nin (p_ix (p_ixn 1 (pv_ 10)) p_int) (p_tup (a_cons p_str (a_cons p_str a_nil)))) (q_or1 (q_nin (pv_ 8) (p_slT (p_ixn 1 (pv_ 10))))))) (b_one (t_ret p_bl)) b_nil)
  (b_cons (t_set 12 nd (p_c c__law_kept hr (by decide) (a_cons (p_ixn 1 (pv_ 10)) (a_cons (pv_ 8) (a_cons p_bl a_nil)))))
  (b_cons (t_if (q_pw (q_and (q_eq hr (p_ix (p_ixn 1 (pv_ 10)) p_int) p_str) (q_and1 (q_ne hr (p_ix (p_ixn 1 (pv_ 10)) p_int) (pv_ 8))))) (b_one (t_ret p_bl)) b_nil)
  (b_one (t_set 8 nd (p_ife (q_eq hr (p_ix (p_ixn 1 (pv_ 10)) p_int) (pv_ 8)) (p_ix (p_ixn 1 (pv_ 10)) p_int) (p_ix (p_ixn 1 (pv_ 10)) p_int))))))) (b_one (t_if (q_lt (pv_ 10) (pv_ 4)) (b_one (t_set 12 nd (p_c c__law_kept hr (by decide) (a_cons (p_ixn 1 (pv_ 10)) (a_cons (pv_ 8) (a_cons p_bl a_nil)))))) b_nil)))
  (b_one (t_set 9 nd (p_tup (a_cons (p_mul (p_ixn 9 p_int) (p_ixn 12 p_int)) (a_cons (p_mul (p_ixn 9 p_int) (p_ixn 12 p_int)) a_nil))))))))))
  (b_one (t_ret (p_and (p_eq hr (pv_ 8) (p_ix (p_ixn 1 (pv_ 4)) p_int)) (p_one (p_ge (p_ixn 5 p_int) (pv_ 7)))))))))))), ?_⟩
  intro ds k hw
  obtain ⟨c, l, L, st, z, i, a, s, p, rfl, mk, hz, hi, hp, hk⟩ := hw
  obtain ⟨Ks, N, M, run⟩ := mk.run
  have hlt := (List.getElem?_eq_some_iff.mp hi).1
  have hl := mk.len
  have hpl := hp.len
  have hst := hp.st
  have hasc : (p ++ [(i : Int)]).Pairwise (· < ·) := List.pairwise_append.mpr ⟨hp.asc, List.pairwise_singleton _ _, fun x hx y hy => by rw [List.mem_singleton.mp hy]; exact (hp.rng x hx).2⟩
  obtain ⟨pos, p1, p2, p3, p4⟩ := hp.reachAt
  have estart : (if (0 : Int) > z + 1 then (0 : Int) else z + 1) = (startOf z : Int) := by
    unfold startOf
    split <;> omega
  obtain ⟨x0, hx0, hx1⟩ : ∃ x0, (p ++ [(i : Int)])[0]? = some x0 ∧ (startOf z : Int) ≤ x0 := by
    cases p with
    | nil => exact ⟨_, rfl, by omega⟩
    | cons y ys => exact ⟨y, rfl, (hp.rng y List.mem_cons_self).1⟩
  refine rho_of [.dat (.list (st.map cellD)), .dat (storyL (mkL l L)), .dat (.int z), .dat (.str (kd L z)), .dat (natD i), .dat (.list ((p ++ [(i : Int)]).map .int)), .unk, .unk, .unk, .unk, .unk, .unk, .unk] rfl ?_
  walk_at "ck"
  refine br_df (by simp) ?_
  walk_at "ck"
  refine lc_map PyData.int (fun _ => .bool true) (p ++ [(i : Int)]) [] (by rw [List.length_append]; show _ + 1 + 0 ≤ _; omega) (fun x hx k k0 hb => ?_) ?_
  · walk_at "ck"
    exact hb
  walk_at "ck"
  refine wAll_map (fun _ _ => rfl) ?_
  walk_at "ck"
  refine ⟨.int (i : Int), atI_last (n := p.length) (by rw [List.getElem?_map, List.getElem?_append_right (Nat.le_refl _), Nat.sub_self]; rfl) (by rw [List.length_map, List.length_append]; rfl), ?_⟩
  walk_at "ck"
  refine ⟨p ++ [(i : Int)], rfl, by rw [List.length_append, List.length_singleton]; omega, fun ys h1 h2 => ?_⟩
  obtain rfl := asc_unique h1 hasc h2
  walk_at "ck"
  rw [estart]
  refine br_val (fun d => d = natD (pos (startOf z))) (fun q Q' hQ => ?_) (fun q Q' hQ => ?_) (fun d hd => ?_)
  · have q := of_decide_eq_true q
    rcases p1 with ⟨q1, q2, q3⟩ | ⟨n, f, q1, q2, q3⟩
    · omega
    · have hza : atI ((mkL l L).map deedD) z = some (deedD (.add (pos (startOf z)) (mkF L (n : Int) f))) := (congrArg (atI _) q1).trans (atI_m q2)
      walk_at "ck"
      refine ⟨_, hza, ?_⟩
      walk_at "ck"
      exact hQ _ rfl
  · have q := of_decide_eq_false q
    rcases p1 with ⟨q1, q2, q3⟩ | ⟨n, f, q1, q2, q3⟩
    · walk_at "ck"
      exact hQ _ (by rw [show -1 - z = (pos (startOf z) : Int) by omega])
    · omega
  subst hd
  walk_at "ck"
  refine br_val (fun d => ∃ x, d = frD x ∧ Lft x 100 ∧ ∃ c1, st[startOf z]? = some c1 ∧ qv x ≤ valC c1 (pos (startOf z)) (kd L z)) (fun q Q' hQ => ?_) (fun q Q' hQ => ?_) (fun d hd => ?_)
  · have q := of_decide_eq_true q
    rcases p1 with ⟨q1, q2, q3⟩ | ⟨n, f, q1, q2, q3⟩
    · omega
    · cases f with
      | nil => exact absurd rfl q3
      | cons e es =>
        have hza : atI ((mkL l L).map deedD) z = some (deedD (.add (pos (startOf z)) [(kd L (n : Int), e.2)])) := (congrArg (atI _) q1).trans (atI_m q2)
        have hn := (List.getElem?_eq_some_iff.mp q2).1
        have ab := (mk.amA _ _ (List.mem_of_getElem? q2) e List.mem_cons_self).lft
        have es2 : startOf z = n + 1 := by unfold startOf; omega
        obtain ⟨c2, h2, _⟩ := run_at run (u := n + 1) (by omega)
        have hv := left_pos run q2 h2
        rw [← q1] at hv
        walk_at "ck"
        refine ⟨_, hza, ?_⟩
        walk_at "ck"
        exact hQ _ ⟨e.2, rfl, ab, c2, by rw [es2]; exact h2, hv⟩
  · have q := of_decide_eq_false q
    rcases p1 with ⟨q1, q2, q3⟩ | ⟨n, f, q1, q2, q3⟩
    · have es2 : startOf z = 0 := by unfold startOf; omega
      cases hf : c.getD (pos (startOf z)) [] with
      | nil => exact absurd hf q3
      | cons e es =>
        have ab := (mk.am _ (getD_mem q2) e (by rw [hf]; exact List.mem_cons_self)).lft
        have hv := left_neg run q1 hf run.head
        have hcell : fillD ((mkC c L).getD (pos (startOf z)) []) = .tuple [entD (kd L z, e.2)] := by
          rw [mkC_get, hf, ← q1]
          rfl
        walk_at "ck"
        refine ⟨_, atI_st (u := 0) run.head, ?_⟩
        walk_at "ck"
        refine ⟨_, atI_c (by rw [mkC_len]; exact q2), ?_⟩
        rw [hcell]
        walk_at "ck"
        exact hQ _ ⟨e.2, rfl, ab, _, by rw [es2]; exact run.head, hv⟩
    · omega
  obtain ⟨x, rfl, hx, hc1⟩ := hd
  walk_at "ck"
  rw [show ((i : Int) + 1 - (startOf z : Int)).toNat = i + 1 - startOf z by omega]
  unfold rngD
  refine for_map (fun j : Nat => PyData.int ((startOf z : Int) + (j : Int))) (fun j ρ => ∃ x x10 x11 x12, ρ = [.dat (.list (st.map cellD)), .dat (storyL (mkL l L)), .dat (.int z), .dat (.str (kd L z)), .dat (natD i), .dat (.list ((p ++ [(i : Int)]).map .int)), .unk, .dat (.int (startOf z : Int)), .dat (natD (pos (min (startOf z + j) i))), .dat (frD x), x10, x11, x12] ∧ Lft x (100 * (j + 1)) ∧ (startOf z + j ≤ i → ∃ c1, st[startOf z + j]? = some c1 ∧ qv x ≤ valC c1 (pos (startOf z + j)) (kd L z))) (List.range (i + 1 - startOf z)) ⟨x, _, _, _, by rw [show min (startOf z + 0) i = startOf z by omega]; rfl, hx, fun _ => hc1⟩ (fun j y ρ nx' hj hI hn => ?_) (fun ρ hI => ?_)
  · obtain ⟨x, x10, x11, x12, rfl, hx, hc1⟩ := hI
    obtain ⟨hj1, hj2⟩ := List.getElem?_eq_some_iff.mp hj
    rw [List.getElem_range] at hj2
    subst hj2
    rw [List.length_range] at hj1
    obtain ⟨c1, e1, h1⟩ := hc1 (by omega)
    have eu : (startOf z : Int) + (j : Int) = ((startOf z + j : Nat) : Int) := by omega
    have em : min (startOf z + j) i = startOf z + j := by omega
    rw [eu, em]
    have hn' : ∀ (b : Nat) (x' : Fr) (x11 x12 : En), b = pos (min (startOf z + j + 1) i) → Lft x' (100 * (j + 1) + 100) → (startOf z + j < i → ∃ c1, st[startOf z + j + 1]? = some c1 ∧ qv x' ≤ valC c1 (pos (startOf z + j + 1)) (kd L z)) → nx' [.dat (.list (st.map cellD)), .dat (storyL (mkL l L)), .dat (.int z), .dat (.str (kd L z)), .dat (natD i), .dat (.list ((p ++ [(i : Int)]).map .int)), .unk, .dat (.int (startOf z : Int)), .dat (natD b), .dat (frD x'), .dat (natD (startOf z + j)), x11, x12] := fun b x' x11 x12 e1 e2 e3 => by
      subst e1
      exact hn _ ⟨x', _, _, _, rfl, e2, fun h => e3 (by omega)⟩
    clear hn
    have hu : startOf z + j ≤ i := by omega
    have hj24 : 100 * (j + 1) + 100 ≤ 10000 := by omega
    have p3 := p3 (startOf z + j) (by omega)
    have hm1 : startOf z + j < i → min (startOf z + j + 1) i = startOf z + j + 1 := by omega
    have hm2 : ¬ startOf z + j < i → min (startOf z + j + 1) i = startOf z + j := by omega
    generalize startOf z + j = u at *
    generalize 100 * (j + 1) = nn at *
    obtain ⟨f1, f2, f3, f4⟩ := found_ok (run.ok u c1 e1).1 hx h1
    walk_at "ck"
    refine ⟨_, atI_st e1, ?_⟩
    walk_at "ck"
    refine ⟨_, atI_c f1, ?_⟩
    walk_at "ck"
    refine ⟨c1.getD (pos u) [], kd L z, rfl, ?_⟩
    generalize amt (c1.getD (pos u) []) (kd L z) = y at *
    walk_at "ck"
    refine r_int2C (lft_f hx (by omega) f2).1 ?_
    walk_at "ck"
    refine r_int2C (lft_f hx (by omega) f2).2 ?_
    walk_at "ck"
    have hmem : u < i → (((u : Nat) : Int) ∈ p ++ [(i : Int)] ↔ ((u : Nat) : Int) ∈ p) := fun h => by
      rw [List.mem_append, List.mem_singleton]
      exact ⟨fun z => z.elim id fun z => absurd z (by omega), .inl⟩
    by_cases hui : u < i
    · obtain ⟨d, hd, hstep⟩ := p3 hui
      have okd := mk.pre.st.ok _ (List.mem_of_getElem? hd)
      have hden := mk.den _ (List.mem_of_getElem? hd)
      by_cases hin : ((u : Nat) : Int) ∈ p
      · rw [if_pos hin] at hstep
        obtain ⟨g1, g2, c2, g3, g4⟩ := road_over run e1 hd okd hden hstep hx h1
        obtain ⟨hne, hcase⟩ := ways_cases okd hstep
        have hat := atI_m (L := L) hd
        refine br_dt ((hmem hui).mpr hin) ?_
        obtain ⟨k1, k2⟩ := lft_c hx hj24 g2
        have fin := hn' (pos (u + 1)) (x.1 * (keptM d (pos u) true).1, x.2 * (keptM d (pos u) true).2) (.dat (frD y)) (.dat (frD (keptM d (pos u) true))) (by rw [hm1 hui]) g1 fun _ => ⟨c2, g3, g4⟩
        generalize hy : keptM d (pos u) true = y2 at *
        generalize pos (u + 1) = o2 at *
        generalize pos u = o1 at *
        rcases hcase with ⟨s2, rfl⟩ | ⟨s2, rfl⟩ | ⟨s2, rfl⟩
        · replace hat : atI ((mkL l L).map deedD) (u : Int) = some (deedD (.move o1 o2 s2)) := hat
          walk_at "ck"
          refine ⟨_, hat, ?_⟩
          walk_at "ck"
          refine ⟨rfl, rfl, ?_⟩
          walk_at "ck"
          refine br_f (by decide +kernel) ?_
          walk_at "ck"
          refine ⟨_, hat, ?_⟩
          walk_at "ck"
          refine r_nin2 (by simp) ?_
          walk_at "ck"
          refine ⟨_, hat, ?_⟩
          walk_at "ck"
          refine ⟨_, o1, true, rfl, ?_⟩
          rw [hy]
          repeat (first | walk_at "ck1" | walk_at "ckb" | refine ⟨_, hat, ?_⟩)
          refine r_int2C k1 ?_
          walk_at "ck"
          refine r_int2C k2 ?_
          walk_at "ck"
          exact fin
        · replace hat : atI ((mkL l L).map deedD) (u : Int) = some (deedD (.swap o1 o2 s2)) := hat
          walk_at "ck"
          refine ⟨_, hat, ?_⟩
          walk_at "ck"
          refine ⟨rfl, rfl, ?_⟩
          walk_at "ck"
          refine br_f (by decide +kernel) ?_
          walk_at "ck"
          refine ⟨_, hat, ?_⟩
          walk_at "ck"
          refine r_nin2 (by simp) ?_
          walk_at "ck"
          refine ⟨_, hat, ?_⟩
          walk_at "ck"
          refine ⟨_, o1, true, rfl, ?_⟩
          rw [hy]
          repeat (first | walk_at "ck1" | walk_at "ckb" | refine ⟨_, hat, ?_⟩)
          refine r_int2C k1 ?_
          walk_at "ck"
          refine r_int2C k2 ?_
          walk_at "ck"
          exact fin
        · replace hat : atI ((mkL l L).map deedD) (u : Int) = some (deedD (.swap o2 o1 s2)) := hat
          walk_at "ck"
          refine ⟨_, hat, ?_⟩
          walk_at "ck"
          refine ⟨rfl, rfl, ?_⟩
          walk_at "ck"
          refine br_f (by decide +kernel) ?_
          walk_at "ck"
          refine ⟨_, hat, ?_⟩
          walk_at "ck"
          refine r_nin2 (by simp) ?_
          walk_at "ck"
          refine ⟨_, hat, ?_⟩
          walk_at "ck"
          refine ⟨_, o1, true, rfl, ?_⟩
          rw [hy]
          repeat (first | walk_at "ck1" | walk_at "ckb" | refine ⟨_, hat, ?_⟩)
          refine r_int2C k1 ?_
          walk_at "ck"
          refine r_int2C k2 ?_
          walk_at "ck"
          exact fin
      · rw [if_neg hin] at hstep
        obtain ⟨g1, g2, c2, g3, g4⟩ := road_stay run e1 hd okd hden hstep.2 hx h1
        have hat := atI_m (L := L) hd
        refine br_df (fun z => hin ((hmem hui).mp z)) ?_
        walk_at "ck"
        refine ⟨_, hat, ?_⟩
        walk_at "ck"
        refine ⟨mkD L u d, pos u, false, rfl, ?_⟩
        rw [keptM_mk]
        obtain ⟨k1, k2⟩ := lft_c hx hj24 g2
        walk_at "ck"
        refine r_int2C k1 ?_
        walk_at "ck"
        refine r_int2C k2 ?_
        walk_at "ck"
        refine hn' (pos u) (x.1 * (keptM d (pos u) false).1, x.2 * (keptM d (pos u) false).2) _ _ ?_ g1 fun _ => ⟨c2, g3, ?_⟩
        · rw [hm1 hui]
          exact hstep.1.symm
        · rw [hstep.1]
          exact g4
    · have hue : u = i := by omega
      obtain ⟨k1, k2⟩ := lft_c hx hj24 kept11
      have fin : nx' [.dat (.list (st.map cellD)), .dat (storyL (mkL l L)), .dat (.int z), .dat (.str (kd L z)), .dat (natD i), .dat (.list ((p ++ [(i : Int)]).map .int)), .unk, .dat (.int (startOf z : Int)), .dat (natD (pos u)), .dat (frD (x.1 * 1, x.2 * 1)), .dat (natD u), .dat (frD y), .dat (frD (1, 1))] := hn' (pos u) (x.1 * 1, x.2 * 1) _ _ (by rw [hm2 hui]) (hx.mul kept11) fun h => absurd h hui
      refine br_2 (fun _ => ?_) (fun _ => ?_)
      · walk_at "ck"
        refine r_int2C k1 ?_
        walk_at "ck"
        refine r_int2C k2 ?_
        walk_at "ck"
        exact fin
      · walk_at "ck"
        refine r_int2C k1 ?_
        walk_at "ck"
        refine r_int2C k2 ?_
        walk_at "ck"
        exact fin
  · obtain ⟨x, x10, x11, x12, rfl, hx, _⟩ := hI
    have hat : atI ((mkL l L).map deedD) (i : Int) = some (deedD (.draw a s)) := atI_m hi
    rw [List.length_range, show min (startOf z + (i + 1 - startOf z)) i = i by omega, p2]
    walk_at "ck"
    refine ⟨_, hat, ?_⟩
    walk_at "ck"
    refine ⟨.int x0, atI_nat (j := 0) (by rw [List.getElem?_map, hx0]; rfl), ?_⟩
    walk_at "ck"
    refine ⟨_, rfl, ?_⟩
    rw [decide_eq_true hx1]
    exact hk
end
end CK
set_option Elab.async false
set_option linter.all false
set_option maxRecDepth 100000
set_option maxHeartbeats 4000000
namespace CK
open PySem PySem.Spec PyProof.Rows L2
open Evl (Ex ex_l ex_t fresh_back)
open C8 (Cal pe_c)
def w__law_draw_right : WDA := fun ds k => ∃ (c : Cell) (l : List Deed) (L : List Int) (st : List Cell) (i a : Nat) (s : Fr), ds = [cellD c, storyT l, .list (L.map .int), .list (st.map cellD), storyL (mkL l L), natD i] ∧ Mark c l L st ∧ l[i]? = some (.draw a s) ∧ ∀ ns, CarrOk c l i ns → k (.list (ns.map .int))
def lotF : PD → PD
  | .str z => .str ("lot" ++ z)
  | _ => .none
theorem kinds_list2 : (([] : List PD) ++ ((signsD "abcdefghij").filter fun _ => true).map lotF) = kinds10.map PyData.str := by
  with_unfolding_all rfl
theorem r_reprB {b : Bool} {k : PD → Prop} (h : k (.str (PyData.shown (.bool b)))) : wRepr [.bool b] k := h
theorem lot_small {c : Cell} {l : List Deed} {L : List Int} {st : List Cell} (mk : Mark c l L st) : ∀ z, z ∈ L → z.natAbs < 10 ^ 6 := fun z hz => by
  have h1 := mk.pre.st.cell.hi
  have h2 := mk.len
  rcases (mk.pre.lots.mem z).mp hz with ⟨a, h, h3, _⟩ | ⟨i, a, f, h, h3, _⟩
  · omega
  · have := (List.getElem?_eq_some_iff.mp h3).1
    omega
theorem atI_L {L : List Int} {j : Nat} {z : Int} (h : L[j]? = some z) : atI (L.map PyData.int) (j : Int) = some (.int z) := atI_nat (by rw [List.getElem?_map, h]; rfl)
theorem atI_kd {L : List Int} (ha : L.Pairwise (· < ·)) (hL : L.length ≤ 10) {j : Nat} {z : Int} (h : L[j]? = some z) : atI (kinds10.map PyData.str) (j : Int) = some (.str (kd L z)) := by
  have hj := (List.getElem?_eq_some_iff.mp h).1
  rw [kd_of ha h]
  exact atI_nat (by rw [List.getElem?_map, kdN_at (by omega)]; rfl)
theorem take_filter {L : List Int} {j : Nat} {z : Int} (h : L[j]? = some z) (p : Int → Bool) : (L.take (j + 1)).filter p = (L.take j).filter p ++ if p z = true then [z] else [] := by
  rw [List.take_add_one, h, List.filter_append]
  congr 1
  show ([z].filter p) = _
  rw [List.filter_cons]
  split <;> rfl
theorem len__law_draw_right (ds : List PD) (k : PD → Prop) (h : w__law_draw_right ds k) : ds.length = 6 := by obtain ⟨_, _, _, _, _, _, _, rfl, _⟩ := h; rfl
local macro_rules | `(tactic| walk_at "ck") => `(tactic| repeat (first
  | (with_reducible refine r_seq ?_)
  | (with_reducible refine r_next ?_)
  | (with_reducible refine r_ret ?_)
  | (with_reducible refine r_set ?_)
  | (with_reducible refine r_ifs ?_)
  | (with_reducible refine r_B ?_)
  | (with_reducible refine r_boolK ?_)
  | (with_reducible refine r_op ?_)
  | (with_reducible refine r_c ?_)
  | (with_reducible refine r_call ?_)
  | (with_reducible refine r_cons ?_)
  | (with_reducible refine r_nil ?_)
  | (with_reducible refine r_intK ?_)
  | ((with_reducible refine' r_var ?e ?_); (case e => exact rfl))
  | ((with_reducible refine' r_ixT ?e ?_); (case e => exact rfl))
  | ((with_reducible refine' r_loT ?e ?_); (case e => exact rfl))
  | ((with_reducible refine' r_ixK ?e ?_); (case e => exact rfl))
  | (with_reducible refine r_int2 ?_)
  | (with_reducible refine r_and ?_)
  | (with_reducible refine r_not ?_)
  | (with_reducible refine r_len0 ?_)
  | (with_reducible refine br_T ?_)
  | (with_reducible refine br_F ?_)
  | (with_reducible refine r_lenL ?_)
  | (with_reducible refine r_strK ?_)
  | ((with_reducible refine' r_ixL ?e ?_); (case e => exact rfl))
  | ((with_reducible refine' r_loL ?e ?_); (case e => exact rfl))
  | ((with_reducible refine' r_varo ?e ?_); (case e => exact rfl))
  | ((with_reducible refine' r_wixT ?e ?_); (case e => exact rfl))
  | (with_reducible refine r_isN ?_)
  | (with_reducible refine r_notN ?_)
  | (with_reducible refine r_neS ?_)
  | (with_reducible refine r_neB ?_)
  | (with_reducible refine r_for ?_)
  | (with_reducible refine r_rng1 ?_)
  | (with_reducible refine r_sgn ?_)
  | (with_reducible refine r_gN ?_)
  | (with_reducible refine r_yes ?_)
  | (with_reducible refine r_lcv ?_)
  | (with_reducible refine r_setO ?_)
  | (with_reducible refine r_par ?_)
  | (with_reducible refine r_olst ?_)
  | (with_reducible refine r_app ?_)
  | ((with_reducible refine' r_dkT ?e ?_); (case e => exact rfl))
  | ((with_reducible refine' r_dkO ?e ?_); (case e => exact rfl))
  | (with_reducible refine r_ninI ?_)
  | (with_reducible refine br_nT ?_)
  | (with_reducible refine br_nf (by first | omega | assumption | (with_unfolding_all rfl) | (simp only [List.length_cons, List.length_nil]; omega) | decide +kernel) ?_)
  | (with_reducible refine And.intro (by omega) ?_)))
section
variable {P : Program} {w : World} {K : PySem.W.Frag} {mg : Str → Option Value} {base : Heap}
def N__law_draw_right : List Str := ["_law_cellar_here", "_law_story_here", "_law_known", "_law_states", "_law_deeds", "_law_index", "_law_cask", "_law_share_here", "_law_kinds", "_law_letter", "_law_due", "_law_k", "_law_told"]
theorem sc__law_draw_right : FnScope N__law_draw_right ["_law_cellar_here", "_law_story_here", "_law_known", "_law_states", "_law_deeds", "_law_index"] (defScope (top 85)) := ⟨rfl, rfl, rfl, by decide +kernel, rfl, by decide +kernel, by decide +kernel⟩
theorem ok__law_draw_right (T : Txt K mg) (c__law_amount_of : Cal P w K mg base 1 "_law_amount_of" (spF w__law_amount_of) []) (c__law_road_right : Cal P w K mg base 2 "_law_road_right" (spF w__law_road_right) []) (c_carried : Cal P w K mg base 7 "carried" (spF w_carried) []) (c_road : Cal P w K mg base 8 "road" (spF w_road) []) (c_road_holds : Cal P w K mg base 8 "road_holds" (spF w_road_holds) []) : CalG P w K mg base 9 "_law_draw_right" (spF w__law_draw_right) := by
  obtain ⟨f, fd, F, hm⟩ := T.fn 66 rfl
  refine mk_G F hm sc__law_draw_right (fun _ _ _ _ _ _ us hl => match us, hl with | [_, _, _, _, _, _], _ => rfl) len__law_draw_right fun cdv A outer s H E hgu hr => ?_
  have nd : N__law_draw_right.Nodup := sc__law_draw_right.nd
  refine ⟨_, (b_cons (t_par 6 7 rfl nd (p_ix (p_ixn 1 (pv_ 5)) p_int) (p_ix (p_ixn 1 (pv_ 5)) p_int))
  (b_cons (t_setLc 8 rfl nd (i_str p_str) (blkOk_by (N := N__law_draw_right) (sc := defScope (top 85)) (own := [("_law_letter", 9)]) (by decide +kernel)) rfl (fun _ _ _ _ _ => (v_name 9 nd)) (fun _ _ _ _ _ => ts_nil) (fun _ _ _ _ _ => (p_add p_str (pv_ 9))))
  (b_cons (t_setO 10 nd (o_lst a_nil))
  (b_cons (t_for PassesOwn.never rfl (i_rng1 T.range_ (p_len T.len_ (a_cons (pv_ 2) a_nil))) (v_name 11 nd)
  (b_one (t_if (q_pw (q_and (q_gt (p_ixn 7 p_int) p_int) (q_and1 (q_gt (p_ix (p_c c__law_amount_of hr (by decide) (a_cons (p_ix (p_ixn 3 (pv_ 5)) (pv_ 6)) (a_cons (p_ixn 8 (pv_ 11)) a_nil))) p_int) p_int)))) (b_one (t_app 10 (p_ixn 2 (pv_ 11)))) b_nil)))
  (b_cons (t_if (q_ne hr (p_repr hr hgu T.repr_ (a_cons (p_c c_carried hr (by decide) (a_cons (pv_ 0) (a_cons (pv_ 1) (a_cons (pv_ 5) a_nil)))) a_nil)) (p_repr hr hgu T.repr_ (a_cons (pv_ 10) a_nil))) (b_one (t_ret p_non)) b_nil)
  (b_cons (t_for PassesOwn.never rfl (i_rng1 T.range_ (p_len T.len_ (a_cons (pv_ 2) a_nil))) (v_name 11 nd)
  (b_cons (t_set 12 nd (p_c c_road hr (by decide) (a_cons (pv_ 0) (a_cons (pv_ 1) (a_cons (p_ixn 2 (pv_ 11)) (a_cons (pv_ 5) a_nil))))))
  (b_cons (t_if (q_ne hr (p_isN (pv_ 12) p_non) (p_nin (p_ixn 2 (pv_ 11)) (pv_ 10))) (b_one (t_ret p_non)) b_nil)
  (b_cons (t_if (q_pw (q_and (q_notN (pv_ 12) p_non) (q_and1 (q_not (q_val (p_c c__law_road_right hr (by decide) (a_cons (pv_ 3) (a_cons (pv_ 4) (a_cons (p_ixn 2 (pv_ 11)) (a_cons (p_ixn 8 (pv_ 11)) (a_cons (pv_ 5) (a_cons (pv_ 12) a_nil)))))))))))) (b_one (t_ret p_non)) b_nil)
  (b_one (t_if (q_ne hr (p_repr hr hgu T.repr_ (a_cons (p_c c_road_holds hr (by decide) (a_cons (pv_ 0) (a_cons (pv_ 1) (a_cons (p_ixn 2 (pv_ 11)) (a_cons (pv_ 5) (a_cons (pv_ 12) a_nil)))))) a_nil)) (p_repr hr hgu T.repr_ (a_cons (p_notN (pv_ 12) p_non) a_nil))) (b_one (t_ret p_non)) b_nil))))))
  (b_one (t_ret (pv_ 10))))))))), ?_⟩
  intro ds k hw
  obtain ⟨c, l, L, st, i, a, s, rfl, mk, hi, hk⟩ := hw
  obtain ⟨Ks, N, M, run⟩ := mk.run
  have hlt := (List.getElem?_eq_some_iff.mp hi).1
  have hl := mk.len
  have hL := mk.ten
  obtain ⟨c1, e1, ok1, hl1⟩ := run_at run (u := i) (by omega)
  have ha : a < c1.length := by rw [hl1]; exact (mk.pre.st.ok _ (List.mem_of_getElem? hi)).1
  have hcarr := due_carr mk.pre.st.cell mk.pre.st.ok mk.pre.lots mk.ten run hi e1
  have hat : atI (l.map deedD) (i : Int) = some (deedD (.draw a s)) := atI_nat (by rw [List.getElem?_map, hi]; rfl)
  refine rho_of [.dat (cellD c), .dat (storyT l), .dat (.list (L.map .int)), .dat (.list (st.map cellD)), .dat (storyL (mkL l L)), .dat (natD i), .unk, .unk, .unk, .unk, .unk, .unk, .unk] rfl ?_
  walk_at "ck"
  refine ⟨_, hat, ?_⟩
  walk_at "ck"
  refine ⟨_, hat, ?_⟩
  walk_at "ck"
  refine lcW_fm (fun _ => true) lotF (signsD "abcdefghij") [] (by decide +kernel) (fun x hx k k0 hb => ?_) ?_
  · obtain ⟨ch, hc, rfl⟩ := List.mem_map.mp hx
    walk_at "ck"
    refine r_addS (by show 3 + 1 ≤ 100000; decide) ?_
    walk_at "ck"
    exact hb.t
  rw [kinds_list2]
  walk_at "ck"
  rw [List.length_map]
  refine ⟨by omega, ?_⟩
  rw [show ((L.length : Int)).toNat = L.length from Int.toNat_natCast _, rng0]
  generalize hp : (fun z => decide (0 < s.1) && decide (0 < (amt (c1.getD a []) (kd L z)).1)) = p at hcarr
  refine for_map natD (fun j ρ => ∃ x9 x11, ρ = [.dat (cellD c), .dat (storyT l), .dat (.list (L.map .int)), .dat (.list (st.map cellD)), .dat (storyL (mkL l L)), .dat (natD i), .dat (natD a), .dat (frD s), .dat (.list (kinds10.map .str)), x9, .own (((L.take j).filter p).map .int), x11, .unk]) (List.range L.length) ⟨_, _, by rw [List.take_zero]; rfl⟩ (fun j x ρ nx' hj hI hn => ?_) (fun ρ hI => ?_)
  · obtain ⟨x9, x11, rfl⟩ := hI
    obtain ⟨hj1, hj2⟩ := List.getElem?_eq_some_iff.mp hj
    rw [List.getElem_range] at hj2
    subst hj2
    rw [List.length_range] at hj1
    obtain ⟨z, hz⟩ := get_ex (xs := L) (i := j) hj1
    have htk := take_filter hz p
    have hpz : p z = (decide (0 < s.1) && decide (0 < (amt (c1.getD a []) (kd L z)).1)) := by rw [← hp]
    have hfl : (((L.take j).filter p).map PyData.int).length ≤ 10 := by
      rw [List.length_map]
      refine Nat.le_trans (List.length_filter_le _ _) ?_
      rw [List.length_take]
      omega
    have no : p z = false → nx' [.dat (cellD c), .dat (storyT l), .dat (.list (L.map .int)), .dat (.list (st.map cellD)), .dat (storyL (mkL l L)), .dat (natD i), .dat (natD a), .dat (frD s), .dat (.list (kinds10.map .str)), x9, .own (((L.take j).filter p).map .int), .dat (natD j), .unk] := fun e => by
      exact hn _ ⟨x9, .dat (natD j), by rw [htk, if_neg (by rw [e]; decide), List.append_nil]⟩
    have yes : p z = true → nx' [.dat (cellD c), .dat (storyT l), .dat (.list (L.map .int)), .dat (.list (st.map cellD)), .dat (storyL (mkL l L)), .dat (natD i), .dat (natD a), .dat (frD s), .dat (.list (kinds10.map .str)), x9, .own (((L.take j).filter p).map .int ++ [.int z]), .dat (natD j), .unk] := fun e => by
      exact hn _ ⟨x9, .dat (natD j), by rw [htk, if_pos e, List.map_append]; rfl⟩
    walk_at "ck"
    refine br_2 (fun q => ?_) (fun q => ?_)
    · walk_at "ck"
      refine ⟨_, atI_st e1, ?_⟩
      walk_at "ck"
      refine ⟨_, atI_c ha, ?_⟩
      walk_at "ck"
      refine ⟨_, atI_kd mk.pre.lots.asc hL hz, ?_⟩
      walk_at "ck"
      refine ⟨_, _, rfl, ?_⟩
      walk_at "ck"
      refine br_2 (fun q2 => ?_) (fun q2 => ?_)
      · walk_at "ck"
        refine ⟨_, atI_L hz, ?_⟩
        walk_at "ck"
        exact yes (by rw [hpz, decide_eq_true q, decide_eq_true q2]; rfl)
      · walk_at "ck"
        exact no (by rw [hpz, decide_eq_false q2, Bool.and_false])
    · walk_at "ck"
      exact no (by rw [hpz, decide_eq_false q]; rfl)
  obtain ⟨x9, x11, rfl⟩ := hI
  rw [List.length_range, List.take_length]
  walk_at "ck"
  refine ⟨c, l, L, i, a, s, rfl, mk.pre, hi, fun ns hns => ?_⟩
  have ens : ns = L.filter p := asc_unique hns.asc hcarr.asc (fun z => (hns.mem z).trans (hcarr.mem z).symm)
  rw [ens]
  have hfl : (L.filter p).length ≤ 10 := Nat.le_trans (List.length_filter_le _ _) hL
  have hsm : ∀ n, n ∈ L.filter p → n.natAbs < 10 ^ 6 := fun n hn => lot_small mk n (List.mem_filter.mp hn).1
  walk_at "ck"
  refine ⟨L.filter p, rfl, by omega, hsm, ?_⟩
  walk_at "ck"
  refine ⟨L.filter p, rfl, by omega, hsm, ?_⟩
  walk_at "ck"
  rw [List.length_map]
  refine ⟨by omega, ?_⟩
  rw [show ((L.length : Int)).toNat = L.length from Int.toNat_natCast _, rng0]
  refine for_map natD (fun j ρ => ∃ x9 x11 x12, ρ = [.dat (cellD c), .dat (storyT l), .dat (.list (L.map .int)), .dat (.list (st.map cellD)), .dat (storyL (mkL l L)), .dat (natD i), .dat (natD a), .dat (frD s), .dat (.list (kinds10.map .str)), x9, .dat (.list ((L.filter p).map .int)), x11, x12]) (List.range L.length) ⟨_, _, _, rfl⟩ (fun j x ρ nx' hj hI hn => ?_) (fun ρ hI => ?_)
  · obtain ⟨x9, x11, x12, rfl⟩ := hI
    obtain ⟨hj1, hj2⟩ := List.getElem?_eq_some_iff.mp hj
    rw [List.getElem_range] at hj2
    subst hj2
    rw [List.length_range] at hj1
    obtain ⟨z, hz⟩ := get_ex (xs := L) (i := j) hj1
    have hzm := List.mem_of_getElem? hz
    have hzl : IsLot c l z := (mk.pre.lots.mem z).mp hzm
    have haz := atI_L hz
    have hak := atI_kd mk.pre.lots.asc hL hz
    walk_at "ck"
    refine ⟨_, haz, ?_⟩
    walk_at "ck"
    refine ⟨c, l, z, i, a, s, rfl, mk.pre.st, hzl, hi, fun r hr => ?_⟩
    walk_at "ck"
    refine ⟨_, haz, ?_⟩
    walk_at "ck"
    cases r with
    | none =>
      have hno : z ∉ L.filter p := fun h => hr.1 rfl ((hcarr.mem z).mp h)
      rw [decide_eq_false hno]
      walk_at "ck"
      refine br_f rfl ?_
      walk_at "ck"
      refine ⟨_, haz, ?_⟩
      walk_at "ck"
      refine ⟨c, l, z, i, a, s, none, rfl, mk.pre.st, hzl, hi, hr, ?_⟩
      walk_at "ck"
      refine r_reprB ?_
      walk_at "ck"
      refine r_reprB ?_
      walk_at "ck"
      exact hn _ ⟨_, _, _, rfl⟩
    | some w =>
      obtain ⟨pp, a', s', rfl, e3, hs0, hpath⟩ := hr.2 w rfl
      rw [hi] at e3
      cases e3
      have hyes : z ∈ L.filter p := (hcarr.mem z).mpr ⟨a, s, hi, hs0, hpath.reach⟩
      rw [decide_eq_true hyes]
      walk_at "ck"
      refine br_t rfl ?_
      walk_at "ck"
      refine ⟨_, haz, ?_⟩
      walk_at "ck"
      refine ⟨_, hak, ?_⟩
      walk_at "ck"
      refine ⟨c, l, L, st, z, i, a, s, pp, rfl, mk, hzm, hi, hpath, ?_⟩
      walk_at "ck"
      refine ⟨_, haz, ?_⟩
      walk_at "ck"
      refine ⟨c, l, z, i, a, s, some (pp ++ [(i : Int)]), rfl, mk.pre.st, hzl, hi, hr, ?_⟩
      walk_at "ck"
      refine r_reprB ?_
      walk_at "ck"
      refine r_reprB ?_
      walk_at "ck"
      exact hn _ ⟨_, _, _, rfl⟩
  obtain ⟨x9, x11, x12, rfl⟩ := hI
  walk_at "ck"
  exact ⟨_, rfl, hk _ hcarr⟩
end
end CK
set_option Elab.async false
set_option linter.all false
set_option maxRecDepth 100000
set_option maxHeartbeats 4000000
namespace CK
open PySem PySem.Spec PyProof.Rows L2
open Evl (Ex ex_l ex_t fresh_back)
open C8 (Cal pe_c)
/-! ### the deck, over the script as it was handed in -/
def M25 : Int := 10000000000000000000000013
def spDeck (K : PySem.W.Frag) : Sp := fun vs H Q _ => ∃ (a : Addr) (ns : List Int), vs = [.ref a] ∧ SqL K H a (ns.map V.int) ∧ ns.length ≤ 1000 ∧
  ∀ p q m H', 0 ≤ m → m < M25 → H p = none → H q = none → p ≠ q → H' p = some (.lst [.ref q, .int 0, .int 0, .int m, .int 1]) → H' q = some (.lst (ns.map V.int)) → (∀ b o, H b = some o → H' b = some o) → Q (.ref p) H'
def N__law_deck : List Str := ["_law_script", "_law_mixed", "_law_cell"]
theorem sc__law_deck : FnScope N__law_deck ["_law_script"] (defScope (top 70)) := ⟨rfl, rfl, rfl, by decide +kernel, rfl, by decide +kernel, by decide +kernel⟩
section
variable {P : Program} {w : World} {K : PySem.W.Frag} {mg : Str → Option Value} {base : Heap}
theorem ok__law_deck (T : Txt K mg) : Cal P w K mg base 1 "_law_deck" (spDeck K) [] := by
  obtain ⟨f, fd, F, hm⟩ := T.fn 51 rfl
  have nd : N__law_deck.Nodup := sc__law_deck.nd
  refine ⟨f, fd, ["_law_script"], [], F.ok sc__law_deck (fun vs H Q E h => ?_) (fun cdv A outer s H vs Q E hr h => ?_), hm, F.kp, F.bindsN (fun _ _ _ _ _ _ us hl => match us, hl with | [_], _ => rfl), .nil⟩
  · obtain ⟨a, ns, rfl, _⟩ := h
    rfl
  · obtain ⟨a, ns, rfl, hS, hl, hq⟩ := h
    refine ⟨_, PSs.nox (pss_cons (ps_set (i := 1) nd rfl (.inl rfl) pe_int)
      (pss_cons (ps_for PassesOwn.never rfl (pi_list (pv 0)) (pg_name (i := 2) nd rfl (.inl rfl))
        (pss_one (ps_set (i := 1) nd rfl (.inl rfl) (pe_op op_mod
          (pe_callTy call_int1 rfl T.int_ (by decide +kernel) (pa_cons (pe_op op_add (pe_op op_add (pe_op op_mulW (pv 1) pe_int) (pe_callB call_abs rfl T.abs_ (by decide +kernel) (pa_cons (pv 2) pa_nil))) pe_int) pa_nil))
          (pe_op op_add (pe_op op_powW pe_int pe_int) pe_int)))))
      (pss_one (ps_ret (pe_lst (pa_cons (pe_callTy call_list_of rfl T.list_ (by decide +kernel) (pa_cons (pv 0) pa_nil)) (pa_cons pe_int (pa_cons pe_int (pa_cons (pv 1) (pa_cons pe_int pa_nil)))))))))), ?_⟩
    refine ⟨.ref a, rfl, a, rfl, ⟨_, hS⟩, for_list (K := K) (xs := ns.map V.int) (fun i σ H' => H' = H ∧ ∃ m c, σ = [some (.ref a), some (.int m), c] ∧ 0 ≤ m ∧ m < M25) ⟨rfl, 29, none, rfl, by decide, by decide⟩ (fun i σ H' _ h => by obtain ⟨rfl, _⟩ := h; exact hS) (fun i x σ H' hx h => ?_) (fun σ H' h => ?_)⟩
    · obtain ⟨rfl, m, c, rfl, h0, h1⟩ := h
      obtain ⟨n, rfl⟩ : ∃ n, x = V.int n := by
        rw [List.getElem?_map] at hx
        cases e : ns[i]? with
        | none => rw [e] at hx; cases hx
        | some n => rw [e] at hx; cases hx; exact ⟨n, rfl⟩
      have e25 : (10 : Int) ^ (25 : Int).toNat + 13 = M25 := by decide
      have hm : CMulW m 52361 := by
        have h3 : m < 2 ^ 200 := by rw [e200]; unfold M25 at h1; omega
        exact cmul (pow_lt (m := 200) h0 h3) (pow_lt (m := 20) (by decide) (by decide)) (by decide) (by decide) (by decide)
      refine ⟨.int m, rfl, m, 52361, rfl, rfl, hm, .int n, rfl, n, rfl, _, _, rfl, rfl, _, _, rfl, rfl, .inl ⟨_, rfl, 10, 25, rfl, rfl, c10 (by decide) (by decide), _, _, rfl, rfl, _, _, rfl, rfl, by rw [e25]; show (0 : Int) < M25; decide, ?_⟩⟩
      rw [e25]
      exact ⟨rfl, _, _, rfl, Int.emod_nonneg _ (by decide), Int.emod_lt_of_pos _ (by decide)⟩
    · obtain ⟨rfl, m, c, rfl, h0, h1⟩ := h
      refine ⟨.ref a, rfl, a, _, rfl, .inl hS, fun q hq' => ⟨.int m, rfl, by rw [sizeLine_eq]; show 5 ≤ 16777216; decide, fun p hp => ?_⟩⟩
      have ne : p ≠ q := fun e => by rw [e, upd_same] at hp; cases hp
      have hp0 : H' p = none := by rw [upd_ne ne] at hp; exact hp
      refine hq p q m _ h0 h1 hp0 hq' ne upd_same (by rw [upd_ne (Ne.symm ne), upd_same]) fun b o e => ?_
      rw [upd_ne (fun z => by rw [z, hp0] at e; cases e), upd_ne (fun z => by rw [z, hq'] at e; cases e)]
      exact e
end
end CK
set_option Elab.async false
set_option linter.all false
set_option maxRecDepth 100000
set_option maxHeartbeats 4000000
namespace CK
open PySem PySem.Spec PyProof.Rows L2
/-! ### the marked run's precondition -/
theorem kinds_ok : kinds10.all kindB = true := by decide +kernel
theorem kd_mem (L : List Int) (z : Int) : kd L z ∈ kinds10 := by
  unfold kd
  rw [List.getD_eq_getElem?_getD]
  cases h : kinds10[L.idxOf z]? with
  | none => exact List.mem_cons_self
  | some y => exact List.mem_of_getElem? h
theorem kd_ok (L : List Int) (z : Int) : KindOk (kd L z) := kind_of (List.all_eq_true.mp kinds_ok _ (kd_mem L z))
theorem mkF_ok {L : List Int} {z : Int} {f : Fill} (h : FillOk f) : FillOk (mkF L z f) := by
  cases f with
  | nil => exact FillOk.nil
  | cons e es =>
    have he := h.ent e List.mem_cons_self
    refine ⟨fun x hx => ?_, List.pairwise_singleton _ _, by show 1 < 64; decide⟩
    cases List.mem_singleton.mp hx
    exact ⟨kd_ok L z, he.fr, he.pos⟩
def lotDen : Fill → Int
  | [] => 1
  | e :: _ => e.2.2
def addDen : Deed → Int
  | .add _ f => lotDen f
  | _ => 1
def prodI : List Int → Int
  | [] => 1
  | x :: xs => x * prodI xs
theorem ipow_le {a b : Nat} (h : a ≤ b) : (2 : Int) ^ a ≤ 2 ^ b := by
  have := pow2_le (i := a) (n := b) (M := 1) h (by decide)
  rw [Int.mul_one, Int.mul_one] at this
  exact this
theorem prodI_pos : ∀ {xs : List Int}, (∀ x, x ∈ xs → 0 < x) → 0 < prodI xs
  | [], _ => Int.one_pos
  | x :: xs, h => Int.mul_pos (h x List.mem_cons_self) (prodI_pos fun y hy => h y (List.mem_cons_of_mem _ hy))
theorem prodI_dvd : ∀ {xs : List Int} {x : Int}, x ∈ xs → ∃ K, prodI xs = x * K
  | y :: ys, x, h => by
    rcases List.mem_cons.mp h with e | e
    · exact ⟨prodI ys, by rw [e]; rfl⟩
    · obtain ⟨K, hK⟩ := prodI_dvd e
      refine ⟨y * K, ?_⟩
      show y * prodI ys = _
      rw [hK, Int.mul_left_comm]
theorem AmB.d100 {x : Fr} (h : AmB x) : 0 < x.2 ∧ x.2 ≤ 2 ^ 100 := ⟨h.fr.red.pos, Int.le_of_lt (Int.lt_of_le_of_lt h.d big_lt)⟩
theorem lotDen_pos {f : Fill} (h : ∀ e, e ∈ f → AmB e.2) : 0 < lotDen f := by
  cases f with
  | nil => exact Int.one_pos
  | cons e es => exact (h e List.mem_cons_self).d100.1
theorem mul_pow {a b : Int} {n : Nat} (ha : 0 < a) (hb : b ≤ 2 ^ (100 * n)) (ha2 : a ≤ 2 ^ 100) (hb0 : 0 < b) : a * b ≤ 2 ^ (100 * (n + 1)) := by
  have e : (2 : Int) ^ (100 * (n + 1)) = 2 ^ 100 * 2 ^ (100 * n) := by rw [← Int.pow_add]; congr 1; omega
  rw [e]
  have p : (0 : Int) < 2 ^ 100 := Int.pow_pos (by decide)
  exact Int.le_trans (Int.mul_le_mul_of_nonneg_right ha2 (Int.le_of_lt hb0)) (Int.mul_le_mul_of_nonneg_left hb (Int.le_of_lt p))
theorem cell_prod : ∀ {c : Cell}, (∀ f, f ∈ c → ∀ e, e ∈ f → AmB e.2) → 0 < prodI (c.map lotDen) ∧ prodI (c.map lotDen) ≤ 2 ^ (100 * nes c)
  | [], _ => ⟨Int.one_pos, by decide⟩
  | f :: c, h => by
    obtain ⟨i1, i2⟩ := cell_prod (c := c) fun g hg => h g (List.mem_cons_of_mem _ hg)
    have hf := h f List.mem_cons_self
    have hp := lotDen_pos hf
    refine ⟨Int.mul_pos hp i1, ?_⟩
    cases f with
    | nil =>
      have e : nes ([] :: c) = nes c := rfl
      rw [e]
      show 1 * prodI (c.map lotDen) ≤ _
      rw [Int.one_mul]
      exact i2
    | cons e es =>
      have e2 : nes ((e :: es) :: c) = nes c + 1 := rfl
      rw [e2]
      exact mul_pow hp i2 (hf e List.mem_cons_self).d100.2 i1
theorem deed_prod : ∀ {l : List Deed}, (∀ a f, Deed.add a f ∈ l → ∀ e, e ∈ f → AmB e.2) → 0 < prodI (l.map addDen) ∧ prodI (l.map addDen) ≤ 2 ^ (100 * adds l)
  | [], _ => ⟨Int.one_pos, by decide⟩
  | d :: l, h => by
    obtain ⟨i1, i2⟩ := deed_prod (l := l) fun a f hf => h a f (List.mem_cons_of_mem _ hf)
    have skip : addDen d = 1 → addB d = false → 0 < prodI ((d :: l).map addDen) ∧ prodI ((d :: l).map addDen) ≤ 2 ^ (100 * adds (d :: l)) := fun e1 e2 => by
      have e3 : adds (d :: l) = adds l := by
        unfold adds
        rw [List.filter_cons, if_neg (by rw [e2]; decide)]
      rw [e3]
      show 0 < addDen d * prodI (l.map addDen) ∧ addDen d * prodI (l.map addDen) ≤ _
      rw [e1, Int.one_mul]
      exact ⟨i1, i2⟩
    cases d with
    | add a f =>
      cases f with
      | nil => exact skip rfl rfl
      | cons e es =>
        have hf := h a (e :: es) List.mem_cons_self
        have hp := lotDen_pos hf
        have e2 : adds (.add a (e :: es) :: l) = adds l + 1 := rfl
        rw [e2]
        exact ⟨Int.mul_pos hp i1, mul_pow hp i2 (hf e List.mem_cons_self).d100.2 i1⟩
    | _ => exact skip rfl rfl
theorem pN_bound : ∀ {ds : List Deed} {N : Int}, 0 < N → (∀ d, d ∈ ds → 0 < d.den ∧ d.den ≤ 1000000000000000000000000000000) → 0 < pN N ds ∧ pN N ds ≤ N * 2 ^ (100 * ds.length)
  | [], N, hN, _ => ⟨hN, by show N ≤ N * 2 ^ 0; rw [Int.pow_zero, Int.mul_one]; exact Int.le_refl _⟩
  | d :: ds, N, hN, h => by
    obtain ⟨h1, h2⟩ := h d List.mem_cons_self
    obtain ⟨i1, i2⟩ := pN_bound (ds := ds) (N := N * d.den) (Int.mul_pos hN h1) fun x hx => h x (List.mem_cons_of_mem _ hx)
    refine ⟨i1, Int.le_trans i2 ?_⟩
    have e : (2 : Int) ^ (100 * (d :: ds).length) = 2 ^ 100 * 2 ^ (100 * ds.length) := by rw [← Int.pow_add, List.length_cons]; congr 1; omega
    rw [e, ← Int.mul_assoc]
    exact Int.mul_le_mul_of_nonneg_right (Int.mul_le_mul_of_nonneg_left (Int.le_trans h2 (Int.le_of_lt big_lt)) (Int.le_of_lt hN)) (Int.le_of_lt (Int.pow_pos (by decide)))
theorem den_mk (L : List Int) (i : Nat) (d : Deed) : (mkD L i d).den = d.den := by cases d <;> rfl
theorem mkL_mem {l : List Deed} {L : List Int} {d : Deed} (h : d ∈ mkL l L) : ∃ i d', l[i]? = some d' ∧ d = mkD L i d' := by
  obtain ⟨i, hi⟩ := List.mem_iff_getElem?.mp h
  obtain ⟨d', h1, h2⟩ := mkL_some.mp hi
  exact ⟨i, d', h1, h2⟩
theorem mkC_mem {c : Cell} {L : List Int} {f : Fill} (h : f ∈ mkC c L) : ∃ (a : Nat) (g : Fill), g ∈ c ∧ f = mkF L (-1 - (a : Int)) g := by
  obtain ⟨a, ha⟩ := List.mem_iff_getElem?.mp h
  rw [mkC_at] at ha
  cases e : c[a]? with
  | none => rw [e] at ha; cases ha
  | some g => rw [e] at ha; exact ⟨a, g, List.mem_of_getElem? e, (Option.some.inj ha).symm⟩
theorem fill_in {L : List Int} {z N : Int} {f : Fill} (h : ∀ e, e ∈ f → AmB e.2) (hN : ∃ K, N = lotDen f * K) : FillIn kinds10 N 1000000000000000000000000000000 (mkF L z f) := by
  cases f with
  | nil => exact FillIn.nil
  | cons e es =>
    have ab := h e List.mem_cons_self
    obtain ⟨K, rfl⟩ := hN
    intro x hx
    cases List.mem_singleton.mp hx
    refine ⟨kd_mem L z, ?_, ?_⟩
    · have : IsOf e.2.2 (qv e.2) := ⟨e.2.1, qv_mul ab.fr.red.pos⟩
      exact this.more
    · show qv e.2 ≤ _
      rw [qv_le_int ab.fr.red.pos]
      have h1 := ab.n
      have h2 := ab.fr.red.pos
      omega
structure Made (c : Cell) (l : List Deed) : Prop where
  cell : CellOk c
  fill : ∀ f, f ∈ c → FillB f
  ok : ∀ d, d ∈ l → d.Ok c.length ∧ DeedB d
  len : l.length ≤ 24
  ten : nes c + adds l ≤ 10
section
variable {c : Cell} {l : List Deed} {L : List Int}
theorem Made.am (m : Made c l) : ∀ f, f ∈ c → ∀ e, e ∈ f → AmB e.2 := fun f hf e he => (m.fill f hf).am e he
theorem Made.amA (m : Made c l) : ∀ a f, Deed.add a f ∈ l → ∀ e, e ∈ f → AmB e.2 := fun a f hf e he => FillB.am (show FillB f from (m.ok _ hf).2) e he
theorem Made.den (m : Made c l) : ∀ d, d ∈ l → d.den ≤ 1000000000000000000000000000000 := fun d hd => by
  have h := (m.ok d hd).2
  cases d with
  | add a f => show (1 : Int) ≤ _; decide
  | move a b s => exact h
  | swap a b s => exact h
  | draw a s => exact h
  | keep a s => exact h
theorem Made.sty (m : Made c l) : Sty c l := ⟨m.cell, fun d hd => (m.ok d hd).1, by have := m.len; omega⟩
theorem Made.pre (m : Made c l) (L : List Int) : ∃ N, RunPre (mkC c L) (mkL l L) kinds10 N 1000000000000000000000000000000 := by
  obtain ⟨p1, p2⟩ := cell_prod m.am
  obtain ⟨q1, q2⟩ := deed_prod m.amA
  have hN : 0 < prodI (c.map lotDen) * prodI (l.map addDen) := Int.mul_pos p1 q1
  have hN2 : prodI (c.map lotDen) * prodI (l.map addDen) ≤ 2 ^ 1000 := by
    have e1 : (2 : Int) ^ (100 * nes c) * 2 ^ (100 * adds l) = 2 ^ (100 * nes c + 100 * adds l) := by rw [← Int.pow_add]
    have e2 : (2 : Int) ^ (100 * nes c + 100 * adds l) ≤ 2 ^ 1000 := ipow_le (by have := m.ten; omega)
    refine Int.le_trans ?_ e2
    rw [← e1]
    exact Int.le_trans (Int.mul_le_mul_of_nonneg_right p2 (Int.le_of_lt q1)) (Int.mul_le_mul_of_nonneg_left q2 (Int.le_of_lt (Int.pow_pos (by decide))))
  have dens : ∀ d, d ∈ mkL l L → 0 < d.den ∧ d.den ≤ 1000000000000000000000000000000 := fun d hd => by
    obtain ⟨i, d', h1, rfl⟩ := mkL_mem hd
    have hm := List.mem_of_getElem? h1
    rw [den_mk]
    exact ⟨(m.ok d' hm).1.den, m.den d' hm⟩
  obtain ⟨b1, b2⟩ := pN_bound hN dens
  rw [mkL_len] at b2
  have hl := m.len
  refine ⟨prodI (c.map lotDen) * prodI (l.map addDen), ⟨⟨by rw [mkC_len]; exact m.cell.lo, by rw [mkC_len]; exact m.cell.hi, fun f hf => ?_⟩, fun f hf => ?_, fun d hd => ?_, ⟨b1, ?_, ?_, ?_⟩, hN, by decide, by show 10 < 64; decide, by rw [mkL_len]; omega⟩⟩
  · obtain ⟨a, g, hg, rfl⟩ := mkC_mem hf
    exact mkF_ok (m.fill g hg).ok
  · obtain ⟨a, g, hg, rfl⟩ := mkC_mem hf
    obtain ⟨K, hK⟩ := prodI_dvd (List.mem_map.mpr ⟨g, hg, rfl⟩ : lotDen g ∈ c.map lotDen)
    exact fill_in (m.am g hg) ⟨K * prodI (l.map addDen), by rw [hK, Int.mul_assoc]⟩
  · obtain ⟨i, d', h1, rfl⟩ := mkL_mem hd
    have hm := List.mem_of_getElem? h1
    rw [mkC_len]
    refine ⟨mkD_ok (m.ok d' hm).1 fun z f h => mkF_ok h, ?_⟩
    cases d' with
    | add a f =>
      obtain ⟨K, hK⟩ := prodI_dvd (List.mem_map.mpr ⟨_, hm, rfl⟩ : lotDen f ∈ l.map addDen)
      exact fill_in (m.amA a f hm) ⟨K * prodI (c.map lotDen), by rw [hK, Int.mul_comm, Int.mul_assoc]⟩
    | _ => exact True.intro
  · have e1 : (2 : Int) ^ (100 * l.length) ≤ 2 ^ 2400 := ipow_le (by omega)
    have e2 : prodI (c.map lotDen) * prodI (l.map addDen) * 2 ^ (100 * l.length) ≤ 2 ^ 1000 * 2 ^ 2400 :=
      Int.le_trans (Int.mul_le_mul_of_nonneg_right hN2 (Int.le_of_lt (Int.pow_pos (by decide)))) (Int.mul_le_mul_of_nonneg_left e1 (Int.le_of_lt (Int.pow_pos (by decide))))
    have e3 : (2 : Int) ^ 1000 * 2 ^ 2400 < 2 ^ 3600 := by
      have h : (2 : Int) ^ 3600 = 2 ^ 1000 * 2 ^ 2400 * 2 ^ 200 := by rw [← Int.pow_add, ← Int.pow_add]
      rw [h]
      have a1 : (0 : Int) < 2 ^ 1000 * 2 ^ 2400 := Int.mul_pos (Int.pow_pos (by decide)) (Int.pow_pos (by decide))
      have := Int.mul_lt_mul_of_pos_left (show (1 : Int) < 2 ^ 200 by decide) a1
      rw [Int.mul_one] at this
      exact this
    exact Int.lt_of_le_of_lt (Int.le_trans b2 e2) e3
  · exact Int.mul_nonneg (Int.le_of_lt (Int.pow_pos (by decide))) (by decide)
  · rw [mkL_len]
    have e1 := pow2_le (i := l.length) (n := 24) (M := 1000000000000000000000000000000) hl (by decide)
    exact Int.lt_of_le_of_lt e1 (by decide)
theorem lots_len (hc : c.length ≤ 8) (hL : Lots c l L) : L.length = nes c + adds l := by
  have hd : (firstL c).Pairwise (fun a b => b ≤ a) := by
    unfold firstL
    rw [List.pairwise_map]
    refine List.Pairwise.filter _ ?_
    have : (c.zipIdx.map (·.2)).Pairwise (· < ·) := by
      rw [List.zipIdx_map_snd]
      exact List.pairwise_lt_range'
    rw [List.pairwise_map] at this
    exact this.imp fun {a b} h => by omega
  have h := lots_of (l := l) (ns := (firstL c).reverse) (List.reverse_perm _) (List.pairwise_reverse.mpr hd)
  have e := hL.unique h
  rw [e, List.length_append, List.length_reverse]
  have e1 : (firstL c).length = nes c := by
    unfold firstL nes
    rw [List.length_map]
    have : ∀ (n : Nat) (c : Cell), ((c.zipIdx n).filter fun p => !decide (p.1 = [])).length = (c.filter fun f => !decide (f = [])).length := by
      intro n c
      induction c generalizing n with
      | nil => rfl
      | cons f c ih =>
        rw [List.zipIdx_cons, List.filter_cons, List.filter_cons]
        split
        · rw [List.length_cons, List.length_cons, ih]
        · exact ih _
    exact this 0 c
  have e2 : (laterL l).length = adds l := by
    unfold laterL adds
    rw [List.length_map]
    have : ∀ (n : Nat) (l : List Deed), ((l.zipIdx n).filter fun p => addB p.1).length = (l.filter addB).length := by
      intro n l
      induction l generalizing n with
      | nil => rfl
      | cons f c ih =>
        rw [List.zipIdx_cons, List.filter_cons, List.filter_cons]
        split
        · rw [List.length_cons, List.length_cons, ih]
        · exact ih _
    exact this 0 l
  rw [e1, e2]
theorem Made.lotPre (m : Made c l) (hL : Lots c l L) : LotPre c l L ∧ L.length ≤ 10 := by
  have e := lots_len m.cell.hi hL
  have := m.ten
  exact ⟨⟨m.sty, hL, by omega⟩, by omega⟩
theorem Made.mark (m : Made c l) (hL : Lots c l L) {Ks : List Str} {N M : Int} {st : List Cell} (run : RunOk (mkC c L) (mkL l L) Ks N M st) : Mark c l L st :=
  ⟨(m.lotPre hL).1, (m.lotPre hL).2, ⟨_, _, _, run⟩, m.den, m.am, m.amA, m.len⟩
theorem Made.styM (m : Made c l) (L : List Int) : Sty (mkC c L) (mkL l L) := by
  obtain ⟨N, h⟩ := m.pre L
  exact ⟨h.cell, fun d hd => (h.ok d hd).1, h.len⟩
theorem Made.lotPreM (m : Made c l) (hL : Lots c l L) : LotPre (mkC c L) (mkL l L) L := ⟨m.styM L, lots_mark hL, (m.lotPre hL).1.len⟩
end
end CK
set_option Elab.async false
set_option linter.all false
set_option maxRecDepth 100000
set_option maxHeartbeats 4000000
namespace CK
open PySem PySem.Spec PyProof.Rows L2
open Evl (Ex ex_l ex_t fresh_back)
open C8 (Cal pe_c)
def lotF2 : PD → PD := lotF
def spLaw (K : PySem.W.Frag) : Sp := fun vs H Q _ => ∃ (a : Addr) (ns : List Int), vs = [.ref a] ∧ SqL K H a (ns.map V.int) ∧ ns.length ≤ 63 ∧ ∀ H', Q (.bl true) H'
theorem lots_small {c : Cell} {l : List Deed} {L : List Int} (hc : c.length ≤ 8) (hl : l.length ≤ 24) (hL : Lots c l L) : ∀ z, z ∈ L → z.natAbs < 10 ^ 6 := fun z hz => by
  rcases (hL.mem z).mp hz with ⟨a, h, h3, _⟩ | ⟨i, a, f, h, h3, _⟩
  · omega
  · have := (List.getElem?_eq_some_iff.mp h3).1
    omega
def tellF (tab : List (Int × List Int)) (i : Nat) (y : Int) : Bool := tab.any fun p => decide (p.1 = (i : Int)) && decide (y ∈ p.2)
theorem tellF_at {tab : List (Int × List Int)} (hn : (tab.map (·.1)).Nodup) {i : Nat} {ns : List Int} (h : ((i : Int), ns) ∈ tab) (y : Int) : tellF tab i y = decide (y ∈ ns) := by
  unfold tellF
  rw [Bool.eq_iff_iff, List.any_eq_true, decide_eq_true_eq]
  constructor
  · rintro ⟨p, hp, hq⟩
    rw [Bool.and_eq_true, decide_eq_true_eq, decide_eq_true_eq] at hq
    have e1 := tab_val hn h
    have hp' : ((i : Int), p.2) ∈ tab := by rw [← hq.1]; exact hp
    have e2 := tab_val hn hp'
    rw [e1] at e2
    have e3 : ns.map PyData.int = p.2.map PyData.int := by
      have := Option.some.inj e2
      exact PyData.list.inj this
    have e4 : ns = p.2 := List.map_inj_right (fun a b h => PyData.int.inj h) |>.mp e3
    rw [e4]
    exact hq.2
  · intro q
    exact ⟨_, h, by simp [q]⟩
theorem tabD_keys (tab : List (Int × List Int)) : (tabD tab).map (·.1) = (tab.map (·.1)).map Sum.inl := by
  unfold tabD
  rw [List.map_map, List.map_map]
  rfl
theorem sorted_keys {ks ys : List Int} (hk : ks.Pairwise (· < ·)) (hp : ys.Perm ks) (hs : ys.Pairwise (· ≤ ·)) : ys = ks := by
  have n2 : ys.Nodup := hp.nodup_iff.mpr (asc_nodup hk)
  exact asc_unique (List.Pairwise.imp₂ (fun a b h1 h2 => by omega) hs n2) hk fun z => hp.mem_iff
theorem tells_of {c : Cell} {l : List Deed} {tab : List (Int × List Int)} (h : TabOk c l l.length tab) : TellsF c l (tellF tab) := fun i a s hi z => by
  obtain ⟨ns, h1, h2⟩ := h.get hi
  rw [tellF_at (asc_nodup h.keyAsc) h1, decide_eq_true_eq, h2.mem]
def N_law : List Str := ["_law_script", "_law_deck_here", "_law_cellar_here", "_law_story_here", "_law_known", "_law_marked_here", "_law_deeds", "_law_states", "_law_kinds", "_law_letter", "_law_carries", "_law_index", "_law_some", "_law_k", "_law_entry", "_law_due", "_law_cask", "_law_told", "_law_alike", "_law_lot", "_law_bad"]
theorem sc_law : FnScope N_law ["_law_script"] (defScope (top 86)) := ⟨rfl, rfl, rfl, by decide +kernel, rfl, by decide +kernel, by decide +kernel⟩
local macro_rules | `(tactic| walk_at "ck") => `(tactic| repeat (first
  | (with_reducible refine r_seq ?_)
  | (with_reducible refine r_next ?_)
  | (with_reducible refine r_ret ?_)
  | (with_reducible refine r_set ?_)
  | (with_reducible refine r_ifs ?_)
  | (with_reducible refine r_B ?_)
  | (with_reducible refine r_boolK ?_)
  | (with_reducible refine r_op ?_)
  | (with_reducible refine r_c ?_)
  | (with_reducible refine r_call ?_)
  | (with_reducible refine r_cons ?_)
  | (with_reducible refine r_nil ?_)
  | (with_reducible refine r_intK ?_)
  | ((with_reducible refine' r_var ?e ?_); (case e => exact rfl))
  | ((with_reducible refine' r_ixT ?e ?_); (case e => exact rfl))
  | ((with_reducible refine' r_loT ?e ?_); (case e => exact rfl))
  | ((with_reducible refine' r_ixK ?e ?_); (case e => exact rfl))
  | (with_reducible refine r_neI ?_)
  | (with_reducible refine r_int2 ?_)
  | (with_reducible refine r_eqS ?_)
  | (with_reducible refine r_addI ?_)
  | (with_reducible refine r_or ?_)
  | (with_reducible refine r_not ?_)
  | (with_reducible refine r_tup ?_)
  | (with_reducible refine r_len2 ?_)
  | (with_reducible refine br_T ?_)
  | (with_reducible refine br_F ?_)
  | (with_reducible refine r_is ?_)
  | (with_reducible refine r_is6 ?_)
  | (with_reducible refine r_un ?_)
  | (with_reducible refine r_neg ?_)
  | (with_reducible refine r_lenT ?_)
  | (with_reducible refine r_lenL ?_)
  | (with_reducible refine r_lstK ?_)
  | (with_reducible refine r_tupK ?_)
  | (with_reducible refine r_strK ?_)
  | ((with_reducible refine' r_ixL ?e ?_); (case e => exact rfl))
  | ((with_reducible refine' r_loL ?e ?_); (case e => exact rfl))
  | ((with_reducible refine' r_wixT ?e ?_); (case e => exact rfl))
  | (with_reducible refine r_tuple ?_)
  | (with_reducible refine r_listL ?_)
  | (with_reducible refine r_isN ?_)
  | (with_reducible refine r_neS ?_)
  | (with_reducible refine r_eqB ?_)
  | (with_reducible refine r_for ?_)
  | (with_reducible refine r_itL ?_)
  | (with_reducible refine r_itT ?_)
  | (with_reducible refine r_rng1 ?_)
  | (with_reducible refine r_sgn ?_)
  | (with_reducible refine r_gN ?_)
  | (with_reducible refine r_gP ?_)
  | (with_reducible refine r_yes ?_)
  | (with_reducible refine r_lcv ?_)
  | (with_reducible refine r_setD ?_)
  | (with_reducible refine r_putD ?_)
  | (with_reducible refine r_cK ?_)
  | (with_reducible refine r_sortI ?_)
  | ((with_reducible refine' r_dicT ?e ?_); (case e => exact rfl))
  | ((with_reducible refine' r_dkT ?e ?_); (case e => exact rfl))
  | ((with_reducible refine' r_getD ?e ?_); (case e => exact rfl))
  | ((with_reducible refine' r_dic ?e ?_); (case e => exact rfl))
  | ((with_reducible refine' r_dkO ?e ?_); (case e => exact rfl))
  | (with_reducible refine r_keyI ?_)
  | (with_reducible refine r_neInts ?_)
  | (with_reducible refine r_inI ?_)
  | (with_reducible refine br_nT ?_)
  | (with_reducible refine br_dt (by first | omega | assumption | (with_unfolding_all rfl) | (simp only [List.length_cons, List.length_nil]; omega) | decide +kernel) ?_)
  | (with_reducible refine br_df (by first | omega | assumption | (with_unfolding_all rfl) | (simp only [List.length_cons, List.length_nil]; omega) | decide +kernel) ?_)
  | (with_reducible refine br_nf (by first | omega | assumption | (with_unfolding_all rfl) | (simp only [List.length_cons, List.length_nil]; omega) | decide +kernel) ?_)))
section
variable {P : Program} {w : World} {K : PySem.W.Frag} {mg : Str → Option Value} {base : Heap}
theorem law_walk (T : Txt K mg) (c__law_amount_of : Cal P w K mg base 1 "_law_amount_of" (spF w__law_amount_of) []) (c__law_cellar : Cal P w K mg base 4 "_law_cellar" (spK w__law_cellar) []) (c__law_draw_right : CalG P w K mg base 9 "_law_draw_right" (spF w__law_draw_right)) (c__law_lots : Cal P w K mg base 1 "_law_lots" (spF w__law_lots) []) (c__law_marked : Cal P w K mg base 1 "_law_marked" (spF w__law_marked) []) (c__law_story : Cal P w K mg base 5 "_law_story" (spK w__law_story) []) (c_drawn : Cal P w K mg base 11 "drawn" (spF w_drawn) []) (c_lots : Cal P w K mg base 7 "lots" (spF w_lots) []) (c_run : Cal P w K mg base 9 "run" (spF w_run) []) (c_suspects : Cal P w K mg base 7 "suspects" (spF w_suspects) []) (c_touched : Cal P w K mg base 7 "touched" (spF w_touched) []) {cdv : Value} {f : Addr} {A : Around} {outer : List Env} {s : Shared} {H : Hp} {E : XK} (hgu : A.guards = some []) (hr : Room 11 (A.deeper (envOfC "law" (defScope (top 86)) s.heap.objs.size f cdv))) :
    ∃ t, PBD (cxOf C8.CX0 P w K mg base N_law "law" (defScope (top 86)) f cdv A outer s H E).nox ((defBody (top 86)).drop 1) t ∧ ∀ (ns : List Int) (mm : Int), 0 ≤ mm → mm < M25 → t { nx := fun _ => False, rt := fun e _ => e = .dat (.bool true) } [.unk, .own [.list (ns.map .int), .int 0, .int 0, .int mm, .int 1], .unk, .unk, .unk, .unk, .unk, .unk, .unk, .unk, .unk, .unk, .unk, .unk, .unk, .unk, .unk, .unk, .unk, .unk, .unk] := by
  have nd : N_law.Nodup := sc_law.nd
  refine ⟨_, (b_cons (t_set 2 nd (p_cK 1 c__law_cellar hr (by decide) (a_cons p_int a_nil)))
  (b_cons (t_set 3 nd (p_cK 1 c__law_story hr (by decide) (a_cons (pv_ 2) (a_cons p_int a_nil))))
  (b_cons (t_set 4 nd (p_c c__law_lots hr (by decide) (a_cons (pv_ 2) (a_cons (pv_ 3) a_nil))))
  (b_cons (t_if (q_ne hr (p_repr hr hgu T.repr_ (a_cons (p_c c_lots hr (by decide) (a_cons (pv_ 2) (a_cons (pv_ 3) a_nil))) a_nil)) (p_repr hr hgu T.repr_ (a_cons (pv_ 4) a_nil))) (b_one (t_ret p_bl)) b_nil)
  (b_cons (t_unp (p_c c__law_marked hr (by decide) (a_cons (pv_ 2) (a_cons (pv_ 3) (a_cons (pv_ 4) a_nil)))) (v_pair 5 6 rfl nd))
  (b_cons (t_set 7 nd (p_c c_run hr (by decide) (a_cons (pv_ 5) (a_cons (p_list T.list_ (a_cons (pv_ 6) a_nil)) a_nil))))
  (b_cons (t_if (q_pw (q_or (q_not (q_val (p_is (T := "list") T.isinstance_ T.list_ (pv_ 7) (by decide +kernel)))) (q_or (q_ne hr (p_len T.len_ (a_cons (pv_ 7) a_nil)) (p_add (p_len T.len_ (a_cons (pv_ 3) a_nil)) p_int)) (q_or1 (q_ne hr (p_ixn 7 p_int) (pv_ 5)))))) (b_one (t_ret p_bl)) b_nil)
  (b_cons (t_set 8 nd (p_lc rfl nd (i_str p_str) (blkOk_by (N := N_law) (sc := defScope (top 86)) (own := [("_law_letter", 9)]) (by decide +kernel)) rfl (fun _ _ _ _ _ => (v_name 9 nd)) (fun _ _ _ _ _ => ts_nil) (fun _ _ _ _ _ => (p_add p_str (pv_ 9)))))
  (b_cons (t_setD 10 nd d_new)
  (b_cons (t_for PassesOwn.never rfl (i_rng1 T.range_ (p_len T.len_ (a_cons (pv_ 3) a_nil))) (v_name 11 nd)
  (b_one (t_if (q_eq hr (p_ix (p_ixn 3 (pv_ 11)) p_int) p_str) (b_cons (t_putD 10 hr (p_cG c__law_draw_right hgu hr (by decide) (a_cons (pv_ 2) (a_cons (pv_ 3) (a_cons (pv_ 4) (a_cons (pv_ 7) (a_cons (pv_ 6) (a_cons (pv_ 11) a_nil))))))) (pv_ 11))
  (b_one (t_if (q_isN (p_getD 10 hr (pv_ 11)) p_non) (b_one (t_ret p_bl)) b_nil))) b_nil)))
  (b_cons (t_setLc 12 rfl nd (i_rng1 T.range_ (p_len T.len_ (a_cons (pv_ 4) a_nil))) (blkOk_by (N := N_law) (sc := defScope (top 86)) (own := [("_law_k", 13)]) (by decide +kernel)) rfl (fun _ _ _ _ _ => (v_name 13 nd)) (fun _ _ _ _ _ => (ts_one (q_val (p_anyK 10 4 13 11 T.any_ rfl nd (by decide) (by decide) (by decide) (blkOk_by (own := [("_law_index", 11)]) (by kernel_rfl)) rfl (fun _ _ _ _ _ => (pg_name (i := 11) nd rfl (Or.inl rfl))) (fun _ _ _ _ _ => (pe_cmpR op_in_seq (pe_ix ix_seq (pv 4) (pv 13) (by intro _ _; rfl)) (pe_dget (hu_of hr) (pv 10) (pv 11) (by intro _ _; rfl)) (by with_unfolding_all rfl))))))) (fun _ _ _ _ _ => (p_ixn 8 (pv_ 13))))
  (b_cons (t_if (q_ne hr (p_lc rfl nd (i_tup (p_c c_drawn hr (by decide) (a_cons (pv_ 5) (a_cons (p_list T.list_ (a_cons (pv_ 6) a_nil)) a_nil)))) (blkOk_by (N := N_law) (sc := defScope (top 86)) (own := [("_law_entry", 14)]) (by decide +kernel)) rfl (fun _ _ _ _ _ => (v_name 14 nd)) (fun _ _ _ _ _ => ts_nil) (fun _ _ _ _ _ => (p_ixn 14 p_int))) (pv_ 12)) (b_one (t_ret p_bl)) b_nil)
  (b_cons (t_for PassesOwn.never rfl (i_rng1 T.range_ (p_len T.len_ (a_cons (pv_ 4) a_nil))) (v_name 13 nd)
  (b_cons (t_setLc 15 rfl nd (i_rng1 T.range_ (p_len T.len_ (a_cons (pv_ 2) a_nil))) (blkOk_by (N := N_law) (sc := defScope (top 86)) (own := [("_law_cask", 16)]) (by decide +kernel)) rfl (fun _ _ _ _ _ => (v_name 16 nd)) (fun _ _ _ _ _ => (ts_one (q_gt (p_ix (p_c c__law_amount_of hr (by decide) (a_cons (p_ix (p_ixn 7 (p_neg p_int)) (pv_ 16)) (a_cons (p_ixn 8 (pv_ 13)) a_nil))) p_int) p_int))) (fun _ _ _ _ _ => (pv_ 16)))
  (b_cons (t_if (q_pw (q_or (q_ne hr (p_repr hr hgu T.repr_ (a_cons (p_c c_touched hr (by decide) (a_cons (pv_ 2) (a_cons (pv_ 3) (a_cons (p_ixn 4 (pv_ 13)) a_nil)))) a_nil)) (p_repr hr hgu T.repr_ (a_cons (pv_ 15) a_nil))) (q_or1 (q_ne hr (p_c c_touched hr (by decide) (a_cons (pv_ 5) (a_cons (p_tuple T.tuple_ (a_cons (pv_ 6) a_nil)) (a_cons (p_ixn 4 (pv_ 13)) a_nil)))) (pv_ 15))))) (b_one (t_ret p_bl)) b_nil)
  (b_cons (t_set 17 nd (p_tuple T.tuple_ (a_cons (p_lc rfl nd (i_list (p_sortedDI 10 T.sorted_)) (blkOk_by (N := N_law) (sc := defScope (top 86)) (own := [("_law_index", 11)]) (by decide +kernel)) rfl (fun _ _ _ _ _ => (v_name 11 nd)) (fun _ _ _ _ _ => ts_nil) (fun _ _ _ _ _ => (p_tup (a_cons (pv_ 11) (a_cons (p_in (p_ixn 4 (pv_ 13)) (p_getD 10 hr (pv_ 11))) a_nil))))) a_nil)))
  (b_cons (t_setLc 18 rfl nd (i_list (pv_ 4)) (blkOk_by (N := N_law) (sc := defScope (top 86)) (own := [("_law_lot", 19)]) (by decide +kernel)) rfl (fun _ _ _ _ _ => (v_name 19 nd)) (fun _ _ _ _ _ => (ts_one (q_val (p_all rfl T.all_ (a_cons (p_lc rfl nd (i_tup (pv_ 17)) (blkOk_by (own := [("_law_index", 11), ("_law_bad", 20)]) (by kernel_rfl)) rfl (fun _ _ _ _ _ => (v_pair 11 20 rfl nd)) (fun _ _ _ _ _ => ts_nil) (fun _ _ _ _ _ => (p_eq hr (p_in (pv_ 19) (p_getD 10 hr (pv_ 11))) (pv_ 20)))) a_nil))))) (fun _ _ _ _ _ => (pv_ 19)))
  (b_one (t_if (q_ne hr (p_repr hr hgu T.repr_ (a_cons (p_c c_suspects hr (by decide) (a_cons (pv_ 2) (a_cons (pv_ 3) (a_cons (pv_ 17) a_nil)))) a_nil)) (p_repr hr hgu T.repr_ (a_cons (pv_ 18) a_nil))) (b_one (t_ret p_bl)) b_nil)))))))
  (b_one (t_ret p_bl))))))))))))))), ?_⟩
  intro ns mm h0 h1
  walk_at "ck"
  refine ⟨1, ⟨ns, 0, 0, mm, 1, rfl, by decide, h0, by unfold M25 at h1; omega, by decide, by decide⟩, rfl, by decide, fun dk1 c hd1 hc hf => ?_⟩
  walk_at "ck"
  refine ⟨_, c, hd1, rfl, hc, by decide, fun dk2 l hd2 hl hok hten => ?_⟩
  have m : Made c l := ⟨hc, hf, hok, hl, hten⟩
  have hc8 := hc.hi
  walk_at "ck"
  refine ⟨c, l, rfl, m.sty, fun L hL => ?_⟩
  obtain ⟨pre, ten⟩ := m.lotPre hL
  have hsm := lots_small hc8 hl hL
  walk_at "ck"
  refine ⟨c, l, rfl, m.sty, fun L' hL' => ?_⟩
  obtain rfl := hL'.unique hL
  walk_at "ck"
  refine ⟨L', rfl, by omega, hsm, ?_⟩
  walk_at "ck"
  refine ⟨L', rfl, by omega, hsm, ?_⟩
  walk_at "ck"
  refine ⟨c, l, L', rfl, pre, ten, ?_⟩
  obtain ⟨N, rp⟩ := m.pre L'
  walk_at "ck"
  refine ⟨mkC c L', mkL l L', kinds10, N, _, rfl, rp, fun st run => ?_⟩
  have mk := m.mark hL run
  walk_at "ck"
  refine br_nf (by rw [List.length_map, List.length_map, run.len, mkL_len]; omega) ?_
  walk_at "ck"
  refine ⟨_, atI_st (u := 0) run.head, ?_⟩
  walk_at "ck"
  refine r_neCell rp.cell ?_
  walk_at "ck"
  refine lcW_fm (fun _ => true) lotF (signsD "abcdefghij") [] (by decide +kernel) (fun x hx k k0 hb => ?_) ?_
  · obtain ⟨ch, hc, rfl⟩ := List.mem_map.mp hx
    walk_at "ck"
    refine r_addS (by show 3 + 1 ≤ 100000; decide) ?_
    walk_at "ck"
    exact hb.t
  rw [kinds_list2]
  walk_at "ck"
  rw [List.length_map]
  refine ⟨by omega, ?_⟩
  rw [show ((l.length : Int)).toNat = l.length from Int.toNat_natCast _, rng0]
  refine for_map natD (fun j ρ => ∃ x9 x11 tab, ρ = [.unk, .own dk2, .dat (cellD c), .dat (storyT l), .dat (.list (L'.map .int)), .dat (cellD (mkC c L')), .dat (storyL (mkL l L')), .dat (.list (st.map cellD)), .dat (.list (kinds10.map .str)), x9, .dic (tabD tab), x11, .unk, .unk, .unk, .unk, .unk, .unk, .unk, .unk, .unk] ∧ TabOk c l j tab) (List.range l.length) ⟨_, _, [], rfl, TabOk.nil⟩ (fun j x ρ nx' hj hI hn => ?_) (fun ρ hI => ?_)
  · obtain ⟨x9, x11, tab, rfl, ht⟩ := hI
    obtain ⟨hj1, hj2⟩ := List.getElem?_eq_some_iff.mp hj
    rw [List.getElem_range] at hj2
    subst hj2
    rw [List.length_range] at hj1
    have hd := getD_l hj1
    have hat := atI_l hj1
    generalize l.getD j (.draw 0 (0, 1)) = d at *
    have hfl := ht.len
    have hnew : (j : Int) ∉ tab.map (·.1) := fun z => by
      obtain ⟨i, e, h, _⟩ := tab_keys_lt ht z
      omega
    walk_at "ck"
    refine ⟨_, hat, ?_⟩
    cases d with
    | draw a s =>
      walk_at "ck"
      refine ⟨c, l, L', st, j, a, s, rfl, mk, hd, fun ns2 hns => ?_⟩
      have ht2 := ht.add hd hns
      walk_at "ck"
      refine ⟨by unfold tabD; rw [List.length_map]; omega, ?_⟩
      rw [put_new hnew]
      walk_at "ck"
      refine ⟨.inl (j : Int), _, rfl, tab_val (asc_nodup ht2.keyAsc) (List.mem_append_right _ (List.mem_singleton.mpr rfl)), ?_⟩
      walk_at "ck"
      refine br_f rfl ?_
      walk_at "ck"
      exact hn _ ⟨_, _, _, rfl, ht2⟩
    | move a b s =>
      walk_at "ck"
      exact hn _ ⟨_, _, _, rfl, ht.skip hd rfl⟩
    | swap a b s =>
      walk_at "ck"
      exact hn _ ⟨_, _, _, rfl, ht.skip hd rfl⟩
    | keep a s =>
      walk_at "ck"
      exact hn _ ⟨_, _, _, rfl, ht.skip hd rfl⟩
    | add a f =>
      walk_at "ck"
      exact hn _ ⟨_, _, _, rfl, ht.skip hd rfl⟩
  obtain ⟨x9, x11, tab, rfl, ht⟩ := hI
  rw [List.length_range] at ht
  have htl := ht.len
  have hnd := asc_nodup ht.keyAsc
  walk_at "ck"
  rw [List.length_map]
  refine ⟨by omega, ?_⟩
  rw [show ((L'.length : Int)).toNat = L'.length from Int.toNat_natCast _, rng0]
  have hp : ∀ k z, L'[k]? = some z → ((tab.any fun p => decide (L'.getD k 0 ∈ p.2)) = true ↔ ∃ i, Carr c l z i) := fun k z hz => by
    rw [List.getD_eq_getElem?_getD, hz, List.any_eq_true]
    constructor
    · rintro ⟨x, hx, hq⟩
      obtain ⟨i, _, hc⟩ := ht.ok x hx
      exact ⟨i, (hc.mem z).mp (of_decide_eq_true hq)⟩
    · rintro ⟨i, a, s, h1, h2, h3⟩
      obtain ⟨ns3, h4, h5⟩ := ht.get h1
      exact ⟨_, h4, decide_eq_true ((h5.mem z).mpr ⟨a, s, h1, h2, h3⟩)⟩
  refine lc_filter natD (fun k => tab.any fun p => decide (L'.getD k 0 ∈ p.2)) (fun k => .str (kdN k)) (List.range L'.length) [] (by rw [List.length_range]; show L'.length + 0 ≤ _; omega) (fun k hk kk k0 hb => ?_) ?_
  · have hk := List.mem_range.mp hk
    have hz : L'[k]? = some (L'.getD k 0) := by rw [List.getD_eq_getElem?_getD, List.getElem?_eq_getElem hk]; rfl
    walk_at "ck"
    refine ⟨show 11 < 21 by decide, ?_⟩
    walk_at "ck"
    refine ⟨L', (k : Int), L'.getD k 0, tab, rfl, hnd, by omega, rfl, rfl, atI_nat hz, ?_⟩
    walk_at "ck"
    generalize (tab.any fun p => decide (L'.getD k 0 ∈ p.2)) = bb at hb ⊢
    cases bb with
    | false => exact br_F hb.f
    | true =>
      refine br_T ?_
      walk_at "ck"
      refine ⟨.str (kdN k), atI_nat (by rw [List.getElem?_map, kdN_at (by omega)]; rfl), ?_⟩
      exact hb.t
  have hdk : ∀ {r : Fill} {st2 : List Cell} {M2 : Int}, RunOk (mkC c L') (mkL l L') kinds10 N M2 st2 → FillOk r → (∀ k, val r k = dsum (st2.zip (mkL l L')) k) → r.map (·.1) = ((List.range L'.length).filter fun k => tab.any fun p => decide (L'.getD k 0 ∈ p.2)).map kdN := fun run2 hr2 hv => drawn_kinds m.cell (fun d hd => (m.ok d hd).1) hL ten run2 (fun z f h => mkF_ok h) hr2 hv hp
  rw [show (([] : List PD) ++ ((List.range L'.length).filter fun k => tab.any fun p => decide (L'.getD k 0 ∈ p.2)).map fun k => PyData.str (kdN k)) = (((List.range L'.length).filter fun k => tab.any fun p => decide (L'.getD k 0 ∈ p.2)).map kdN).map PyData.str by rw [List.nil_append, List.map_map]; rfl]
  generalize ((List.range L'.length).filter fun k => tab.any fun p => decide (L'.getD k 0 ∈ p.2)).map kdN = SM at hdk ⊢
  walk_at "ck"
  refine ⟨mkC c L', mkL l L', kinds10, N, _, rfl, rp, fun st2 r run2 hr2 hv => ?_⟩
  have hkn := hdk run2 hr2 hv
  walk_at "ck"
  refine lc_map entD (fun e => .str e.1) r [] (by have := hr2.len; show r.length + 0 ≤ _; omega) (fun e he k k0 hb => ?_) ?_
  · walk_at "ck"
    exact hb
  rw [show (([] : List PD) ++ r.map fun e => PyData.str e.1) = SM.map PyData.str by rw [← hkn, List.nil_append, List.map_map]; rfl]
  have hSM : ∀ x, x ∈ SM → KindOk x := fun x hx => by
    rw [← hkn] at hx
    obtain ⟨e, he, rfl⟩ := List.mem_map.mp hx
    exact (hr2.ent e he).kind
  walk_at "ck"
  refine r_neStrs hSM hSM ?_
  walk_at "ck"
  rw [List.length_map]
  refine ⟨by omega, ?_⟩
  rw [show ((L'.length : Int)).toNat = L'.length from Int.toNat_natCast _, rng0]
  obtain ⟨c1, e1, ok1, hl1⟩ := run_at run (u := l.length) (Nat.le_refl _)
  refine for_map natD (fun j ρ => ∃ x9 x11 x13 x14 x15 x16 x17 x18 x19, ρ = [.unk, .own dk2, .dat (cellD c), .dat (storyT l), .dat (.list (L'.map .int)), .dat (cellD (mkC c L')), .dat (storyL (mkL l L')), .dat (.list (st.map cellD)), .dat (.list (kinds10.map .str)), x9, .dic (tabD tab), x11, .dat (.list (SM.map .str)), x13, x14, x15, x16, x17, x18, x19, .unk]) (List.range L'.length) ⟨_, _, _, _, _, _, _, _, _, rfl⟩ (fun j x ρ nx' hj hI hn => ?_) (fun ρ hI => ?_)
  · obtain ⟨x9, x11, x13, x14, x15, x16, x17, x18, x19, rfl⟩ := hI
    obtain ⟨hj1, hj2⟩ := List.getElem?_eq_some_iff.mp hj
    rw [List.getElem_range] at hj2
    subst hj2
    rw [List.length_range] at hj1
    obtain ⟨z, hz⟩ := get_ex (xs := L') (i := j) hj1
    have hzm := List.mem_of_getElem? hz
    have hzl : IsLot c l z := (hL.mem z).mp hzm
    have haz := atI_L hz
    have hak := atI_kd hL.asc ten hz
    have hdt := due_touch m.cell (fun d hd => (m.ok d hd).1) hL ten run hzm e1
    have hDl : (((List.range c.length).filter fun a => decide (0 < (amt (c1.getD a []) (kd L' z)).1)).map fun a : Nat => (a : Int)).length ≤ 8 := by
      rw [List.length_map]
      refine Nat.le_trans (List.length_filter_le _ _) ?_
      rw [List.length_range]
      exact hc8
    walk_at "ck"
    rw [List.length_map]
    refine ⟨by omega, ?_⟩
    rw [show ((c.length : Int)).toNat = c.length from Int.toNat_natCast _, rng0]
    refine lc_filter natD (fun a => decide (0 < (amt (c1.getD a []) (kd L' z)).1)) natD (List.range c.length) [] (by rw [List.length_range]; show c.length + 0 ≤ _; omega) (fun a ha k k0 hb => ?_) ?_
    · have ha := List.mem_range.mp ha
      walk_at "ck"
      refine ⟨cellD c1, atI_last (n := l.length) (by rw [List.getElem?_map, e1]; rfl) (by rw [List.length_map, run.len, mkL_len]), ?_⟩
      walk_at "ck"
      refine ⟨_, atI_c (by rw [hl1]; exact ha), ?_⟩
      walk_at "ck"
      refine ⟨_, hak, ?_⟩
      walk_at "ck"
      refine ⟨_, _, rfl, ?_⟩
      walk_at "ck"
      exact hb
    rw [show (([] : List PD) ++ ((List.range c.length).filter fun a => decide (0 < (amt (c1.getD a []) (kd L' z)).1)).map natD) = (((List.range c.length).filter fun a => decide (0 < (amt (c1.getD a []) (kd L' z)).1)).map fun a : Nat => (a : Int)).map PyData.int by rw [List.nil_append, List.map_map]; rfl]
    generalize (((List.range c.length).filter fun a => decide (0 < (amt (c1.getD a []) (kd L' z)).1)).map fun a : Nat => (a : Int)) = D at hdt hDl ⊢
    obtain ⟨d1, d2⟩ := hdt
    have hDs : ∀ x, x ∈ D → x.natAbs < 10 ^ 6 := fun x hx => by
      obtain ⟨a, h1, h2, _⟩ := (d2 x).mp hx
      omega
    walk_at "ck"
    refine ⟨_, haz, ?_⟩
    walk_at "ck"
    refine ⟨c, l, L', z, rfl, pre, hzl, fun as h1 h2 => ?_⟩
    obtain rfl : as = D := asc_unique h1 d1 (fun x => (h2 x).trans (d2 x).symm)
    walk_at "ck"
    refine ⟨as, rfl, by omega, hDs, ?_⟩
    walk_at "ck"
    refine ⟨as, rfl, by omega, hDs, ?_⟩
    walk_at "ck"
    refine ⟨_, haz, ?_⟩
    walk_at "ck"
    refine ⟨mkC c L', mkL l L', L', z, rfl, m.lotPreM hL, isLot_mark.mpr hzl, fun as2 h3 h4 => ?_⟩
    simp only [mkC_len, mkL_len, reach_mark] at h4
    obtain rfl : as2 = as := asc_unique h3 d1 (fun x => (h4 x).trans (d2 x).symm)
    walk_at "ck"
    refine ⟨tab.map (·.1), tabD_keys tab, by rw [List.length_map]; omega, fun ys hpm hs => ?_⟩
    obtain rfl := sorted_keys ht.keyAsc hpm hs
    walk_at "ck"
    rw [List.map_map]
    refine lc_map (fun p : Int × List Int => PyData.int p.1) (fun p => lookD (p.1.toNat, decide (z ∈ p.2))) tab [] (by show tab.length + 0 ≤ _; omega) (fun p hpt k k0 hb => ?_) ?_
    · obtain ⟨i, hi, hcr⟩ := ht.ok p hpt
      obtain ⟨x, ns3⟩ := p
      have hi : x = (i : Int) := hi
      subst hi
      walk_at "ck"
      refine ⟨_, haz, ?_⟩
      walk_at "ck"
      refine ⟨.inl (i : Int), _, rfl, tab_val hnd hpt, ?_⟩
      walk_at "ck"
      exact hb
    rw [show (([] : List PD) ++ tab.map fun p => lookD (p.1.toNat, decide (z ∈ p.2))) = (tab.map fun p => (p.1.toNat, decide (z ∈ p.2))).map lookD by rw [List.nil_append, List.map_map]; rfl]
    have hts : ∀ q, q ∈ (tab.map fun p => (p.1.toNat, decide (z ∈ p.2))) → ∃ (i : Nat) (ns3 : List Int), q.1 = i ∧ ((i : Int), ns3) ∈ tab := fun q hq => by
      obtain ⟨p, hpt, rfl⟩ := List.mem_map.mp hq
      obtain ⟨i, hi, hcr⟩ := ht.ok p hpt
      refine ⟨i, p.2, ?_, ?_⟩
      · show p.1.toNat = i
        omega
      · rw [← hi]
        exact hpt
    have htsl : (tab.map fun p => (p.1.toNat, decide (z ∈ p.2))).length ≤ 24 := by rw [List.length_map]; omega
    generalize (tab.map fun p => (p.1.toNat, decide (z ∈ p.2))) = ts at hts htsl ⊢
    walk_at "ck"
    refine lc_filter PyData.int (fun y => ts.all fun q => tellF tab q.1 y == q.2) PyData.int L' [] (by show L'.length + 0 ≤ _; omega) (fun y hy k k0 hb => ?_) ?_
    · walk_at "ck"
      refine lc_map lookD (fun q => .bool (tellF tab q.1 y == q.2)) ts [] (by show ts.length + 0 ≤ _; omega) (fun q hq k2 k3 hb2 => ?_) ?_
      · obtain ⟨i, ns3, hi, hpt⟩ := hts q hq
        obtain ⟨q1, q2⟩ := q
        have hi : q1 = i := hi
        subst hi
        rw [tellF_at hnd hpt] at hb2
        walk_at "ck"
        refine ⟨.inl (q1 : Int), _, rfl, tab_val hnd hpt, ?_⟩
        walk_at "ck"
        have e : decide (decide (y ∈ ns3) = q2) = (decide (y ∈ ns3) == q2) := by
          cases decide (y ∈ ns3) <;> cases q2 <;> rfl
        rw [e]
        exact hb2
      walk_at "ck"
      refine ⟨ts.map fun q => tellF tab q.1 y == q.2, by rw [List.nil_append, List.map_map]; rfl, ?_⟩
      rw [List.all_map]
      exact hb
    have hlooks : Looks l ts := fun q hq => by
      obtain ⟨i, ns3, hi, hpt⟩ := hts q hq
      obtain ⟨i', e, _, h⟩ := tab_keys_lt ht (List.mem_map.mpr ⟨_, hpt, rfl⟩)
      have e : (i : Int) = (i' : Int) := e
      rw [hi, show i = i' by omega]
      exact h
    have hfit : (fitL (tellF tab) ts L').length ≤ 10 := Nat.le_trans (List.length_filter_le _ _) ten
    have hfs : ∀ x, x ∈ fitL (tellF tab) ts L' → x.natAbs < 10 ^ 6 := fun x hx => hsm x (List.mem_filter.mp hx).1
    rw [show (([] : List PD) ++ (L'.filter fun y => ts.all fun q => tellF tab q.1 y == q.2).map PyData.int) = (fitL (tellF tab) ts L').map PyData.int from List.nil_append _]
    walk_at "ck"
    refine ⟨c, l, L', ts, tellF tab, rfl, pre, hlooks, by omega, tells_of ht, ?_⟩
    walk_at "ck"
    refine ⟨fitL (tellF tab) ts L', rfl, by omega, hfs, ?_⟩
    walk_at "ck"
    refine ⟨fitL (tellF tab) ts L', rfl, by omega, hfs, ?_⟩
    walk_at "ck"
    exact hn _ ⟨_, _, _, _, _, _, _, _, _, rfl⟩
  · obtain ⟨x9, x11, x13, x14, x15, x16, x17, x18, x19, rfl⟩ := hI
    walk_at "ck"
    rfl
end
end CK
set_option Elab.async false
set_option linter.all false
set_option maxRecDepth 100000
set_option maxHeartbeats 4000000
namespace CK
open PySem PySem.Spec PyProof.Rows L2
open Evl (Ex ex_l ex_t fresh_back)
open C8 (Cal pe_c)
section
variable {P : Program} {w : World} {K : PySem.W.Frag} {mg : Str → Option Value} {base : Heap}
theorem rho_law (ns : List Int) (mm : Int) : ([.unk, .own [.list (ns.map .int), .int 0, .int 0, .int mm, .int 1], .unk, .unk, .unk, .unk, .unk, .unk, .unk, .unk, .unk, .unk, .unk, .unk, .unk, .unk, .unk, .unk, .unk, .unk, .unk] : Rho) = .unk :: .own [.list (ns.map .int), .int 0, .int 0, .int mm, .int 1] :: List.replicate 19 .unk := rfl
theorem fn_law (T : Txt K mg) (c__law_deck : Cal P w K mg base 1 "_law_deck" (spDeck K) []) (c__law_amount_of : Cal P w K mg base 1 "_law_amount_of" (spF w__law_amount_of) []) (c__law_cellar : Cal P w K mg base 4 "_law_cellar" (spK w__law_cellar) []) (c__law_draw_right : CalG P w K mg base 9 "_law_draw_right" (spF w__law_draw_right)) (c__law_lots : Cal P w K mg base 1 "_law_lots" (spF w__law_lots) []) (c__law_marked : Cal P w K mg base 1 "_law_marked" (spF w__law_marked) []) (c__law_story : Cal P w K mg base 5 "_law_story" (spK w__law_story) []) (c_drawn : Cal P w K mg base 11 "drawn" (spF w_drawn) []) (c_lots : Cal P w K mg base 7 "lots" (spF w_lots) []) (c_run : Cal P w K mg base 9 "run" (spF w_run) []) (c_suspects : Cal P w K mg base 7 "suspects" (spF w_suspects) []) (c_touched : Cal P w K mg base 7 "touched" (spF w_touched) []) {f : Addr} {fd : FuncData} (F : FnD K "law" (top 86) f fd) : FnG P w K mg base 12 f fd ["_law_script"] (spLaw K) := by
  have nd : N_law.Nodup := sc_law.nd
  refine fnG_of F sc_law (fun vs H Q E h => ?_) (fun cdv A outer s H vs Q E hgu hr h => ?_)
  · obtain ⟨a, ns, rfl, _⟩ := h
    rfl
  · obtain ⟨a, ns, rfl, hS, hl, hq⟩ := h
    obtain ⟨t, ht, hw⟩ := law_walk T c__law_amount_of c__law_cellar c__law_draw_right c__law_lots c__law_marked c__law_story c_drawn c_lots c_run c_suspects c_touched (cdv := cdv) (f := f) (A := A) (outer := outer) (s := s) (H := H) (E := E) hgu hr
    refine ⟨_, PSs.nox (pss_cons (ps_set (i := 1) nd rfl (.inl rfl) (pe_c c__law_deck hr (by decide) rfl (pa_cons (pv 0) pa_nil))) ht), ?_⟩
    refine ⟨.ref a, rfl, a, ns, rfl, hS, by omega, fun p q m H' h0 h1 hp hq' hne e1 e2 hex => ?_⟩
    have hS1 : upd (fun _ => none) q (HO.lst (ns.map V.int)) p = none := by rw [upd_ne hne]
    refine ⟨⟨fun _ => none, H, none⟩, _, upd (fun _ => none) q (.lst (ns.map V.int)), _, ⟨rfl, fun i => ?_, fun i j b hij oi oj _ _ => ?_, ⟨fun b o e _ => hex b o e, fun b o e => (nomatch e), fun b o e => ?_, fun b o e => ?_, fun b e => (nomatch e)⟩⟩, hw ns m h0 h1, fun _ _ _ _ _ _ h => h.elim, fun _ _ _ _ _ _ h => h.elim, fun _ _ _ _ _ _ h => h.elim, fun v e σ' H2 ρ' S' E' ex hv he => ?_⟩
    · rw [rho_law]
      match i with
      | 0 => exact True.intro
      | 1 => exact ⟨p, _, rfl, hS1, e1, .cons (.lst upd_same (DVs.ints ns)) (.cons (.int 0) (.cons (.int 0) (.cons (.int m) (.cons (.int 1) .nil)))), hp, fun z => nomatch z⟩
      | i + 2 =>
        show EnAt _ _ _ _ (rget (List.replicate 19 .unk) i)
        rw [rget_rep]
        exact True.intro
    · rw [rho_law] at oi oj
      have key : ∀ i, (rget (.unk :: .own [.list (ns.map .int), .int 0, .int 0, .int m, .int 1] :: List.replicate 19 .unk) i).ow = true → i = 1 := fun i h => by
        match i with
        | 0 => cases h
        | 1 => rfl
        | i + 2 =>
          have h : (rget (List.replicate 19 .unk) i).ow = true := h
          rw [rget_rep] at h
          cases h
      exact hij ((key i oi).trans (key j oj).symm)
    · by_cases z : b = q
      · subst z
        rw [upd_same] at e
        cases e
        exact e2
      · rw [upd_ne z] at e
        cases e
    · by_cases z : b = q
      · subst z
        exact .inr hq'
      · rw [upd_ne z] at e
        cases e
    · have he : e = .dat (.bool true) := he
      subst he
      obtain ⟨x, h2, h3⟩ := hv
      cases h2
      cases h3
      exact hq H2
theorem law_all (T : Txt K mg) {f : Addr} {fd : FuncData} (F : FnD K "law" (top 86) f fd) : FnG P w K mg base 12 f fd ["_law_script"] (spLaw K) := by
  have c__law_amount_of : Cal P w K mg base 1 "_law_amount_of" (spF w__law_amount_of) [] := ok__law_amount_of T
  have c__law_draw : Cal P w K mg base 1 "_law_draw" (spK w__law_draw) [] := ok__law_draw T
  have c__law_fraction : Cal P w K mg base 1 "_law_fraction" (spF w__law_fraction) [] := ok__law_fraction T
  have c__law_amount : Cal P w K mg base 2 "_law_amount" (spK w__law_amount) [] := ok__law_amount T c__law_draw c__law_fraction
  have c__law_kind : Cal P w K mg base 2 "_law_kind" (spK w__law_kind) [] := ok__law_kind T c__law_draw
  have c__law_fill : Cal P w K mg base 3 "_law_fill" (spK w__law_fill) [] := ok__law_fill T c__law_amount c__law_draw c__law_kind
  have c__law_cellar : Cal P w K mg base 4 "_law_cellar" (spK w__law_cellar) [] := ok__law_cellar T c__law_draw c__law_fill
  have c__law_kept : Cal P w K mg base 1 "_law_kept" (spF w__law_kept) [] := ok__law_kept T
  have c__law_road_right : Cal P w K mg base 2 "_law_road_right" (spF w__law_road_right) [] := ok__law_road_right T c__law_amount_of c__law_kept
  have c_emptied : Cal P w K mg base 1 "emptied" (spF w_emptied) [] := ok_emptied T
  have c_ways_over : Cal P w K mg base 1 "ways_over" (spF w_ways_over) [] := ok_ways_over T
  have c_lots_ahead : Cal P w K mg base 2 "lots_ahead" (spF w_lots_ahead) [] := ok_lots_ahead T c_emptied c_ways_over
  have c_carried_lots : Cal P w K mg base 3 "carried_lots" (spC w_carried_lots) [] := ok_carried_lots T c_lots_ahead
  have c_is_integer : Cal P w K mg base 1 "is_integer" (spF w_is_integer) [] := ok_is_integer T
  have c_is_fraction : Cal P w K mg base 2 "is_fraction" (spF w_is_fraction) [] := ok_is_fraction T c_is_integer
  have c_is_kind : Cal P w K mg base 1 "is_kind" (spF w_is_kind) [] := ok_is_kind T
  have c_is_fill : Cal P w K mg base 3 "is_fill" (spF w_is_fill) [] := ok_is_fill T c_is_fraction c_is_kind
  have c_is_cellar : Cal P w K mg base 4 "is_cellar" (spF w_is_cellar) [] := ok_is_cellar T c_is_fill
  have c_need_cellar : Cal P w K mg base 5 "need_cellar" (spF w_need_cellar) [] := ok_need_cellar T c_is_cellar
  have c_is_draw : Cal P w K mg base 2 "is_draw" (spF w_is_draw) [] := ok_is_draw T c_is_integer
  have c_need_draw : Cal P w K mg base 3 "need_draw" (spF w_need_draw) [] := ok_need_draw T c_is_draw
  have c_casks_of : Cal P w K mg base 1 "casks_of" (spF w_casks_of) [] := ok_casks_of T
  have c_is_place : Cal P w K mg base 2 "is_place" (spF w_is_place) [] := ok_is_place T c_is_integer
  have c_is_share : Cal P w K mg base 3 "is_share" (spF w_is_share) [] := ok_is_share T c_is_fraction
  have c_is_deed : Cal P w K mg base 4 "is_deed" (spF w_is_deed) [] := ok_is_deed T c_is_fill c_is_place c_is_share
  have c_is_deed_of : Cal P w K mg base 5 "is_deed_of" (spF w_is_deed_of) [] := ok_is_deed_of T c_casks_of c_is_deed
  have c_need_story : Cal P w K mg base 6 "need_story" (spF w_need_story) [] := ok_need_story T c_is_deed_of
  have c_carried : Cal P w K mg base 7 "carried" (spF w_carried) [] := ok_carried T c_carried_lots c_need_cellar c_need_draw c_need_story
  have c_every_lot : Cal P w K mg base 1 "every_lot" (spF w_every_lot) [] := ok_every_lot T
  have c_need_lot : Cal P w K mg base 2 "need_lot" (spF w_need_lot) [] := ok_need_lot T c_every_lot c_is_integer
  have c_need_road : Cal P w K mg base 7 "need_road" (spF w_need_road) [] := ok_need_road T c_need_cellar c_need_draw c_need_lot c_need_story
  have c_shortest_roads : Cal P w K mg base 2 "shortest_roads" (spF w_shortest_roads) [] := ok_shortest_roads T c_emptied c_ways_over
  have c_road : Cal P w K mg base 8 "road" (spF w_road) [] := ok_road T c_need_road c_shortest_roads
  have c_is_ascending : Cal P w K mg base 2 "is_ascending" (spF w_is_ascending) [] := ok_is_ascending T c_is_integer
  have c_road_holds : Cal P w K mg base 8 "road_holds" (spF w_road_holds) [] := ok_road_holds T c_emptied c_is_ascending c_need_road c_ways_over
  have c__law_draw_right : CalG P w K mg base 9 "_law_draw_right" (spF w__law_draw_right) := ok__law_draw_right T c__law_amount_of c__law_road_right c_carried c_road c_road_holds
  have c__law_lots : Cal P w K mg base 1 "_law_lots" (spF w__law_lots) [] := ok__law_lots T
  have c__law_marked : Cal P w K mg base 1 "_law_marked" (spF w__law_marked) [] := ok__law_marked T
  have c__law_share : Cal P w K mg base 2 "_law_share" (spK w__law_share) [] := ok__law_share T c__law_draw c__law_fraction
  have c__law_deed : Cal P w K mg base 4 "_law_deed" (spK w__law_deed) [] := ok__law_deed T c__law_draw c__law_fill c__law_share
  have c__law_story : Cal P w K mg base 5 "_law_story" (spK w__law_story) [] := ok__law_story T c__law_deed c__law_draw
  have c_need_fill : Cal P w K mg base 4 "need_fill" (spF w_need_fill) [] := ok_need_fill T c_is_fill
  have c_need_share : Cal P w K mg base 4 "need_share" (spF w_need_share) [] := ok_need_share T c_is_share
  have c_fraction : Cal P w K mg base 1 "fraction" (spF w_fraction) [] := ok_fraction T
  have c_need_fraction : Cal P w K mg base 3 "need_fraction" (spF w_need_fraction) [] := ok_need_fraction T c_is_fraction
  have c_times : Cal P w K mg base 4 "times" (spF w_times) [] := ok_times T c_fraction c_need_fraction
  have c_part : Cal P w K mg base 5 "part" (spF w_part) [] := ok_part T c_need_fill c_need_share c_times
  have c_need_kind : Cal P w K mg base 2 "need_kind" (spF w_need_kind) [] := ok_need_kind T c_is_kind
  have c_amount : Cal P w K mg base 5 "amount" (spF w_amount) [] := ok_amount T c_need_fill c_need_kind
  have c_compared : Cal P w K mg base 4 "compared" (spF w_compared) [] := ok_compared T c_need_fraction
  have c_less : Cal P w K mg base 4 "less" (spF w_less) [] := ok_less T c_fraction c_need_fraction
  have c_rest : Cal P w K mg base 6 "rest" (spF w_rest) [] := ok_rest T c_amount c_compared c_less c_need_fill
  have c_gone_by : Cal P w K mg base 7 "gone_by" (spF w_gone_by) [] := ok_gone_by T c_part c_rest
  have c_need_deed_of : Cal P w K mg base 6 "need_deed_of" (spF w_need_deed_of) [] := ok_need_deed_of T c_is_deed_of
  have c_plus : Cal P w K mg base 4 "plus" (spF w_plus) [] := ok_plus T c_fraction c_need_fraction
  have c_together : Cal P w K mg base 5 "together" (spF w_together) [] := ok_together T c_need_fill c_plus
  have c_done : Cal P w K mg base 8 "done" (spF w_done) [] := ok_done T c_gone_by c_need_cellar c_need_deed_of c_part c_rest c_together
  have c_run : Cal P w K mg base 9 "run" (spF w_run) [] := ok_run T c_done c_need_cellar c_need_deed_of
  have c_gone_in : Cal P w K mg base 10 "gone_in" (spF w_gone_in) [] := ok_gone_in T c_gone_by c_run c_together
  have c_drawn : Cal P w K mg base 11 "drawn" (spF w_drawn) [] := ok_drawn T c_gone_in
  have c_lots : Cal P w K mg base 7 "lots" (spF w_lots) [] := ok_lots T c_every_lot c_need_cellar c_need_story
  have c_fitting_lots : Cal P w K mg base 4 "fitting_lots" (spF w_fitting_lots) [] := ok_fitting_lots T c_carried_lots c_every_lot
  have c_is_look : Cal P w K mg base 3 "is_look" (spF w_is_look) [] := ok_is_look T c_is_draw
  have c_need_told : Cal P w K mg base 4 "need_told" (spF w_need_told) [] := ok_need_told T c_is_look
  have c_suspects : Cal P w K mg base 7 "suspects" (spF w_suspects) [] := ok_suspects T c_fitting_lots c_need_cellar c_need_story c_need_told
  have c_touched : Cal P w K mg base 7 "touched" (spF w_touched) [] := ok_touched T c_lots_ahead c_need_cellar c_need_lot c_need_story
  have c__law_deck : Cal P w K mg base 1 "_law_deck" (spDeck K) [] := ok__law_deck T
  exact fn_law T c__law_deck c__law_amount_of c__law_cellar c__law_draw_right c__law_lots c__law_marked c__law_story c_drawn c_lots c_run c_suspects c_touched F
end
end CK
set_option Elab.async false
set_option linter.all false
set_option maxRecDepth 100000
set_option maxHeartbeats 0
namespace CK
open PySem PySem.Spec PyProof.Rows L2
theorem fnX_eq : fnX = defsT.map fun p => mkDe p.1 p.2 := rfl
theorem faX_eq : faX = (defsT.map fun p => He.Fa.glo p.1) ++ faX.drop 68 := rfl
section
variable {K : PySem.W.Frag} {h : Heap} {mg : Str → Option Value}
theorem fn_at (c : SaysX faX fnX K) {i : Nat} {p : Str × Nat} (hi : defsT[i]? = some p) : ∃ fd, FnD K p.1 (top p.2) (He.ga K p.1) fd := by
  have e : fnX[i]? = some (mkDe p.1 p.2) := by rw [fnX_eq, List.getElem?_map, hi]; rfl
  exact c.d.def_ i e
theorem glo_at (X : K.In h) (G : h.Ns mainGlobals mg) (c : SaysX faX fnX K) {i : Nat} {p : Str × Nat} (hi : defsT[i]? = some p) : mg p.1 = some (.ref (He.ga K p.1)) := by
  have hl := (List.getElem?_eq_some_iff.mp hi).1
  have e : faX[i]? = some (.glo p.1) := by rw [faX_eq, List.getElem?_append_left (by rw [List.length_map]; exact hl), List.getElem?_map, hi]; rfl
  exact He.glo_ok X G (c.d.fact i e)
theorem txt_of (X : K.In h) (G : h.Ns mainGlobals mg) (c : SaysX faX fnX K) : Txt K mg where
  fn := fun i p hi => by
    obtain ⟨fd, F⟩ := fn_at c hi
    exact ⟨_, fd, F, glo_at X G c hi⟩
  gcd_ := c.gcd X G
  isinstance_ := He.free_ok X G (c.d.fact 68 (f := .free "isinstance") rfl)
  bool_ := He.free_ok X G (c.d.fact 69 (f := .free "bool") rfl)
  int_ := He.free_ok X G (c.d.fact 70 (f := .free "int") rfl)
  len_ := He.free_ok X G (c.d.fact 71 (f := .free "len") rfl)
  all_ := He.free_ok X G (c.d.fact 72 (f := .free "all") rfl)
  list_ := He.free_ok X G (c.d.fact 73 (f := .free "list") rfl)
  tuple_ := He.free_ok X G (c.d.fact 74 (f := .free "tuple") rfl)
  zip_ := He.free_ok X G (c.d.fact 75 (f := .free "zip") rfl)
  sorted_ := He.free_ok X G (c.d.fact 76 (f := .free "sorted") rfl)
  enumerate_ := He.free_ok X G (c.d.fact 77 (f := .free "enumerate") rfl)
  max_ := He.free_ok X G (c.d.fact 78 (f := .free "max") rfl)
  min_ := He.free_ok X G (c.d.fact 79 (f := .free "min") rfl)
  range_ := He.free_ok X G (c.d.fact 80 (f := .free "range") rfl)
  repr_ := He.free_ok X G (c.d.fact 81 (f := .free "repr") rfl)
  abs_ := He.free_ok X G (c.d.fact 82 (f := .free "abs") rfl)
  set_ := He.free_ok X G (c.d.fact 83 (f := .free "set") rfl)
  str_ := He.free_ok X G (c.d.fact 84 (f := .free "str") rfl)
  any_ := He.free_ok X G (c.d.fact 85 (f := .free "any") rfl)
theorem facts {P : Program} {w : World} {fa : Addr} (X : K.In h) (G : h.Ns mainGlobals mg) (hfa : mg ("law" : Str) = some (.ref fa)) (c : SaysX faX fnX K) :
    ∃ fd : FuncData, (∀ (s : Shared) (v : Value), BindsTo s fd ⟨[v], []⟩ [("_law_script", v)]) ∧ ∀ base : Heap, K.In base → base.Ns mainGlobals mg → FnG P w K mg base 12 fa fd ["_law_script"] (spLaw K) := by
  obtain ⟨fd, F⟩ := fn_at c (i := 67) (p := ("law", 86)) rfl
  have e := hfa.symm.trans (glo_at X G c (i := 67) (p := ("law", 86)) rfl)
  cases e
  have b := FunD.bindsA (ps := ["_law_script"]) F fun _ _ _ _ _ _ us hl => match us, hl with | [_], _ => rfl
  exact ⟨fd, fun s v => b s [v] rfl, fun base _ _ => law_all (txt_of X G c) F⟩
end
end CK
open PySem PySem.W PySem.Calls PyProof.Rows
theorem PySem.Challenge.cw_caskyears_k87_whole_lots_are_where_their_holds : PySem.Challenge.rw_caskyears_k87_whole_lots_are_where_their.Holds := by
  refine CK.start_law ?_
  refine HandSHeadRun.head_imp (r := OpenLaw.row PySem.Challenge.rw_caskyears_k87_whole_lots_are_where_their) (q := CK.viewX) (H := CK.hk) (ob := CK.ob) (M := 6000) (loose := CK.loose) (d := CK.lawD) (kwd := []) CK.ob_eq CK.run_top
    CK.end_def CK.end_the CK.end_kw rfl CK.end_said CK.end_ok CK.end_bare CK.end_some ?_
  refine CK.walk_ofG (l := PySem.Challenge.rw_caskyears_k87_whole_lots_are_where_their) (n := 63) (k := 12) (x := "_law_script") rfl (by decide) CK.end_dfl ⟨rfl, by decide, by decide⟩ ?_
  intro w mg f h Y G named
  obtain ⟨K, X, c⟩ := Y
  rw [CK.end_name] at named
  obtain ⟨fd, hb, hF⟩ := CK.facts (P := (PySem.Challenge.rw_caskyears_k87_whole_lots_are_where_their).prog) (w := w) X G named c
  exact ⟨K, fd, CK.spLaw K, X, hb, fun H a ns hl hS => ⟨a, ns, rfl, hS, hl, fun _ => rfl⟩, hF⟩
