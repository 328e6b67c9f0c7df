import PyProof.Rows.All
import Wide.All
import OpenK.AllK
import Wide.FinOn
import HandS.ForMost
import HandS.Walk
import HandS.Evl
import HandS.Deep
import HandS.IsInst
import HandS.TupAny
import HandS.TupLe
import HandS.TupSets
import HandS.SortInts
import HandS.NoneIn
import HandS.WideBits
import HandS.Wide
import HandS.Conv
import HandS.SetFor
import HandS.Strs
import PyProof.ReprRoads
import PyProof.ReprBulk
import PyProof.CallFns
import PySem.Challenge.RW_keyroads_k20_whole_exact_counts
import HandS.Ends
set_option Elab.async false
set_option linter.all false
set_option maxRecDepth 100000
set_option maxHeartbeats 4000000
/-! KR: judgements over data; the heap is kept out of sight. -/
namespace KR
open PySem L2

/-! ### data in the heap -/
mutual
inductive Dq (H : Hp) : V → PyData → Prop
  | non : Dq H .non .none
  | bl (b : Bool) : Dq H (.bl b) (.bool b)
  | int (i : Int) : Dq H (.int i) (.int i)
  | str (x : Str) : Dq H (.str x) (.str x)
  | lst {a : Addr} {xs : List V} {ds : List PyData} : H a = some (.lst xs) → DqAll H xs ds → Dq H (.ref a) (.list ds)
  | tup {a : Addr} {xs : List V} {ds : List PyData} : H a = some (.tup xs) → DqAll H xs ds → Dq H (.ref a) (.tuple ds)
  /-- an object that does not change: only where it is -/
  | opq (a : Nat) : Dq H (.ref a) (.dict [(.int (a : Int), .none)])
  | fz {a : Nat} {o : Obj} {ns : List Int} : H a = some (.frz o (.lst (ns.map V.int))) → Dq H (.ref a) (.dict [(.int (a : Int), .list (ns.map PyData.int))])
inductive DqAll (H : Hp) : List V → List PyData → Prop
  | nil : DqAll H [] []
  | cons {v : V} {vs : List V} {d : PyData} {ds : List PyData} : Dq H v d → DqAll H vs ds → DqAll H (v :: vs) (d :: ds)
end

mutual
theorem Dq.mono {H H' : Hp} (e : Same H H') : ∀ (d : PyData) (v : V), Dq H v d → Dq H' v d
  | .none, _, h => by cases h; exact .non
  | .bool b, _, h => by cases h; exact .bl b
  | .int i, _, h => by cases h; exact .int i
  | .str x, _, h => by cases h; exact .str x
  | .list ds, _, h => by
    cases h with
    | lst h1 h2 => exact .lst (e _ _ h1) (DqAll.mono e ds _ h2)
  | .tuple ds, _, h => by
    cases h with
    | tup h1 h2 => exact .tup (e _ _ h1) (DqAll.mono e ds _ h2)
  | .dict _, _, h => by cases h with
    | opq a => exact .opq a
    | fz h => exact .fz (e _ _ h)
theorem DqAll.mono {H H' : Hp} (e : Same H H') : ∀ (ds : List PyData) (vs : List V), DqAll H vs ds → DqAll H' vs ds
  | [], _, h => by cases h; exact .nil
  | d :: ds, _, h => by
    cases h with
    | cons h1 h2 => exact .cons (Dq.mono e d _ h1) (DqAll.mono e ds _ h2)
end
mutual
theorem Dq.dp {K : PySem.W.Frag} {H : Hp} : ∀ (d : PyData) (v : V), d.canLay0 = true → Dq H v d → Dp K H v d
  | .none, _, _, h => by cases h; exact .non
  | .bool b, _, _, h => by cases h; exact .bl b
  | .int i, _, _, h => by cases h; exact .int i
  | .str x, _, _, h => by cases h; exact .str x
  | .list ds, _, c, h => by
    rw [PyData.canLay0] at c
    cases h with
    | lst h1 h2 => exact .lst (SqL.of h1) (DqAll.dp ds _ c h2)
  | .tuple ds, _, c, h => by
    rw [PyData.canLay0] at c
    cases h with
    | tup h1 h2 => exact .tup (SqT.of h1) (DqAll.dp ds _ c h2)
  | .dict _, _, c, h => by
    rw [PyData.canLay0] at c
    cases c
theorem DqAll.dp {K : PySem.W.Frag} {H : Hp} : ∀ (ds : List PyData) (vs : List V), PyData.canLayAll0 ds = true → DqAll H vs ds → DpAll K H vs ds
  | [], _, _, h => by cases h; exact .nil
  | d :: ds, _, c, h => by
    rw [PyData.canLayAll0, Bool.and_eq_true] at c
    cases h with
    | cons h1 h2 => exact .cons (Dq.dp d _ c.1 h1) (DqAll.dp ds _ c.2 h2)
end
theorem lay_of {d : PyData} (h : SeqAt.shaped d = true) : d.canLay0 = true := by
  unfold SeqAt.shaped at h
  exact (Bool.and_eq_true_iff.mp h).1
theorem Dq.up {H H' : Hp} {d : PyData} {v : V} (h : Dq H v d) (e : Same H H') : Dq H' v d := Dq.mono e d v h
theorem DqAll.up {H H' : Hp} {ds : List PyData} {vs : List V} (h : DqAll H vs ds) (e : Same H H') : DqAll H' vs ds := DqAll.mono e ds vs h
theorem DqAll.len {H : Hp} : ∀ {ds : List PyData} {vs : List V}, DqAll H vs ds → vs.length = ds.length
  | [], _, h => by cases h; rfl
  | d :: ds, _, h => by
    cases h with
    | cons _ h2 => exact congrArg (· + 1) h2.len
theorem DqAll.app {H : Hp} : ∀ {ds es : List PyData} {vs us : List V}, DqAll H vs ds → DqAll H us es → DqAll H (vs ++ us) (ds ++ es)
  | [], _, _, _, h, k => by cases h; exact k
  | d :: ds, _, _, _, h, k => by
    cases h with
    | cons h1 h2 => exact .cons h1 (h2.app k)
theorem DqAll.get {H : Hp} : ∀ {ds : List PyData} {vs : List V} {i : Nat} {d : PyData}, DqAll H vs ds → ds[i]? = some d → ∃ v, vs[i]? = some v ∧ Dq H v d
  | [], _, _, _, _, e => by simp at e
  | d :: ds, _, 0, _, h, e => by
    cases h with
    | cons h1 h2 => simp at e; subst e; exact ⟨_, rfl, h1⟩
  | d :: ds, _, i + 1, _, h, e => by
    cases h with
    | cons h1 h2 =>
      obtain ⟨v, e1, q⟩ := h2.get (i := i) (by simpa using e)
      exact ⟨v, by simpa using e1, q⟩
theorem DqAll.getV {H : Hp} {ds : List PyData} {vs : List V} {i : Nat} {v : V} (h : DqAll H vs ds) (e : vs[i]? = some v) : ∃ d, ds[i]? = some d ∧ Dq H v d := by
  have hl := h.len
  have hi := (List.getElem?_eq_some_iff.mp e).1
  have hd : ds[i]? = some ds[i] := List.getElem?_eq_getElem (by omega)
  obtain ⟨u, e2, q⟩ := h.get hd
  rw [e] at e2; cases e2
  exact ⟨_, hd, q⟩
theorem DqAll.set {H : Hp} : ∀ {ds : List PyData} {vs : List V} {i : Nat} {d : PyData} {v : V}, DqAll H vs ds → Dq H v d → DqAll H (vs.set i v) (ds.set i d)
  | [], _, _, _, _, h, _ => by cases h; exact .nil
  | d :: ds, _, 0, _, _, h, q => by
    cases h with
    | cons h1 h2 => exact .cons q h2
  | d :: ds, _, i + 1, _, _, h, q => by
    cases h with
    | cons h1 h2 => exact .cons h1 (h2.set q)
theorem DqAll.drop {H : Hp} : ∀ {ds : List PyData} {vs : List V} (n : Nat), DqAll H vs ds → DqAll H (vs.drop n) (ds.drop n)
  | _, _, 0, h => h
  | [], _, n + 1, h => by cases h; exact .nil
  | d :: ds, _, n + 1, h => by
    cases h with
    | cons h1 h2 => exact h2.drop n
theorem DqAll.take {H : Hp} : ∀ {ds : List PyData} {vs : List V} (n : Nat), DqAll H vs ds → DqAll H (vs.take n) (ds.take n)
  | _, _, 0, h => .nil
  | [], _, n + 1, h => by cases h; exact .nil
  | d :: ds, _, n + 1, h => by
    cases h with
    | cons h1 h2 => exact .cons h1 (h2.take n)
/-- the values of a list of ints -/
theorem DqAll.ints {H : Hp} : ∀ {ns : List Int} {vs : List V}, DqAll H vs (ns.map PyData.int) → vs = ns.map V.int
  | [], _, h => by cases h; rfl
  | n :: ns, _, h => by
    cases h with
    | cons h1 h2 => cases h1; rw [h2.ints]; rfl
theorem DqAll.of_ints {H : Hp} : ∀ (ns : List Int), DqAll H (ns.map V.int) (ns.map PyData.int)
  | [] => .nil
  | n :: ns => .cons (.int n) (DqAll.of_ints ns)

theorem same_new {H : Hp} {p : Addr} {o : HO} (h : H p = none) : Same H (upd H p o) := fun b x e => by
  rw [upd_ne (ne_of_none e h)]; exact e
theorem seqT {K : PySem.W.Frag} {H H' : Hp} {a : Addr} {xs : List V} (e : Same H H') (h : SqT K H a xs) : SqT K H' a xs := Evl.ex_t e h

/-! ### growth: the heap H with the known region R -/
structure Gr (H R H2 R2 : Hp) : Prop where
  reg : Same R R2
  hp : Same H H2
  sub : Same R2 H2
  new : ∀ b, H b ≠ none → R b = none → R2 b = none
theorem Gr.refl {H R : Hp} (s : Same R H) : Gr H R H R := ⟨Same.refl _, Same.refl _, s, fun _ _ h => h⟩
theorem Same.there {H H' : Hp} (e : Same H H') {b : Addr} (h : H b ≠ none) : H' b ≠ none := by
  cases q : H b with
  | none => exact absurd q h
  | some o => rw [e b o q]; exact nofun
theorem Gr.trans {H R H1 R1 H2 R2 : Hp} (a : Gr H R H1 R1) (b : Gr H1 R1 H2 R2) : Gr H R H2 R2 :=
  ⟨a.reg.trans b.reg, a.hp.trans b.hp, b.sub, fun x h1 h2 => b.new x (Same.there a.hp h1) (a.new x h1 h2)⟩
/-- a new object of the region -/
theorem Gr.alloc {H R : Hp} {p : Addr} {o : HO} (s : Same R H) (h : H p = none) : Gr H R (upd H p o) (upd R p o) := by
  refine ⟨same_new (s.free h), same_new h, fun b u e => ?_, fun b h1 h2 => ?_⟩
  · by_cases hb : b = p
    · subst hb; rw [upd_same] at e ⊢; exact e
    · rw [upd_ne hb] at e ⊢; exact s b u e
  · have hb : b ≠ p := fun z => h1 (z ▸ h)
    rw [upd_ne hb]; exact h2
/-- a new object beside the region -/
theorem Gr.beside {H R : Hp} {p : Addr} {o : HO} (s : Same R H) (h : H p = none) : Gr H R (upd H p o) R :=
  ⟨Same.refl _, same_new h, s.trans (same_new h), fun _ _ q => q⟩
/-- what stands beside comes into the region -/
theorem Gr.take {H R H2 R2 : Hp} {p : Addr} {o : HO} (g : Gr H R H2 R2) (h : H p = none) (h2 : H2 p = some o) (h3 : R2 p = none) : Gr H R H2 (upd R2 p o) := by
  refine ⟨fun b u e => ?_, g.hp, fun b u e => ?_, fun b h1 q => ?_⟩
  · rw [upd_ne (ne_of_none (g.reg b u e) h3)]; exact g.reg b u e
  · by_cases hb : b = p
    · subst hb; rw [upd_same] at e; rw [h2]; exact e
    · rw [upd_ne hb] at e; exact g.sub b u e
  · have hb : b ≠ p := fun z => h1 (z ▸ h)
    rw [upd_ne hb]; exact g.new b h1 q

/-! ### slots -/
inductive Ent where
  | un | val (d : PyData) | own (ds : List PyData)
structure Sl (σ : L2.St) (H R : Hp) (ρ : List Ent) : Prop where
  sub : Same R H
  len : σ.length = ρ.length
  val : ∀ (i : Nat) d, ρ[i]? = some (.val d) → ∃ v, σ[i]? = some (some v) ∧ Dq R v d
  own : ∀ (i : Nat) ds, ρ[i]? = some (.own ds) → ∃ p xs, σ[i]? = some (some (.ref p)) ∧ R p = none ∧ H p = some (.lst xs) ∧ DqAll R xs ds
  sep : ∀ (i j : Nat) ds es p, ρ[i]? = some (.own ds) → ρ[j]? = some (.own es) → σ[i]? = some (some (.ref p)) → σ[j]? = some (some (.ref p)) → i = j
theorem Sl.grow {σ : L2.St} {H R H2 R2 : Hp} {ρ : List Ent} (s : Sl σ H R ρ) (g : Gr H R H2 R2) : Sl σ H2 R2 ρ := by
  refine ⟨g.sub, s.len, fun i d e => ?_, fun i ds e => ?_, s.sep⟩
  · obtain ⟨v, e1, q⟩ := s.val i d e
    exact ⟨v, e1, q.up g.reg⟩
  · obtain ⟨p, xs, e1, e2, e3, q⟩ := s.own i ds e
    exact ⟨p, xs, e1, g.new p (by rw [e3]; exact nofun) e2, g.hp _ _ e3, q.up g.reg⟩
/-- what an expression gives: for a list, a new one -/
inductive NewV (H H2 R2 : Hp) : V → PyData → Prop
  | sc {v : V} {d : PyData} (h : ∀ ds, d ≠ .list ds) (q : Dq R2 v d) : NewV H H2 R2 v d
  | ls {p : Addr} {xs : List V} {ds : List PyData} (h : H p = none) (h2 : R2 p = none) (h3 : H2 p = some (.lst xs)) (q : DqAll R2 xs ds) : NewV H H2 R2 (.ref p) (.list ds)
theorem NewV.back {H0 H H2 R2 : Hp} {v : V} {d : PyData} (e : Same H0 H) (n : NewV H H2 R2 v d) : NewV H0 H2 R2 v d := by
  cases n with
  | sc h q => exact .sc h q
  | ls h h2 h3 q => exact .ls (e.free h) h2 h3 q
theorem NewV.clean {H R H2 R2 : Hp} {v : V} {d : PyData} (g : Gr H R H2 R2) (n : NewV H H2 R2 v d) : ∃ R3, Gr H R H2 R3 ∧ Dq R3 v d := by
  cases n with
  | sc h q => exact ⟨R2, g, q⟩
  | ls h h2 h3 q => exact ⟨_, g.take h h3 h2, .lst upd_same (q.up (same_new h2))⟩

def tA (ρ : List Ent) (d : PyData) : TE := fun σ H Q => ∃ R, Sl σ H R ρ ∧ ∀ v H2 R2, Gr H R H2 R2 → Dq H2 v d → Q v H2
def tD (ρ : List Ent) (d : PyData) : TE := fun σ H Q => ∃ R, Sl σ H R ρ ∧ ∀ v H2 R2, Gr H R H2 R2 → Dq R2 v d → Q v H2
def tN (ρ : List Ent) (d : PyData) : TE := fun σ H Q => ∃ R, Sl σ H R ρ ∧ ∀ v H2 R2, Gr H R H2 R2 → NewV H H2 R2 v d → Q v H2
def tQ (ρ : List Ent) (b : Bool) : TT := fun σ H Q => ∃ R, Sl σ H R ρ ∧ ∀ H2 R2, Gr H R H2 R2 → Q b H2
/-- arguments, clean; any -/
def tDs (ρ : List Ent) (ds : List PyData) : TA := fun σ H Q => ∃ R, Sl σ H R ρ ∧ ∀ vs H2 R2, Gr H R H2 R2 → DqAll R2 vs ds → Q vs H2
def tAs (ρ : List Ent) (ds : List PyData) : TA := fun σ H Q => ∃ R, Sl σ H R ρ ∧ ∀ vs H2 R2, Gr H R H2 R2 → DqAll H2 vs ds → Q vs H2
abbrev EA (X : Cx) (ρ : List Ent) (e : Expr) (d : PyData) : Prop := PE X e (tA ρ d)
abbrev EC (X : Cx) (ρ : List Ent) (e : Expr) (d : PyData) : Prop := PE X e (tD ρ d)
abbrev EN (X : Cx) (ρ : List Ent) (e : Expr) (d : PyData) : Prop := PE X e (tN ρ d)
abbrev ET (X : Cx) (ρ : List Ent) (e : Expr) (b : Bool) : Prop := PT X e (tQ ρ b)

section
variable {X : Cx} {ρ : List Ent} {e a b c : Expr} {d da db : PyData} {t t' : TE} {pos : Pos}
theorem pe_weak (h : PE X e t) (w : ∀ σ H Q, t' σ H Q → t σ H Q) : PE X e t' := ⟨fun pins s σ H Q I q => h.run pins s σ H Q I (w σ H Q q)⟩
theorem pt_weak {t t' : TT} (h : PT X e t) (w : ∀ σ H Q, t' σ H Q → t σ H Q) : PT X e t' := ⟨fun pins s σ H Q I q => h.run pins s σ H Q I (w σ H Q q)⟩
theorem pa_weak {es : List Expr} {t t' : TA} (h : PA X es t) (w : ∀ σ H Q, t' σ H Q → t σ H Q) : PA X es t' := ⟨fun pos pins s σ H Q I q => h.run pos pins s σ H Q I (w σ H Q q)⟩
theorem en_c (h : EN X ρ e d) : EC X ρ e d := pe_weak h fun σ H Q ⟨R, s, k⟩ => ⟨R, s, fun v H2 R2 g n => by
  obtain ⟨R3, g3, q⟩ := n.clean g
  exact k v H2 R3 g3 q⟩
theorem ec_a (h : EC X ρ e d) : EA X ρ e d := pe_weak h fun σ H Q ⟨R, s, k⟩ => ⟨R, s, fun v H2 R2 g n => k v H2 R2 g (n.up g.sub)⟩
theorem en_a (h : EN X ρ e d) : EA X ρ e d := ec_a (en_c h)
def atom : PyData → Bool
  | .none => true
  | .bool _ => true
  | .int _ => true
  | .str _ => true
  | _ => false
theorem Dq.atom {H H' : Hp} {v : V} {d : PyData} (ha : KR.atom d = true) (h : Dq H v d) : Dq H' v d := by
  cases h with
  | non => exact .non
  | bl b => exact .bl b
  | int i => exact .int i
  | str x => exact .str x
  | lst _ _ => cases ha
  | tup _ _ => cases ha
  | opq _ => cases ha
  | fz _ => cases ha
theorem NewV.atom {H H2 R2 H' : Hp} {v : V} {d : PyData} (ha : KR.atom d = true) (h : Dq H' v d) : NewV H H2 R2 v d :=
  .sc (fun ds z => by subst z; cases ha) (Dq.atom ha h)
theorem ea_n (h : EA X ρ e d) (ha : atom d = true := by rfl) : EN X ρ e d := pe_weak h fun σ H Q ⟨R, s, k⟩ => ⟨R, s, fun v H2 R2 g n => k v H2 R2 g (NewV.atom ha n)⟩
theorem ec_nt {ds : List PyData} (h : EC X ρ e (.tuple ds)) : EN X ρ e (.tuple ds) := pe_weak h fun σ H Q ⟨R, s, k⟩ => ⟨R, s, fun v H2 R2 g n => k v H2 R2 g (.sc (fun _ => nofun) n)⟩
/-- the same with other words for what is given -/
theorem en_is {d' : PyData} (h : EN X ρ e d) (q : d = d') : EN X ρ e d' := q ▸ h
theorem ec_is {d' : PyData} (h : EC X ρ e d) (q : d = d') : EC X ρ e d' := q ▸ h
theorem ea_is {d' : PyData} (h : EA X ρ e d) (q : d = d') : EA X ρ e d' := q ▸ h
theorem et_is {b b' : Bool} (h : ET X ρ e b) (q : b = b') : ET X ρ e b' := q ▸ h

/-! ### names, constants -/
theorem ec_var (i : Nat) {x : Str} (hd : ρ[i]? = some (.val d) := by rfl) (hN : X.N[i]? = some x := by rfl) (hv : Vis X.env.scope x := by first | exact Or.inl rfl | exact Or.inr (Or.inl rfl) | exact Or.inr (Or.inr rfl))
    (h1 : (x == ("__debug__" : Str)) = false := by decide) (h2 : (x == ("__classdict__" : Str)) = false := by decide) : EC X ρ (.Name x pos) d :=
  pe_weak (pe_var hN hv h1 h2) fun σ H Q ⟨R, s, k⟩ => by
    obtain ⟨v, e, q⟩ := s.val i d hd
    exact ⟨v, e, k v H R (Gr.refl s.sub) q⟩
theorem ea_own (i : Nat) {x : Str} {ds : List PyData} (hd : ρ[i]? = some (.own ds) := by rfl) (hN : X.N[i]? = some x := by rfl) (hv : Vis X.env.scope x := by first | exact Or.inl rfl | exact Or.inr (Or.inl rfl) | exact Or.inr (Or.inr rfl))
    (h1 : (x == ("__debug__" : Str)) = false := by decide) (h2 : (x == ("__classdict__" : Str)) = false := by decide) : EA X ρ (.Name x pos) (.list ds) :=
  pe_weak (pe_var hN hv h1 h2) fun σ H Q ⟨R, s, k⟩ => by
    obtain ⟨p, xs, e, _, h, q⟩ := s.own i ds hd
    exact ⟨_, e, k _ H R (Gr.refl s.sub) (.lst h (q.up s.sub))⟩
theorem en_int {i j} : EN X ρ (.Constant (.int i) j pos) (.int i) := pe_weak pe_int fun σ H Q ⟨R, s, k⟩ => k _ H R (Gr.refl s.sub) (.sc (fun _ => nofun) (.int i))
theorem en_none {j} : EN X ρ (.Constant .none j pos) .none := pe_weak pe_non fun σ H Q ⟨R, s, k⟩ => k _ H R (Gr.refl s.sub) (.sc (fun _ => nofun) .non)
theorem en_bool {b j} : EN X ρ (.Constant (.bool b) j pos) (.bool b) := pe_weak pe_bl fun σ H Q ⟨R, s, k⟩ => k _ H R (Gr.refl s.sub) (.sc (fun _ => nofun) (.bl b))

/-! ### two operands -/
/-- an operation on values: any data in -/
def Op2 (r : R2) (da db d : PyData) : Prop := ∀ x y H R Q, Same R H → Dq H x da → Dq H y db → (∀ v H2 R2, Gr H R H2 R2 → NewV H H2 R2 v d → Q v H2) → r x y H Q
/-- clean data in -/
def Op2C (r : R2) (da db d : PyData) : Prop := ∀ x y H R Q, Same R H → Dq R x da → Dq R y db → (∀ v H2 R2, Gr H R H2 R2 → NewV H H2 R2 v d → Q v H2) → r x y H Q
theorem tN_op {r : R2} (hr : Op2 r da db d) : ∀ σ H Q, tN ρ d σ H Q → tOp r (tA ρ da) (tA ρ db) σ H Q := fun σ H Q ⟨R, s, k⟩ =>
  ⟨R, s, fun x H1 R1 g1 dx => ⟨R1, s.grow g1, fun y H2 R2 g2 dy => hr x y H2 R2 Q g2.sub (dx.up g2.hp) dy fun v H3 R3 g3 n => k v H3 R3 ((g1.trans g2).trans g3) (n.back (g1.trans g2).hp)⟩⟩
theorem tN_opC {r : R2} (hr : Op2C r da db d) : ∀ σ H Q, tN ρ d σ H Q → tOp r (tD ρ da) (tD ρ db) σ H Q := fun σ H Q ⟨R, s, k⟩ =>
  ⟨R, s, fun x H1 R1 g1 dx => ⟨R1, s.grow g1, fun y H2 R2 g2 dy => hr x y H2 R2 Q g2.sub (dx.up g2.reg) dy fun v H3 R3 g3 n => k v H3 R3 ((g1.trans g2).trans g3) (n.back (g1.trans g2).hp)⟩⟩
theorem en_bin {op : Operator} {r : R2} (ho : OpR X (binaryOp op) r) (hr : Op2 r da db d) (ha : EA X ρ a da) (hb : EA X ρ b db) : EN X ρ (.BinOp a op b pos) d := pe_weak (pe_op ho ha hb) (tN_op hr)
theorem en_binC {op : Operator} {r : R2} (ho : OpR X (binaryOp op) r) (hr : Op2C r da db d) (ha : EC X ρ a da) (hb : EC X ρ b db) : EN X ρ (.BinOp a op b pos) d := pe_weak (pe_op ho ha hb) (tN_opC hr)
theorem Op2.ints {g : Int → Int → V} {i j : Int} (h : ∀ H, Dq H (g i j) d) (ha : atom d = true := by rfl) : Op2 (rI0 g) (.int i) (.int j) d := fun x y H R Q s dx dy k => by
  cases dx; cases dy
  exact ⟨i, j, rfl, rfl, k _ H R (Gr.refl s) (NewV.atom ha (h H))⟩
theorem Op2.intsC {C : Int → Int → Prop} {g : Int → Int → V} {i j : Int} (hc : C i j) (h : ∀ H, Dq H (g i j) d) (ha : atom d = true := by rfl) : Op2 (rI C g) (.int i) (.int j) d := fun x y H R Q s dx dy k => by
  cases dx; cases dy
  exact ⟨i, j, rfl, rfl, hc, k _ H R (Gr.refl s) (NewV.atom ha (h H))⟩
variable {i j : Int}
theorem en_add (ha : EA X ρ a (.int i)) (hb : EA X ρ b (.int j)) : EN X ρ (.BinOp a .Add b pos) (.int (i + j)) := en_bin op_add (.ints fun _ => .int _) ha hb
theorem en_sub (ha : EA X ρ a (.int i)) (hb : EA X ρ b (.int j)) : EN X ρ (.BinOp a .Sub b pos) (.int (i - j)) := en_bin op_sub (.ints fun _ => .int _) ha hb
theorem en_mul (ha : EA X ρ a (.int i)) (hb : EA X ρ b (.int j)) (hc : CMul i j) : EN X ρ (.BinOp a .Mult b pos) (.int (i * j)) := en_bin op_mul (.intsC hc fun _ => .int _) ha hb
theorem en_fdiv (ha : EA X ρ a (.int i)) (hb : EA X ρ b (.int j)) (hc : CDiv i j) : EN X ρ (.BinOp a .FloorDiv b pos) (.int (i / j)) := en_bin op_fdiv (.intsC hc fun _ => .int _) ha hb
theorem en_mod (ha : EA X ρ a (.int i)) (hb : EA X ρ b (.int j)) (hc : 0 < j) : EN X ρ (.BinOp a .Mod b pos) (.int (i % j)) := en_bin op_mod (.intsC (C := fun _ j => 0 < j) hc fun _ => .int _) ha hb
theorem en_pow (ha : EA X ρ a (.int i)) (hb : EA X ρ b (.int j)) (hc : CPow i j) : EN X ρ (.BinOp a .Pow b pos) (.int (i ^ j.toNat)) := en_bin op_pow (.intsC hc fun _ => .int _) ha hb
/-- -a -/
theorem en_neg (ha : EA X ρ a (.int i)) : EN X ρ (.UnaryOp .USub a pos) (.int (-i)) := pe_weak (pe_un un_neg ha) fun σ H Q ⟨R, s, k⟩ =>
  ⟨R, s, fun x H1 R1 g1 dx => by
    cases dx
    exact ⟨i, rfl, k _ H1 R1 g1 (NewV.atom rfl (.int (H := H1) _))⟩⟩
/-- list + list -/
theorem en_cat {ds es : List PyData} (ha : EC X ρ a (.list ds)) (hb : EC X ρ b (.list es)) (hz : ds.length + es.length ≤ sizeLine) : EN X ρ (.BinOp a .Add b pos) (.list (ds ++ es)) :=
  en_binC op_cat (fun x y H R Q s dx dy k => by
    cases dx with
    | lst h1 q1 => cases dy with
      | lst h2 q2 =>
        exact ⟨_, _, _, _, rfl, rfl, s _ _ h1, s _ _ h2, by rw [q1.len, q2.len]; exact hz, fun p hp => k _ _ R (Gr.beside s hp) (.ls hp (s.free hp) upd_same (q1.app q2))⟩) ha hb
theorem DqAll.rep {H : Hp} {ds : List PyData} {vs : List V} (h : DqAll H vs ds) : ∀ k : Nat, DqAll H (List.replicate k vs).flatten (List.replicate k ds).flatten
  | 0 => .nil
  | k + 1 => by
    rw [List.replicate_succ, List.replicate_succ, List.flatten_cons, List.flatten_cons]
    exact h.app (h.rep k)
end
end KR
namespace KR
open PySem L2

section
variable {X : Cx} {ρ : List Ent} {e a b c : Expr} {d da db : PyData} {t t' : TE} {pos : Pos} {i j : Int}
/-! ### lists: times a number -/
theorem en_rep {ds : List PyData} {k : Nat} (ha : EA X ρ a (.list ds)) (hb : EA X ρ b (.int (k : Int))) (hd : ∀ x ∈ ds, atom x = true) (hk : k ≤ 1000000) (hz : ds.length * k ≤ sizeLine) : EN X ρ (.BinOp a .Mult b pos) (.list (List.replicate k ds).flatten) :=
  en_bin op_rep (fun x y H R Q s dx dy q => by
    cases dx with
    | lst h1 q1 => cases dy with
      | int _ =>
        have q2 : ∀ {es : List PyData} {vs : List V}, (∀ x ∈ es, atom x = true) → DqAll H vs es → DqAll R vs es := by
          intro es
          induction es with
          | nil => intro vs _ h; cases h; exact .nil
          | cons x es ih => intro vs hx h; cases h with
            | cons h1 h2 => exact .cons (Dq.atom (hx x List.mem_cons_self) h1) (ih (fun y hy => hx y (List.mem_cons_of_mem _ hy)) h2)
        refine ⟨_, _, _, rfl, rfl, h1, by omega, by omega, by rw [q1.len, Int.toNat_natCast]; exact hz, fun p hp => q _ _ R (Gr.beside s hp) ?_⟩
        rw [Int.toNat_natCast]
        exact .ls hp (s.free hp) upd_same ((q2 hd q1).rep k)) ha hb

/-! ### comparisons -/
theorem en_cmp {op : CmpOp} {r : R2} (ho : OpR X (compareOp op) r) (hr : Op2 r da db d) (ha : EA X ρ a da) (hb : EA X ρ b db) (hm : behindInMarks op b = false) : EN X ρ (.Compare a [op] [b] pos) d := pe_weak (pe_cmpR ho ha hb hm) (tN_op hr)
theorem et_cmp {op : CmpOp} {r : R2} {k : Bool} (ho : OpR X (compareOp op) r) (hr : Op2 r da db (.bool k)) (ha : EA X ρ a da) (hb : EA X ρ b db) (hm : behindInMarks op b = false) : ET X ρ (.Compare a [op] [b] pos) k :=
  pt_weak (pt_cmpR ho ha hb hm) fun σ H Q ⟨R, s, q⟩ => tN_op hr σ H _ ⟨R, s, fun v H2 R2 g n => by
    cases n with
    | sc _ w => cases w; exact ⟨k, rfl, q H2 R2 g⟩⟩
/-- a value that is a bool, as a test -/
theorem et_val {k : Bool} (h : EN X ρ e (.bool k)) (he : ∀ whole, isTrue e X.env whole = (do let v ← whole; standAt e.pos; holding [v] (truthy v)) := by intro _; rfl) : ET X ρ e k :=
  pt_weak (pt_val h he) fun σ H Q ⟨R, s, q⟩ => ⟨R, s, fun v H2 R2 g n => by
    cases n with
    | sc _ w => cases w; exact ⟨k, rfl, q H2 R2 g⟩⟩
theorem et_lt (ha : EA X ρ a (.int i)) (hb : EA X ρ b (.int j)) : ET X ρ (.Compare a [.Lt] [b] pos) (decide (i < j)) := et_cmp op_lt (.ints fun _ => .bl _) ha hb (nomark _)
theorem et_le (ha : EA X ρ a (.int i)) (hb : EA X ρ b (.int j)) : ET X ρ (.Compare a [.LtE] [b] pos) (decide (i ≤ j)) := et_cmp op_le (.ints fun _ => .bl _) ha hb (nomark _)
theorem et_gt (ha : EA X ρ a (.int i)) (hb : EA X ρ b (.int j)) : ET X ρ (.Compare a [.Gt] [b] pos) (decide (j < i)) := et_cmp op_gt (.ints fun _ => .bl _) ha hb (nomark _)
theorem et_ge (ha : EA X ρ a (.int i)) (hb : EA X ρ b (.int j)) : ET X ρ (.Compare a [.GtE] [b] pos) (decide (j ≤ i)) := et_cmp op_ge (.ints fun _ => .bl _) ha hb (nomark _)
theorem en_lt (ha : EA X ρ a (.int i)) (hb : EA X ρ b (.int j)) : EN X ρ (.Compare a [.Lt] [b] pos) (.bool (decide (i < j))) := en_cmp op_lt (.ints fun _ => .bl _) ha hb (nomark _)
theorem en_le (ha : EA X ρ a (.int i)) (hb : EA X ρ b (.int j)) : EN X ρ (.Compare a [.LtE] [b] pos) (.bool (decide (i ≤ j))) := en_cmp op_le (.ints fun _ => .bl _) ha hb (nomark _)
theorem en_gt (ha : EA X ρ a (.int i)) (hb : EA X ρ b (.int j)) : EN X ρ (.Compare a [.Gt] [b] pos) (.bool (decide (j < i))) := en_cmp op_gt (.ints fun _ => .bl _) ha hb (nomark _)
theorem en_ge (ha : EA X ρ a (.int i)) (hb : EA X ρ b (.int j)) : EN X ρ (.Compare a [.GtE] [b] pos) (.bool (decide (j ≤ i))) := en_cmp op_ge (.ints fun _ => .bl _) ha hb (nomark _)
/-- == and != of any data -/
theorem Op2.eqD (s1 : SeqAt.shaped da = true) (s2 : SeqAt.shaped db = true) : Op2 (rEqD X.K) da db (.bool (PyData.eqv da db)) := fun x y H R Q s dx dy q =>
  ⟨da, db, Dq.dp da x (lay_of s1) dx, Dq.dp db y (lay_of s2) dy, s1, s2, q _ H R (Gr.refl s) (NewV.atom rfl (.bl (H := H) _))⟩
theorem Op2.neD (s1 : SeqAt.shaped da = true) (s2 : SeqAt.shaped db = true) : Op2 (rNeD X.K) da db (.bool (!PyData.eqv da db)) := fun x y H R Q s dx dy q =>
  ⟨da, db, Dq.dp da x (lay_of s1) dx, Dq.dp db y (lay_of s2) dy, s1, s2, q _ H R (Gr.refl s) (NewV.atom rfl (.bl (H := H) _))⟩
theorem et_eq (hu : X.A.units + 64 < cLine) (ha : EA X ρ a da) (hb : EA X ρ b db) (s1 : SeqAt.shaped da = true) (s2 : SeqAt.shaped db = true) : ET X ρ (.Compare a [.Eq] [b] pos) (PyData.eqv da db) := et_cmp (op_eqD hu) (.eqD s1 s2) ha hb (nomark _)
theorem en_eq (hu : X.A.units + 64 < cLine) (ha : EA X ρ a da) (hb : EA X ρ b db) (s1 : SeqAt.shaped da = true) (s2 : SeqAt.shaped db = true) : EN X ρ (.Compare a [.Eq] [b] pos) (.bool (PyData.eqv da db)) := en_cmp (op_eqD hu) (.eqD s1 s2) ha hb (nomark _)
theorem et_ne (hu : X.A.units + 64 < cLine) (ha : EA X ρ a da) (hb : EA X ρ b db) (s1 : SeqAt.shaped da = true) (s2 : SeqAt.shaped db = true) : ET X ρ (.Compare a [.NotEq] [b] pos) (!PyData.eqv da db) := et_cmp (op_neD hu) (.neD s1 s2) ha hb (nomark _)
theorem en_ne (hu : X.A.units + 64 < cLine) (ha : EA X ρ a da) (hb : EA X ρ b db) (s1 : SeqAt.shaped da = true) (s2 : SeqAt.shaped db = true) : EN X ρ (.Compare a [.NotEq] [b] pos) (.bool (!PyData.eqv da db)) := en_cmp (op_neD hu) (.neD s1 s2) ha hb (nomark _)
/-- ints -/
theorem et_eqI (ha : EA X ρ a (.int i)) (hb : EA X ρ b (.int j)) : ET X ρ (.Compare a [.Eq] [b] pos) (decide (i = j)) := et_cmp op_eq (fun x y H R Q s dx dy q => by
  cases dx; cases dy
  have h := q (.bl (decide (i = j))) H R (Gr.refl s) (NewV.atom rfl (.bl (H := H) _))
  exact ⟨rfl, by rw [show decide (V.int i = V.int j) = decide (i = j) by simp]; exact h⟩) ha hb (nomark _)
theorem en_eqI (ha : EA X ρ a (.int i)) (hb : EA X ρ b (.int j)) : EN X ρ (.Compare a [.Eq] [b] pos) (.bool (decide (i = j))) := en_cmp op_eq (fun x y H R Q s dx dy q => by
  cases dx; cases dy
  have h := q (.bl (decide (i = j))) H R (Gr.refl s) (NewV.atom rfl (.bl (H := H) _))
  exact ⟨rfl, by rw [show decide (V.int i = V.int j) = decide (i = j) by simp]; exact h⟩) ha hb (nomark _)
theorem et_neI (ha : EA X ρ a (.int i)) (hb : EA X ρ b (.int j)) : ET X ρ (.Compare a [.NotEq] [b] pos) (!decide (i = j)) := et_cmp op_ne (fun x y H R Q s dx dy q => by
  cases dx; cases dy
  have h := q (.bl (!decide (i = j))) H R (Gr.refl s) (NewV.atom rfl (.bl (H := H) _))
  exact ⟨rfl, by rw [show decide (V.int i = V.int j) = decide (i = j) by simp]; exact h⟩) ha hb (nomark _)
/-- texts -/
theorem et_neS {x y : Str} (ha : EA X ρ a (.str x)) (hb : EA X ρ b (.str y)) : ET X ρ (.Compare a [.NotEq] [b] pos) (!decide (x = y)) := et_cmp op_ne (fun u v H R Q s dx dy q => by
  cases dx; cases dy
  have h := q (.bl (!decide (x = y))) H R (Gr.refl s) (NewV.atom rfl (.bl (H := H) _))
  exact ⟨rfl, by rw [show decide (V.str x = V.str y) = decide (x = y) by simp]; exact h⟩) ha hb (nomark _)
theorem en_eqS {x y : Str} (ha : EA X ρ a (.str x)) (hb : EA X ρ b (.str y)) : EN X ρ (.Compare a [.Eq] [b] pos) (.bool (decide (x = y))) := en_cmp op_eq (fun u v H R Q s dx dy q => by
  cases dx; cases dy
  have h := q (.bl (decide (x = y))) H R (Gr.refl s) (NewV.atom rfl (.bl (H := H) _))
  exact ⟨rfl, by rw [show decide (V.str x = V.str y) = decide (x = y) by simp]; exact h⟩) ha hb (nomark _)
theorem et_eqS {x y : Str} (ha : EA X ρ a (.str x)) (hb : EA X ρ b (.str y)) : ET X ρ (.Compare a [.Eq] [b] pos) (decide (x = y)) := et_cmp op_eq (fun u v H R Q s dx dy q => by
  cases dx; cases dy
  have h := q (.bl (decide (x = y))) H R (Gr.refl s) (NewV.atom rfl (.bl (H := H) _))
  exact ⟨rfl, by rw [show decide (V.str x = V.str y) = decide (x = y) by simp]; exact h⟩) ha hb (nomark _)
def isN : PyData → Bool
  | .none => true
  | _ => false
theorem Dq.isN {H : Hp} {v : V} {d : PyData} (h : Dq H v d) : decide (v = V.non) = KR.isN d := by
  cases h <;> simp [KR.isN]
theorem en_isN {j0 p} (ha : EA X ρ a d) : EN X ρ (.Compare a [.Is] [.Constant .none j0 p] pos) (.bool (isN d)) := en_cmp op_isN (fun x y H R Q s dx dy q => by
  cases dy
  exact ⟨rfl, by rw [dx.isN]; exact q _ H R (Gr.refl s) (NewV.atom rfl (.bl (H := H) _))⟩) ha (en_a en_none) (nomark _)
theorem et_isN {j0 p} (ha : EA X ρ a d) : ET X ρ (.Compare a [.Is] [.Constant .none j0 p] pos) (isN d) := et_cmp op_isN (fun x y H R Q s dx dy q => by
  cases dy
  exact ⟨rfl, by rw [dx.isN]; exact q _ H R (Gr.refl s) (NewV.atom rfl (.bl (H := H) _))⟩) ha (en_a en_none) (nomark _)
theorem et_notN {j0 p} (ha : EA X ρ a d) : ET X ρ (.Compare a [.IsNot] [.Constant .none j0 p] pos) (!isN d) := et_cmp op_notN (fun x y H R Q s dx dy q => by
  cases dy
  exact ⟨rfl, by rw [dx.isN]; exact q _ H R (Gr.refl s) (NewV.atom rfl (.bl (H := H) _))⟩) ha (en_a en_none) (nomark _)
theorem en_notN {j0 p} (ha : EA X ρ a d) : EN X ρ (.Compare a [.IsNot] [.Constant .none j0 p] pos) (.bool (!isN d)) := en_cmp op_notN (fun x y H R Q s dx dy q => by
  cases dy
  exact ⟨rfl, by rw [dx.isN]; exact q _ H R (Gr.refl s) (NewV.atom rfl (.bl (H := H) _))⟩) ha (en_a en_none) (nomark _)
def inD (d : PyData) (ds : List PyData) : Bool := ds.any fun z => PyData.eqv z d
theorem Op2.inD {ds : List PyData} (s1 : SeqAt.shaped d = true) (s2 : SeqAt.shaped (.list ds) = true) : Op2 (rInD X.K) d (.list ds) (.bool (KR.inD d ds)) := fun x y H R Q s dx dy q =>
  ⟨d, ds, Dq.dp _ x (lay_of s1) dx, Dq.dp _ y (lay_of s2) dy, s1, s2, q _ H R (Gr.refl s) (NewV.atom rfl (.bl (H := H) _))⟩
theorem Op2.ninD {ds : List PyData} (s1 : SeqAt.shaped d = true) (s2 : SeqAt.shaped (.list ds) = true) : Op2 (rNotInD X.K) d (.list ds) (.bool (!KR.inD d ds)) := fun x y H R Q s dx dy q =>
  ⟨d, ds, Dq.dp _ x (lay_of s1) dx, Dq.dp _ y (lay_of s2) dy, s1, s2, q _ H R (Gr.refl s) (NewV.atom rfl (.bl (H := H) _))⟩
variable {ds es : List PyData}
theorem et_in (hu : X.A.units + 65 < cLine) (ha : EA X ρ a d) (hb : EA X ρ b (.list ds)) (s1 : SeqAt.shaped d = true) (s2 : SeqAt.shaped (.list ds) = true) (hm : behindInMarks .In b = false := by rfl) : ET X ρ (.Compare a [.In] [b] pos) (inD d ds) := et_cmp (op_inD hu) (.inD s1 s2) ha hb hm
theorem et_notin (hu : X.A.units + 65 < cLine) (ha : EA X ρ a d) (hb : EA X ρ b (.list ds)) (s1 : SeqAt.shaped d = true) (s2 : SeqAt.shaped (.list ds) = true) (hm : behindInMarks .NotIn b = false := by rfl) : ET X ρ (.Compare a [.NotIn] [b] pos) (!inD d ds) := et_cmp (op_notInD hu) (.ninD s1 s2) ha hb hm

/-! ### and, or, not -/
variable {k l : Bool}
theorem et_not (h : ET X ρ a k) : ET X ρ (.UnaryOp .Not a pos) (!k) := pt_weak (pt_not h) fun σ H Q ⟨R, s, q⟩ => ⟨R, s, q⟩
theorem en_not (h : EN X ρ a (.bool k)) : EN X ρ (.UnaryOp .Not a pos) (.bool (!k)) := pe_weak (pe_not h) fun σ H Q ⟨R, s, q⟩ => ⟨R, s, fun v H2 R2 g n => by
  cases n with
  | sc _ w => cases w; exact ⟨k, rfl, q _ H2 R2 g (NewV.atom rfl (.bl (H := H2) _))⟩⟩
abbrev EW (X : Cx) (ρ : List Ent) (e : Expr) (b : Bool) : Prop := PW X e (tQ ρ b)
theorem pw_weak {t t' : TT} (h : PW X e t) (w : ∀ σ H Q, t' σ H Q → t σ H Q) : PW X e t' := ⟨fun wh pins s σ H Q I q => h.run wh pins s σ H Q I (w σ H Q q)⟩
theorem ew_and1 (h : ET X ρ a k) : EW X ρ (.BoolOp .And [a] pos) k := pw_and1 h
theorem ew_or1 (h : ET X ρ a k) : EW X ρ (.BoolOp .Or [a] pos) k := pw_or1 h
variable {rest : List Expr}
/-- readings under a condition -/
def tIfQ (k : Bool) (t : TT) : TT := fun σ H Q => k = true ∧ t σ H Q
theorem ew_and (h : ET X ρ a k) (h2 : k = true → EW X ρ (.BoolOp .And (b :: rest) pos) l) : EW X ρ (.BoolOp .And (a :: b :: rest) pos) (k && l) := by
  cases k with
  | true => exact pw_weak (pw_and h (h2 rfl)) fun σ H Q ⟨R, s, q⟩ => ⟨R, s, fun H1 R1 g => iteT ⟨R1, s.grow g, fun H2 R2 g2 => q H2 R2 (g.trans g2)⟩⟩
  | false =>
    have never : PW X (.BoolOp .And (b :: rest) pos) (fun _ _ _ => False) := ⟨fun _ _ _ _ _ _ _ z => z.elim⟩
    exact pw_weak (pw_and h never) fun σ H Q ⟨R, s, q⟩ => ⟨R, s, fun H1 R1 g => iteF (q H1 R1 g)⟩
theorem ew_or (h : ET X ρ a k) (h2 : k = false → EW X ρ (.BoolOp .Or (b :: rest) pos) l) : EW X ρ (.BoolOp .Or (a :: b :: rest) pos) (k || l) := by
  cases k with
  | false => exact pw_weak (pw_or h (h2 rfl)) fun σ H Q ⟨R, s, q⟩ => ⟨R, s, fun H1 R1 g => iteF ⟨R1, s.grow g, fun H2 R2 g2 => q H2 R2 (g.trans g2)⟩⟩
  | true =>
    have never : PW X (.BoolOp .Or (b :: rest) pos) (fun _ _ _ => False) := ⟨fun _ _ _ _ _ _ _ z => z.elim⟩
    exact pw_weak (pw_or h never) fun σ H Q ⟨R, s, q⟩ => ⟨R, s, fun H1 R1 g => iteT (q H1 R1 g)⟩
theorem et_w (h : EW X ρ e k) : ET X ρ e k := h.pt
/-- .. as values -/
theorem en_one {op} (h : EN X ρ a d) : EN X ρ (.BoolOp op [a] pos) d := pe_one h
theorem en_and (h : EN X ρ a (.bool k)) (h2 : k = true → EN X ρ (.BoolOp .And (b :: rest) pos) (.bool l)) : EN X ρ (.BoolOp .And (a :: b :: rest) pos) (.bool (k && l)) := by
  cases k with
  | true => exact pe_weak (pe_and h (h2 rfl)) fun σ H Q ⟨R, s, q⟩ => ⟨R, s, fun v H1 R1 g n => by
      cases n with
      | sc _ w => cases w; exact ⟨true, rfl, iteT ⟨R1, s.grow g, fun v H2 R2 g2 n => q v H2 R2 (g.trans g2) (n.back g.hp)⟩⟩⟩
  | false =>
    have never : PE X (.BoolOp .And (b :: rest) pos) (fun _ _ _ => False) := ⟨fun _ _ _ _ _ _ z => z.elim⟩
    exact pe_weak (pe_and h never) fun σ H Q ⟨R, s, q⟩ => ⟨R, s, fun v H1 R1 g n => by
      cases n with
      | sc _ w => cases w; exact ⟨false, rfl, iteF (q _ H1 R1 g (NewV.atom rfl (.bl (H := H1) _)))⟩⟩
theorem en_or (h : EN X ρ a (.bool k)) (h2 : k = false → EN X ρ (.BoolOp .Or (b :: rest) pos) (.bool l)) : EN X ρ (.BoolOp .Or (a :: b :: rest) pos) (.bool (k || l)) := by
  cases k with
  | false => exact pe_weak (pe_or h (h2 rfl)) fun σ H Q ⟨R, s, q⟩ => ⟨R, s, fun v H1 R1 g n => by
      cases n with
      | sc _ w => cases w; exact ⟨false, rfl, iteF ⟨R1, s.grow g, fun v H2 R2 g2 n => q v H2 R2 (g.trans g2) (n.back g.hp)⟩⟩⟩
  | true =>
    have never : PE X (.BoolOp .Or (b :: rest) pos) (fun _ _ _ => False) := ⟨fun _ _ _ _ _ _ z => z.elim⟩
    exact pe_weak (pe_or h never) fun σ H Q ⟨R, s, q⟩ => ⟨R, s, fun v H1 R1 g n => by
      cases n with
      | sc _ w => cases w; exact ⟨true, rfl, iteT (q _ H1 R1 g (NewV.atom rfl (.bl (H := H1) _)))⟩⟩
/-- a if t else b -/
theorem en_if (h : ET X ρ c k) (h1 : k = true → EN X ρ a d) (h2 : k = false → EN X ρ b d) : EN X ρ (.IfExp c a b pos) d := by
  have never : ∀ e, PE X e (fun _ _ _ => False) := fun e => ⟨fun _ _ _ _ _ _ z => z.elim⟩
  cases k with
  | true => exact pe_weak (pe_ifExp h (h1 rfl) (never _)) fun σ H Q ⟨R, s, q⟩ => ⟨R, s, fun H1 R1 g => iteT ⟨R1, s.grow g, fun v H2 R2 g2 n => q v H2 R2 (g.trans g2) (n.back g.hp)⟩⟩
  | false => exact pe_weak (pe_ifExp h (never _) (h2 rfl)) fun σ H Q ⟨R, s, q⟩ => ⟨R, s, fun H1 R1 g => iteF ⟨R1, s.grow g, fun v H2 R2 g2 n => q v H2 R2 (g.trans g2) (n.back g.hp)⟩⟩

/-! ### subscripts -/
theorem DqAll.atI {H : Hp} {ds : List PyData} {vs : List V} {i : Int} {d : PyData} (h : DqAll H vs ds) (e : atI ds i = some d) : ∃ v, L2.atI vs i = some v ∧ Dq H v d := by
  unfold L2.atI at e ⊢
  rw [h.len]
  cases q : ixN ds.length i with
  | none => rw [q] at e; cases e
  | some j => rw [q] at e; exact h.get e
theorem ec_ixL {i : Int} (ha : EC X ρ a (.list ds)) (hb : EA X ρ b (.int i)) (h : atI ds i = some d) (hp : PlainIx b := by exact fun _ _ => rfl) : EC X ρ (.Subscript a b pos) d :=
  pe_weak (pe_ix ix_list ha hb hp) fun σ H Q ⟨R, s, q⟩ => ⟨R, s, fun x H1 R1 g1 dx => ⟨R1, s.grow g1, fun y H2 R2 g2 dy => by
    cases dx with
    | lst h1 q1 => cases dy with
      | int _ =>
        obtain ⟨v, e, w⟩ := q1.atI h
        exact ⟨_, _, _, v, rfl, rfl, SqL.of (g2.sub _ _ (g2.reg _ _ h1)), e, q v H2 R2 (g1.trans g2) (w.up g2.reg)⟩⟩⟩
theorem ea_ixL {i : Int} (ha : EA X ρ a (.list ds)) (hb : EA X ρ b (.int i)) (h : atI ds i = some d) (hp : PlainIx b := by exact fun _ _ => rfl) : EA X ρ (.Subscript a b pos) d :=
  pe_weak (pe_ix ix_list ha hb hp) fun σ H Q ⟨R, s, q⟩ => ⟨R, s, fun x H1 R1 g1 dx => ⟨R1, s.grow g1, fun y H2 R2 g2 dy => by
    cases dx with
    | lst h1 q1 => cases dy with
      | int _ =>
        obtain ⟨v, e, w⟩ := q1.atI h
        exact ⟨_, _, _, v, rfl, rfl, SqL.of (g2.hp _ _ h1), e, q v H2 R2 (g1.trans g2) (w.up g2.hp)⟩⟩⟩
theorem ec_ixT {i : Int} (ha : EC X ρ a (.tuple ds)) (hb : EA X ρ b (.int i)) (h : atI ds i = some d) (hp : PlainIx b := by exact fun _ _ => rfl) : EC X ρ (.Subscript a b pos) d :=
  pe_weak (pe_ix ix_tup ha hb hp) fun σ H Q ⟨R, s, q⟩ => ⟨R, s, fun x H1 R1 g1 dx => ⟨R1, s.grow g1, fun y H2 R2 g2 dy => by
    cases dx with
    | tup h1 q1 => cases dy with
      | int _ =>
        obtain ⟨v, e, w⟩ := q1.atI h
        exact ⟨_, _, _, v, rfl, rfl, SqT.of (g2.sub _ _ (g2.reg _ _ h1)), e, q v H2 R2 (g1.trans g2) (w.up g2.reg)⟩⟩⟩
theorem en_ixL {i : Int} (ha : EA X ρ a (.list ds)) (hb : EA X ρ b (.int i)) (h : atI ds i = some d) (hd : atom d = true := by rfl) (hp : PlainIx b := by exact fun _ _ => rfl) : EN X ρ (.Subscript a b pos) d := ea_n (ea_ixL ha hb h hp) hd
theorem en_ixT {i : Int} (ha : EC X ρ a (.tuple ds)) (hb : EA X ρ b (.int i)) (h : atI ds i = some d) (hd : atom d = true := by rfl) (hp : PlainIx b := by exact fun _ _ => rfl) : EN X ρ (.Subscript a b pos) d := ea_n (ec_a (ec_ixT ha hb h hp)) hd

/-! ### slices -/
abbrev EO (X : Cx) (ρ : List Ent) (e : Option Expr) (o : Option Int) : Prop := PO X e (fun σ H Q => ∃ R, Sl σ H R ρ ∧ ∀ H2 R2, Gr H R H2 R2 → Q o H2)
theorem po_weak {e : Option Expr} {t t' : TO} (h : PO X e t) (w : ∀ σ H Q, t' σ H Q → t σ H Q) : PO X e t' := ⟨fun pins s σ H Q I q => h.run pins s σ H Q I (w σ H Q q)⟩
theorem eo_none : EO X ρ none none := po_weak po_none fun σ H Q ⟨R, s, q⟩ => q H R (Gr.refl s.sub)
theorem eo_some (h : EA X ρ e (.int i)) : EO X ρ (some e) (some i) := po_weak (po_some h) fun σ H Q ⟨R, s, q⟩ => ⟨R, s, fun v H2 R2 g w => by cases w; exact ⟨i, rfl, q H2 R2 g⟩⟩
def cutD (xs : List PyData) (lo hi : Option Int) : List PyData := (xs.drop (HT.sIx xs.length 0 lo)).take (HT.sIx xs.length xs.length hi - HT.sIx xs.length 0 lo)
theorem DqAll.cut {H : Hp} {vs : List V} (h : DqAll H vs ds) (lo hi : Option Int) : DqAll H (cutV vs lo hi) (cutD ds lo hi) := by
  unfold cutV cutD
  rw [h.len]
  exact (h.drop _).take _
variable {lo hi : Option Expr} {ol oh : Option Int} {p2 : Pos}
theorem en_slL (ha : EC X ρ a (.list ds)) (h1 : EO X ρ lo ol) (h2 : EO X ρ hi oh) : EN X ρ (.Subscript a (.Slice lo hi none p2) pos) (.list (cutD ds ol oh)) :=
  pe_weak (pe_slice sl_list ha h1 h2) fun σ H Q ⟨R, s, q⟩ => ⟨R, s, fun x H1 R1 g1 dx => ⟨R1, s.grow g1, fun H2 R2 g2 => ⟨R2, (s.grow g1).grow g2, fun H3 R3 g3 => by
    cases dx with
    | lst w1 w2 =>
      have g := (g1.trans g2).trans g3
      exact ⟨_, _, rfl, SqL.of (g3.sub _ _ (g3.reg _ _ (g2.reg _ _ w1))), fun p hp => q _ _ R3 (g.trans (Gr.beside g3.sub hp)) (.ls (g.hp.free hp) (g3.sub.free hp) upd_same ((w2.up (g2.reg.trans g3.reg)).cut ol oh))⟩⟩⟩⟩
theorem en_slT (ha : EC X ρ a (.tuple ds)) (h1 : EO X ρ lo ol) (h2 : EO X ρ hi oh) (hw : ¬ (HT.sIx ds.length 0 ol = 0 ∧ HT.sIx ds.length ds.length oh = ds.length)) : EN X ρ (.Subscript a (.Slice lo hi none p2) pos) (.tuple (cutD ds ol oh)) :=
  pe_weak (pe_slice sl_tup ha h1 h2) fun σ H Q ⟨R, s, q⟩ => ⟨R, s, fun x H1 R1 g1 dx => ⟨R1, s.grow g1, fun H2 R2 g2 => ⟨R2, (s.grow g1).grow g2, fun H3 R3 g3 => by
    cases dx with
    | tup w1 w2 =>
      have g := (g1.trans g2).trans g3
      refine ⟨_, _, rfl, SqT.of (g3.sub _ _ (g3.reg _ _ (g2.reg _ _ w1))), by rw [w2.len]; exact hw, fun p hp => q _ _ _ (g.trans (Gr.alloc g3.sub hp)) (.sc (fun _ => nofun) (.tup upd_same (((w2.up (g2.reg.trans g3.reg)).cut ol oh).up (same_new (g3.sub.free hp)))))⟩⟩⟩⟩

/-! ### arguments, displays -/
abbrev ECs (X : Cx) (ρ : List Ent) (es : List Expr) (ds : List PyData) : Prop := PA X es (tDs ρ ds)
abbrev EAs (X : Cx) (ρ : List Ent) (es : List Expr) (ds : List PyData) : Prop := PA X es (tAs ρ ds)
theorem ecs_nil : ECs X ρ [] [] := pa_weak pa_nil fun σ H Q ⟨R, s, q⟩ => q [] H R (Gr.refl s.sub) .nil
theorem eas_nil : EAs X ρ [] [] := pa_weak pa_nil fun σ H Q ⟨R, s, q⟩ => q [] H R (Gr.refl s.sub) .nil
variable {xs : List Expr}
theorem ecs_cons (h : EC X ρ e d) (hr : ECs X ρ xs ds) (hs : starEach (e :: xs) X.env = (false, eval e X.env) :: starEach xs X.env := by rfl) : ECs X ρ (e :: xs) (d :: ds) :=
  pa_weak (pa_cons h hr hs) fun σ H Q ⟨R, s, q⟩ => ⟨R, s, fun v H1 R1 g1 w => ⟨R1, s.grow g1, fun vs H2 R2 g2 ws => q _ H2 R2 (g1.trans g2) (.cons (w.up g2.reg) ws)⟩⟩
theorem eas_cons (h : EA X ρ e d) (hr : EAs X ρ xs ds) (hs : starEach (e :: xs) X.env = (false, eval e X.env) :: starEach xs X.env := by rfl) : EAs X ρ (e :: xs) (d :: ds) :=
  pa_weak (pa_cons h hr hs) fun σ H Q ⟨R, s, q⟩ => ⟨R, s, fun v H1 R1 g1 w => ⟨R1, s.grow g1, fun vs H2 R2 g2 ws => q _ H2 R2 (g1.trans g2) (.cons (w.up g2.hp) ws)⟩⟩
theorem en_tup {k0} (h : ECs X ρ xs ds) (hz : ds.length ≤ 1000 := by simp) : EN X ρ (.Tuple xs k0 pos) (.tuple ds) :=
  pe_weak (pe_tup h) fun σ H Q ⟨R, s, q⟩ => ⟨R, s, fun vs H1 R1 g1 w => ⟨by rw [w.len]; exact Nat.le_trans hz (by decide), fun p hp => q _ _ _ (g1.trans (Gr.alloc g1.sub hp)) (.sc (fun _ => nofun) (.tup upd_same (w.up (same_new (g1.sub.free hp)))))⟩⟩
theorem en_lst (h : ECs X ρ xs ds) (hz : ds.length ≤ 1000 := by simp) : EN X ρ (.List xs pos) (.list ds) :=
  pe_weak (pe_lst h) fun σ H Q ⟨R, s, q⟩ => ⟨R, s, fun vs H1 R1 g1 w => ⟨by rw [w.len]; exact Nat.le_trans hz (by decide), fun p hp => q _ _ _ (g1.trans (Gr.beside g1.sub hp)) (.ls (g1.hp.free hp) (g1.sub.free hp) upd_same w)⟩⟩

/-! ### calls of builtins -/
def Cl1 (r : List V → Hp → VK → Prop) (ds : List PyData) (d : PyData) : Prop := ∀ vs H R Q, Same R H → DqAll H vs ds → (∀ v H2 R2, Gr H R H2 R2 → NewV H H2 R2 v d → Q v H2) → r vs H Q
variable {r : List V → Hp → VK → Prop} {x : Str} {p : Pos} {id T : String}
theorem tN_cb (hr : Cl1 r ds d) : ∀ σ H Q, tN ρ d σ H Q → tCB r (tAs ρ ds) σ H Q := fun σ H Q ⟨R, s, q⟩ => ⟨R, s, fun vs H1 R1 g1 w => hr vs H1 R1 Q g1.sub w fun v H2 R2 g2 n => q v H2 R2 (g1.trans g2) (n.back g1.hp)⟩
theorem en_callB (hc : CallR X (.builtin id) r) (hr : Cl1 r ds d) (hm : X.mg x = none) (ha : EAs X ρ (e :: xs) ds) (hg : Gl X x := by rfl) (hv : bootBuiltins x = some (.builtin id) := by decide +kernel) (hn : x ≠ "__name__" := by decide) (hdb : (x == ("__debug__" : Str)) = false := by decide)
    (he : starEach (e :: xs) X.env = (false, eval e X.env) :: starEach xs X.env := by rfl) (hpl : (backTo pos (starEach xs X.env)).any (·.1) = false := by rfl) : EN X ρ (.Call (.Name x p) (e :: xs) [] pos) d :=
  pe_weak (pe_callB hc hg hm hv ha hn hdb he hpl) (tN_cb hr)
theorem en_callTy (hc : CallR X (.type T) r) (hr : Cl1 r ds d) (hm : X.mg x = none) (ha : EAs X ρ (e :: xs) ds) (hg : Gl X x := by rfl) (hv : bootBuiltins x = some (.type T) := by decide +kernel) (hn : x ≠ "__name__" := by decide) (hdb : (x == ("__debug__" : Str)) = false := by decide)
    (he : starEach (e :: xs) X.env = (false, eval e X.env) :: starEach xs X.env := by rfl) (hpl : (backTo pos (starEach xs X.env)).any (·.1) = false := by rfl) : EN X ρ (.Call (.Name x p) (e :: xs) [] pos) d :=
  pe_weak (pe_callTy hc hg hm hv ha hn hdb he hpl) (tN_cb hr)
theorem DqAll.one {H : Hp} {vs : List V} (h : DqAll H vs [d]) : ∃ v, vs = [v] ∧ Dq H v d := by
  cases h with
  | cons h1 h2 => cases h2; exact ⟨_, rfl, h1⟩
theorem DqAll.two {H : Hp} {vs : List V} (h : DqAll H vs [da, db]) : ∃ v w, vs = [v, w] ∧ Dq H v da ∧ Dq H w db := by
  cases h with
  | cons h1 h2 => cases h2 with
    | cons h3 h4 => cases h4; exact ⟨_, _, rfl, h1, h3⟩
/-- len -/
theorem cl_len : Cl1 (fun xs H Q => ∃ p ys, xs = [.ref p] ∧ (SqL X.K H p ys ∨ SqT X.K H p ys) ∧ Q (.int ys.length) H) [.list ds] (.int (ds.length : Int)) := fun vs H R Q s w q => by
  obtain ⟨v, rfl, h⟩ := w.one
  cases h with
  | lst h1 h2 => exact ⟨_, _, rfl, .inl (SqL.of h1), by rw [h2.len]; exact q _ H R (Gr.refl s) (NewV.atom rfl (.int (H := H) _))⟩
theorem cl_lenT : Cl1 (fun xs H Q => ∃ p ys, xs = [.ref p] ∧ (SqL X.K H p ys ∨ SqT X.K H p ys) ∧ Q (.int ys.length) H) [.tuple ds] (.int (ds.length : Int)) := fun vs H R Q s w q => by
  obtain ⟨v, rfl, h⟩ := w.one
  cases h with
  | tup h1 h2 => exact ⟨_, _, rfl, .inr (SqT.of h1), by rw [h2.len]; exact q _ H R (Gr.refl s) (NewV.atom rfl (.int (H := H) _))⟩
theorem cl_max2 : Cl1 (fun xs H Q => ∃ i j, xs = [.int i, .int j] ∧ Q (.int (if j > i then j else i)) H) [.int i, .int j] (.int (if j > i then j else i)) := fun vs H R Q s w q => by
  obtain ⟨v, u, rfl, h1, h2⟩ := w.two
  cases h1; cases h2
  exact ⟨i, j, rfl, q _ H R (Gr.refl s) (NewV.atom rfl (.int (H := H) _))⟩
theorem cl_min2 : Cl1 (fun xs H Q => ∃ i j, xs = [.int i, .int j] ∧ Q (.int (if j < i then j else i)) H) [.int i, .int j] (.int (if j < i then j else i)) := fun vs H R Q s w q => by
  obtain ⟨v, u, rfl, h1, h2⟩ := w.two
  cases h1; cases h2
  exact ⟨i, j, rfl, q _ H R (Gr.refl s) (NewV.atom rfl (.int (H := H) _))⟩
theorem cl_int : Cl1 (fun xs H Q => (∃ i, xs = [.int i] ∧ Q (.int i) H) ∨ ∃ k, xs = [.bl k] ∧ Q (.int (if k then 1 else 0)) H) [.int i] (.int i) := fun vs H R Q s w q => by
  obtain ⟨v, rfl, h⟩ := w.one
  cases h
  exact .inl ⟨i, rfl, q _ H R (Gr.refl s) (NewV.atom rfl (.int (H := H) _))⟩
theorem cl_intB : Cl1 (fun xs H Q => (∃ i, xs = [.int i] ∧ Q (.int i) H) ∨ ∃ k, xs = [.bl k] ∧ Q (.int (if k then 1 else 0)) H) [.bool k] (.int (if k then 1 else 0)) := fun vs H R Q s w q => by
  obtain ⟨v, rfl, h⟩ := w.one
  cases h
  exact .inr ⟨k, rfl, q _ H R (Gr.refl s) (NewV.atom rfl (.int (H := H) _))⟩
theorem Dq.ints {H : Hp} {v : V} {ns : List Int} (h : Dq H v (.list (ns.map PyData.int))) : ∃ a, v = .ref a ∧ H a = some (.lst (ns.map V.int)) := by
  cases h with
  | lst h1 h2 => rw [h2.ints] at h1; exact ⟨_, rfl, h1⟩
/-- what is new and known to be a list of ints -/
theorem new_ints {H R : Hp} {p : Addr} {ns : List Int} {Q : VK} (s : Same R H) (hp : H p = none) (q : ∀ v H2 R2, Gr H R H2 R2 → NewV H H2 R2 v (.list (ns.map PyData.int)) → Q v H2) : Q (.ref p) (upd H p (.lst (ns.map V.int))) :=
  q _ _ R (Gr.beside s hp) (.ls hp (s.free hp) upd_same (DqAll.of_ints ns))
/-- ascending by insertion -/
def ins1 (x : Int) : List Int → List Int
  | [] => [x]
  | y :: ys => if x ≤ y then x :: y :: ys else y :: ins1 x ys
def srt : List Int → List Int
  | [] => []
  | x :: xs => ins1 x (srt xs)
theorem ins1_perm (x : Int) : ∀ ys, (ins1 x ys).Perm (x :: ys)
  | [] => .refl _
  | y :: ys => by
    unfold ins1
    split
    · exact .refl _
    · exact ((ins1_perm x ys).cons y).trans (.swap x y ys)
theorem srt_perm : ∀ xs, (srt xs).Perm xs
  | [] => .refl _
  | x :: xs => (ins1_perm x _).trans ((srt_perm xs).cons x)
theorem ins1_mem {x z : Int} {ys : List Int} : z ∈ ins1 x ys ↔ z = x ∨ z ∈ ys := by
  rw [(ins1_perm x ys).mem_iff, List.mem_cons]
theorem ins1_srt (x : Int) : ∀ ys : List Int, ys.Pairwise (· ≤ ·) → (ins1 x ys).Pairwise (· ≤ ·)
  | [], _ => by simp [ins1]
  | y :: ys, h => by
    have h' := List.pairwise_cons.mp h
    unfold ins1
    split
    · rename_i hxy
      refine List.pairwise_cons.mpr ⟨fun z hz => ?_, h⟩
      rcases List.mem_cons.mp hz with rfl | hz
      · exact hxy
      · exact Int.le_trans hxy (h'.1 z hz)
    · rename_i hxy
      refine List.pairwise_cons.mpr ⟨fun z hz => ?_, ins1_srt x ys h'.2⟩
      rcases ins1_mem.mp hz with rfl | hz
      · omega
      · exact h'.1 z hz
theorem srt_srt : ∀ xs, (srt xs).Pairwise (· ≤ ·)
  | [] => .nil
  | x :: xs => ins1_srt x _ (srt_srt xs)
theorem perm_srt_eq : ∀ {xs ys : List Int}, xs.Perm ys → xs.Pairwise (· ≤ ·) → ys.Pairwise (· ≤ ·) → xs = ys
  | [], ys, p, _, _ => p.symm.eq_nil.symm
  | x :: xs, [], p, _, _ => by have := p.length_eq; simp at this
  | x :: xs, y :: ys, p, hx, hy => by
    have h1 := List.pairwise_cons.mp hx
    have h2 := List.pairwise_cons.mp hy
    have e : x = y := by
      have m1 : x ∈ y :: ys := p.mem_iff.mp List.mem_cons_self
      have m2 : y ∈ x :: xs := p.mem_iff.mpr List.mem_cons_self
      have l1 : y ≤ x := by
        rcases List.mem_cons.mp m1 with e | m
        · omega
        · exact h2.1 _ m
      have l2 : x ≤ y := by
        rcases List.mem_cons.mp m2 with e | m
        · omega
        · exact h1.1 _ m
      omega
    subst e
    rw [perm_srt_eq (List.Perm.cons_inv p) h1.2 h2.2]
theorem srt_of {ns' ns : List Int} (p : ns'.Perm ns) (h : ns'.Pairwise (· ≤ ·)) : ns' = srt ns := perm_srt_eq (p.trans (srt_perm ns).symm) h (srt_srt ns)
/-- sorted(list of ints) -/
theorem cl_sorted {ns : List Int} : Cl1 (rSortedI X.K) [.list (ns.map PyData.int)] (.list ((srt ns).map PyData.int)) := fun vs H R Q s w q => by
  obtain ⟨v, rfl, h⟩ := w.one
  obtain ⟨l, rfl, h1⟩ := h.ints
  refine ⟨l, ns, rfl, SqL.of h1, fun ns' p hp hs hn => ?_⟩
  rw [srt_of hp hs]
  exact new_ints s hn q
/-- sum(list of ints) -/
theorem cl_sum {ns : List Int} : Cl1 (rSum X.K) [.list (ns.map PyData.int)] (.int ns.sum) := fun vs H R Q s w q => by
  obtain ⟨v, rfl, h⟩ := w.one
  obtain ⟨l, rfl, h1⟩ := h.ints
  exact ⟨l, ns, rfl, SqL.of h1, q _ H R (Gr.refl s) (NewV.atom rfl (.int (H := H) _))⟩
/-- max(list of ints) -/
theorem cl_max {ns : List Int} {m : Int} (hm : m ∈ ns) (hle : ∀ y ∈ ns, y ≤ m) : Cl1 (rMax X.K) [.list (ns.map PyData.int)] (.int m) := fun vs H R Q s w q => by
  obtain ⟨v, rfl, h⟩ := w.one
  obtain ⟨l, rfl, h1⟩ := h.ints
  refine ⟨l, ns, rfl, SqL.of h1, List.length_pos_of_mem hm, fun m' h1 h2 => ?_⟩
  have e : m' = m := by
    have := hle m' h1
    have := h2 m hm
    omega
  rw [e]
  exact q _ H R (Gr.refl s) (NewV.atom rfl (.int (H := H) _))
/-- isinstance(x, T), T a built-in type -/
def clsOf : PyData → Option String
  | .none => some "NoneType"
  | .bool _ => some "bool"
  | .int _ => some "int"
  | .str _ => some "str"
  | .list _ => some "list"
  | .tuple _ => some "tuple"
  | .dict _ => none
end
end KR
namespace KR
open PySem L2

/-! ### defs -/
def spD (Φ : List PyData → PyData → Prop) : Sp := fun vs H Q _ => ∃ R ds d, Same R H ∧ DqAll R vs ds ∧ Φ ds d ∧ ∀ v H2 R2, Gr H R H2 R2 → NewV H H2 R2 v d → Q v H2
section
variable {X : Cx} {ρ : List Ent} {e a b c : Expr} {d da db : PyData} {pos : Pos} {i j : Int} {ds es : List PyData} {xs : List Expr} {k : Nat} {f : Addr} {fd : FuncData} {ps : List Str} {Φ : List PyData → PyData → Prop} {x : Str} {p : Pos}
theorem en_call (F : FnOk X.prog X.w X.K X.mg X.base CX0 k f fd ps (spD Φ)) (hr : Room k X.A) (hm : X.mg x = some (.ref f)) (hk : PySem.W.keepIn X.K (.ref f) = true) (hb : Binds X.K fd ps []) (ha : ECs X ρ (e :: xs) ds) (hΦ : Φ ds d)
    (hg : Gl X x := by rfl) (hdb : (x == ("__debug__" : Str)) = false := by decide) (he : starEach (e :: xs) X.env = (false, eval e X.env) :: starEach xs X.env := by rfl) (hpl : (backTo pos (starEach xs X.env)).any (·.1) = false := by rfl) :
    EN X ρ (.Call (.Name x p) (e :: xs) [] pos) d :=
  pe_weak (pe_call F hr hg hm hk hb .nil pass0 ha hdb he hpl) fun σ H Q ⟨R, s, q⟩ => ⟨R, s, fun vs H1 R1 g1 w => ⟨R1, ds, d, g1.sub, by rw [List.append_nil]; exact w, hΦ, fun v H2 R2 g2 n => q v H2 R2 (g1.trans g2) (n.back g1.hp)⟩⟩
end

/-! ### statements -/
structure StP (H0 R0 : Hp) (σ : L2.St) (H R : Hp) (ρ : List Ent) : Prop where
  sl : Sl σ H R ρ
  gr : Gr H0 R0 H R
  fr : ∀ (i : Nat) ds p, ρ[i]? = some (.own ds) → σ[i]? = some (some (.ref p)) → H0 p = none
theorem StP.grow {H0 R0 H R H2 R2 : Hp} {σ : L2.St} {ρ : List Ent} (s : StP H0 R0 σ H R ρ) (g : Gr H R H2 R2) : StP H0 R0 σ H2 R2 ρ := ⟨s.sl.grow g, s.gr.trans g, s.fr⟩
def tS (ρ : List Ent) (nx : List Ent → Prop) (rt : PyData → Prop) : TS := fun D σ H => ∃ H0 R0 R, StP H0 R0 σ H R ρ ∧
  (∀ σ' H' R' ρ', nx ρ' → StP H0 R0 σ' H' R' ρ' → D.nx σ' H') ∧ ∀ v H' R' d, rt d → Gr H0 R0 H' R' → NewV H0 H' R' v d → D.rt v H'
abbrev DS (X : Cx) (ρ : List Ent) (st : Stmt) (nx : List Ent → Prop) (rt : PyData → Prop) : Prop := PS X st (tS ρ nx rt)
abbrev DSs (X : Cx) (ρ : List Ent) (sts : List Stmt) (nx : List Ent → Prop) (rt : PyData → Prop) : Prop := PSs X sts (tS ρ nx rt)
section
variable {X : Cx} {ρ : List Ent} {st : Stmt} {sts : List Stmt} {nx mid : List Ent → Prop} {rt : PyData → Prop} {e : Expr} {d : PyData} {ds : List PyData} {pos : Pos}
theorem ps_weak {t t' : TS} (h : PS X st t) (w : ∀ D σ H, t' D σ H → t D σ H) : PS X st t' := ⟨fun pins s σ H D I q => h.run pins s σ H D I (w D σ H q)⟩
theorem pss_weak {t t' : TS} (h : PSs X sts t) (w : ∀ D σ H, t' D σ H → t D σ H) : PSs X sts t' := ⟨fun pins s σ H D I q => h.run pins s σ H D I (w D σ H q)⟩
theorem dss_nil (h : nx ρ) : DSs X ρ [] nx rt := pss_weak pss_nil fun D σ H ⟨H0, R0, R, s, k, _⟩ => k σ H R ρ h s
theorem dss_cons (h : DS X ρ st mid rt) (h2 : ∀ ρ', mid ρ' → DSs X ρ' sts nx rt) : DSs X ρ (st :: sts) nx rt := by
  have all : PSs X sts (fun D σ H => ∃ ρ', mid ρ' ∧ tS ρ' nx rt D σ H) := ⟨fun pins s σ H D I ⟨ρ', m, q⟩ => (h2 ρ' m).run pins s σ H D I q⟩
  exact pss_weak (pss_cons h all) fun D σ H ⟨H0, R0, R, s, k, r⟩ => ⟨H0, R0, R, s, fun σ' H' R' ρ' m s' => ⟨ρ', m, H0, R0, R', s', k, r⟩, r⟩
theorem dss_one (h : DS X ρ st nx rt) : DSs X ρ [st] nx rt := pss_one h
/-- the usual way on: what follows is what stands behind -/
theorem dss_seq (h : DS X ρ st (fun ρ' => DSs X ρ' sts nx rt) rt) : DSs X ρ (st :: sts) nx rt := dss_cons h fun _ q => q
theorem ds_never : DS X ρ st nx rt → DS X ρ st nx rt := id

/-! the slots behind a store -/
theorem Sl.setV {σ : L2.St} {H R : Hp} (s : Sl σ H R ρ) {i : Nat} {v : V} (q : Dq R v d) : Sl (σ.set i (some v)) H R (ρ.set i (.val d)) := by
  refine ⟨s.sub, by rw [List.length_set, List.length_set]; exact s.len, fun j d' e => ?_, fun j ds e => ?_, fun j l ds es p e1 e2 e3 e4 => ?_⟩
  · by_cases h : j = i
    · subst h
      have hj : j < ρ.length := by have := (List.getElem?_eq_some_iff.mp e).1; rw [List.length_set] at this; exact this
      rw [List.getElem?_set_self hj] at e
      cases e
      exact ⟨v, List.getElem?_set_self (by rw [s.len]; exact hj), q⟩
    · rw [List.getElem?_set_ne (Ne.symm h)] at e
      obtain ⟨u, e1, q1⟩ := s.val j d' e
      exact ⟨u, by rw [List.getElem?_set_ne (Ne.symm h)]; exact e1, q1⟩
  · have h : j ≠ i := fun z => by
      subst z
      have hj : j < ρ.length := by have := (List.getElem?_eq_some_iff.mp e).1; rw [List.length_set] at this; exact this
      rw [List.getElem?_set_self hj] at e
      cases e
    rw [List.getElem?_set_ne (Ne.symm h)] at e
    obtain ⟨p, xs, e1, q1⟩ := s.own j ds e
    exact ⟨p, xs, by rw [List.getElem?_set_ne (Ne.symm h)]; exact e1, q1⟩
  · have ne : ∀ {m : Nat} {zs : List PyData}, (ρ.set i (.val d))[m]? = some (.own zs) → m ≠ i := fun {m zs} e z => by
      subst z
      have hj : m < ρ.length := by have := (List.getElem?_eq_some_iff.mp e).1; rw [List.length_set] at this; exact this
      rw [List.getElem?_set_self hj] at e
      cases e
    have n1 := ne e1
    have n2 := ne e2
    rw [List.getElem?_set_ne (Ne.symm n1)] at e1 e3
    rw [List.getElem?_set_ne (Ne.symm n2)] at e2 e4
    exact s.sep j l ds es p e1 e2 e3 e4
theorem Sl.setO {σ : L2.St} {H R : Hp} (s : Sl σ H R ρ) {i : Nat} {p : Addr} {xs : List V} (hp : R p = none) (hx : H p = some (.lst xs)) (q : DqAll R xs ds) (hn : ∀ (j : Nat) es, j ≠ i → ρ[j]? = some (.own es) → σ[j]? ≠ some (some (.ref p))) :
    Sl (σ.set i (some (.ref p))) H R (ρ.set i (.own ds)) := by
  refine ⟨s.sub, by rw [List.length_set, List.length_set]; exact s.len, fun j d' e => ?_, fun j es e => ?_, fun j l es fs u e1 e2 e3 e4 => ?_⟩
  · have h : j ≠ i := fun z => by
      subst z
      have hj : j < ρ.length := by have := (List.getElem?_eq_some_iff.mp e).1; rw [List.length_set] at this; exact this
      rw [List.getElem?_set_self hj] at e
      cases e
    rw [List.getElem?_set_ne (Ne.symm h)] at e
    obtain ⟨u, e1, q1⟩ := s.val j d' e
    exact ⟨u, by rw [List.getElem?_set_ne (Ne.symm h)]; exact e1, q1⟩
  · by_cases h : j = i
    · subst h
      have hj : j < ρ.length := by have := (List.getElem?_eq_some_iff.mp e).1; rw [List.length_set] at this; exact this
      rw [List.getElem?_set_self hj] at e
      cases e
      exact ⟨p, xs, List.getElem?_set_self (by rw [s.len]; exact hj), hp, hx, q⟩
    · rw [List.getElem?_set_ne (Ne.symm h)] at e
      obtain ⟨u, ys, e1, q1⟩ := s.own j es e
      exact ⟨u, ys, by rw [List.getElem?_set_ne (Ne.symm h)]; exact e1, q1⟩
  · have at_i : ∀ {m : Nat} {zs : List PyData} {u : Addr}, (ρ.set i (.own ds))[m]? = some (.own zs) → (σ.set i (some (.ref p)))[m]? = some (some (.ref u)) → (m = i ∧ u = p) ∨ (m ≠ i ∧ ρ[m]? = some (.own zs) ∧ σ[m]? = some (some (.ref u))) := fun {m zs u} e e' => by
      by_cases h : m = i
      · subst h
        have hj : m < σ.length := by have := (List.getElem?_eq_some_iff.mp e').1; rw [List.length_set] at this; exact this
        rw [List.getElem?_set_self hj] at e'
        cases e'
        exact .inl ⟨rfl, rfl⟩
      · rw [List.getElem?_set_ne (Ne.symm h)] at e e'
        exact .inr ⟨h, e, e'⟩
    rcases at_i e1 e3 with ⟨a1, a2⟩ | ⟨a1, a2, a3⟩
    · rcases at_i e2 e4 with ⟨b1, b2⟩ | ⟨b1, b2, b3⟩
      · rw [a1, b1]
      · subst a2
        exact absurd b3 (hn l fs b1 b2)
    · rcases at_i e2 e4 with ⟨b1, b2⟩ | ⟨b1, b2, b3⟩
      · subst b2
        exact absurd a3 (hn j es a1 a2)
      · exact s.sep j l es fs u a2 b2 a3 b3
theorem StP.setV {H0 R0 : Hp} {σ : L2.St} {H R : Hp} (s : StP H0 R0 σ H R ρ) {i : Nat} {v : V} (q : Dq R v d) : StP H0 R0 (σ.set i (some v)) H R (ρ.set i (.val d)) := by
  refine ⟨s.sl.setV q, s.gr, fun j ds p e1 e2 => ?_⟩
  have h : j ≠ i := fun z => by
    subst z
    have hj : j < ρ.length := by have := (List.getElem?_eq_some_iff.mp e1).1; rw [List.length_set] at this; exact this
    rw [List.getElem?_set_self hj] at e1
    cases e1
  rw [List.getElem?_set_ne (Ne.symm h)] at e1 e2
  exact s.fr j ds p e1 e2
/-- a new list into a slot of one's own -/
theorem StP.setO {H0 R0 : Hp} {σ : L2.St} {H R H2 R2 : Hp} (s : StP H0 R0 σ H R ρ) (g : Gr H R H2 R2) {i : Nat} {p : Addr} {xs : List V} (hn : H p = none) (hp : R2 p = none) (hx : H2 p = some (.lst xs)) (q : DqAll R2 xs ds) :
    StP H0 R0 (σ.set i (some (.ref p))) H2 R2 (ρ.set i (.own ds)) := by
  refine ⟨(s.sl.grow g).setO hp hx q fun j es hj e1 e2 => ?_, s.gr.trans g, fun j es u e1 e2 => ?_⟩
  · obtain ⟨u, ys, e3, _, e4, _⟩ := s.sl.own j es e1
    rw [e2] at e3
    cases e3
    rw [hn] at e4; cases e4
  · by_cases h : j = i
    · subst h
      have hj : j < σ.length := by have := (List.getElem?_eq_some_iff.mp e2).1; rw [List.length_set] at this; exact this
      rw [List.getElem?_set_self hj] at e2
      cases e2
      exact s.gr.hp.free hn
    · rw [List.getElem?_set_ne (Ne.symm h)] at e1 e2
      exact s.fr j es u e1 e2
/-- a list of one's own changes -/
theorem StP.mut {H0 R0 : Hp} {σ : L2.St} {H R : Hp} (s : StP H0 R0 σ H R ρ) {i : Nat} {p : Addr} {ys : List V} {es : List PyData} (hi : ρ[i]? = some (.own ds)) (hp : σ[i]? = some (some (.ref p))) (q : DqAll R ys es) :
    StP H0 R0 σ (upd H p (.lst ys)) R (ρ.set i (.own es)) := by
  obtain ⟨p', xs, e1, e2, e3, _⟩ := s.sl.own i ds hi
  rw [hp] at e1; cases e1
  have f0 := s.fr i ds p hi hp
  have hlt : i < ρ.length := (List.getElem?_eq_some_iff.mp hi).1
  have sub : Same R (upd H p (.lst ys)) := fun b o e => by
    rw [upd_ne (ne_of_none e e2)]; exact s.sl.sub b o e
  refine ⟨⟨sub, by rw [List.length_set]; exact s.sl.len, fun j d' e => ?_, fun j fs e => ?_, fun j l fs gs u k1 k2 k3 k4 => ?_⟩, ⟨s.gr.reg, fun b o e => ?_, sub, s.gr.new⟩, fun j fs u k1 k2 => ?_⟩
  · have h : j ≠ i := fun z => by
      subst z
      rw [List.getElem?_set_self hlt] at e; cases e
    rw [List.getElem?_set_ne (Ne.symm h)] at e
    exact s.sl.val j d' e
  · by_cases h : j = i
    · subst h
      rw [List.getElem?_set_self hlt] at e
      cases e
      exact ⟨p, ys, hp, e2, upd_same, q⟩
    · rw [List.getElem?_set_ne (Ne.symm h)] at e
      obtain ⟨u, zs, k1, k2, k3, k4⟩ := s.sl.own j fs e
      have hup : u ≠ p := fun z => by
        subst z
        exact h (s.sl.sep j i fs ds u e hi k1 hp)
      exact ⟨u, zs, k1, k2, by rw [upd_ne hup]; exact k3, k4⟩
  · have was : ∀ {m : Nat} {zs : List PyData}, (ρ.set i (.own es))[m]? = some (.own zs) → ∃ zs', ρ[m]? = some (.own zs') := fun {m zs} e => by
      by_cases h : m = i
      · subst h; exact ⟨ds, hi⟩
      · rw [List.getElem?_set_ne (Ne.symm h)] at e; exact ⟨_, e⟩
    obtain ⟨_, w1⟩ := was k1
    obtain ⟨_, w2⟩ := was k2
    exact s.sl.sep j l _ _ u w1 w2 k3 k4
  · rw [upd_ne (ne_of_none e f0)]; exact s.gr.hp b o e
  · by_cases h : j = i
    · subst h
      rw [hp] at k2; cases k2
      exact f0
    · rw [List.getElem?_set_ne (Ne.symm h)] at k1
      exact s.fr j fs u k1 k2
/-- a list of one's own is not changed any more -/
theorem StP.freeze {H0 R0 : Hp} {σ : L2.St} {H R : Hp} (s : StP H0 R0 σ H R ρ) {i : Nat} (hi : ρ[i]? = some (.own ds)) : ∃ R', StP H0 R0 σ H R' (ρ.set i (.val (.list ds))) := by
  obtain ⟨p, xs, e1, e2, e3, q⟩ := s.sl.own i ds hi
  have f0 := s.fr i ds p hi e1
  have hlt : i < ρ.length := (List.getElem?_eq_some_iff.mp hi).1
  have up : Same R (upd R p (.lst xs)) := same_new e2
  have g := s.gr.take f0 e3 e2
  refine ⟨upd R p (.lst xs), ⟨g.sub, by rw [List.length_set]; exact s.sl.len, fun j d' e => ?_, fun j fs e => ?_, fun j l fs gs u k1 k2 k3 k4 => ?_⟩, g, fun j fs u k1 k2 => ?_⟩
  · by_cases h : j = i
    · subst h
      rw [List.getElem?_set_self hlt] at e
      cases e
      exact ⟨_, e1, .lst upd_same (q.up up)⟩
    · rw [List.getElem?_set_ne (Ne.symm h)] at e
      obtain ⟨u, k1, k2⟩ := s.sl.val j d' e
      exact ⟨u, k1, k2.up up⟩
  · have h : j ≠ i := fun z => by
      subst z
      rw [List.getElem?_set_self hlt] at e; cases e
    rw [List.getElem?_set_ne (Ne.symm h)] at e
    obtain ⟨u, zs, k1, k2, k3, k4⟩ := s.sl.own j fs e
    have hup : u ≠ p := fun z => by
      subst z
      exact h (s.sl.sep j i fs ds u e hi k1 e1)
    exact ⟨u, zs, k1, by rw [upd_ne hup]; exact k2, k3, k4.up up⟩
  · have ne : ∀ {m : Nat} {zs : List PyData}, (ρ.set i (.val (.list ds)))[m]? = some (.own zs) → m ≠ i := fun {m zs} e z => by
      subst z
      rw [List.getElem?_set_self hlt] at e; cases e
    have n1 := ne k1
    have n2 := ne k2
    rw [List.getElem?_set_ne (Ne.symm n1)] at k1
    rw [List.getElem?_set_ne (Ne.symm n2)] at k2
    exact s.sl.sep j l fs gs u k1 k2 k3 k4
  · have h : j ≠ i := fun z => by
      subst z
      rw [List.getElem?_set_self hlt] at k1; cases k1
    rw [List.getElem?_set_ne (Ne.symm h)] at k1
    exact s.fr j fs u k1 k2
theorem dss_freeze (i : Nat) (h : DSs X (ρ.set i (.val (.list ds))) sts nx rt) (hi : ρ[i]? = some (.own ds) := by rfl) : DSs X ρ sts nx rt :=
  pss_weak h fun D σ H ⟨H0, R0, R, s, k, r⟩ => by
    obtain ⟨R', s'⟩ := s.freeze hi
    exact ⟨H0, R0, R', s', k, r⟩
theorem ds_freeze (i : Nat) (h : DS X (ρ.set i (.val (.list ds))) st nx rt) (hi : ρ[i]? = some (.own ds) := by rfl) : DS X ρ st nx rt :=
  ps_weak h fun D σ H ⟨H0, R0, R, s, k, r⟩ => by
    obtain ⟨R', s'⟩ := s.freeze hi
    exact ⟨H0, R0, R', s', k, r⟩

/-! ### the statements -/
variable {x : Str} {pos' : Pos}
/-- a statement of the form name = value, its reading known -/
theorem asg_val {te : TE} {i : Nat} (hs : PS X st (tAsg te (gName i))) (ht : ∀ σ H Q, tD ρ d σ H Q → te σ H Q) (k : nx (ρ.set i (.val d))) : DS X ρ st nx rt :=
  ps_weak hs fun D σ H ⟨H0, R0, R, s, kn, _⟩ => ht σ H _ ⟨R, s.sl, fun v H2 R2 g w => kn _ _ R2 _ k ((s.grow g).setV w)⟩
theorem asg_own {te : TE} {i : Nat} (hs : PS X st (tAsg te (gName i))) (ht : ∀ σ H Q, tN ρ (.list ds) σ H Q → te σ H Q) (k : nx (ρ.set i (.own ds))) : DS X ρ st nx rt :=
  ps_weak hs fun D σ H ⟨H0, R0, R, s, kn, _⟩ => ht σ H _ ⟨R, s.sl, fun v H2 R2 g w => by
    cases w with
    | sc h _ => exact absurd rfl (h ds)
    | ls h1 h2 h3 q => exact kn _ _ R2 _ k (s.setO g h1 h2 h3 q)⟩
theorem ds_set (i : Nat) (h : EC X ρ e d) (k : nx (ρ.set i (.val d))) (hN : X.N.Nodup) (hi : X.N[i]? = some x := by rfl) (hx : Loc X.env.scope x := by first | exact Or.inl rfl | exact Or.inr rfl) (hs : swapsWith e (some (.Name x pos')) pos.line X.env = pure false := by rfl)
    (hf : X.fn x = true ∨ X.env.scope.names.lookup x = some .local := by first | exact .inl rfl | exact .inr rfl | assumption) : DS X ρ (.Assign [.Name x pos'] e pos) nx rt :=
  asg_val (ps_set hN hi hx h hs hf) (fun _ _ _ q => q) k
theorem ds_own (i : Nat) (h : EN X ρ e (.list ds)) (k : nx (ρ.set i (.own ds))) (hN : X.N.Nodup) (hi : X.N[i]? = some x := by rfl) (hx : Loc X.env.scope x := by first | exact Or.inl rfl | exact Or.inr rfl) (hs : swapsWith e (some (.Name x pos')) pos.line X.env = pure false := by rfl)
    (hf : X.fn x = true ∨ X.env.scope.names.lookup x = some .local := by first | exact .inl rfl | exact .inr rfl | assumption) : DS X ρ (.Assign [.Name x pos'] e pos) nx rt :=
  asg_own (ps_set hN hi hx h hs hf) (fun _ _ _ q => q) k
theorem ds_ret (h : EN X ρ e d) (k : rt d) : DS X ρ (.Return (some e) pos) nx rt :=
  ps_weak (ps_ret h) fun D σ H ⟨H0, R0, R, s, _, r⟩ => ⟨R, s.sl, fun v H2 R2 g n => r v H2 R2 d k (s.gr.trans g) (n.back s.gr.hp)⟩
theorem ds_retO (i : Nat) (k : rt (.list ds)) (hi : ρ[i]? = some (.own ds) := by rfl) (hN : X.N[i]? = some x := by rfl) (hv : Vis X.env.scope x := by first | exact Or.inl rfl | exact Or.inr (Or.inl rfl) | exact Or.inr (Or.inr rfl))
    (h1 : (x == ("__debug__" : Str)) = false := by decide) (h2 : (x == ("__classdict__" : Str)) = false := by decide) : DS X ρ (.Return (some (.Name x pos')) pos) nx rt :=
  ps_weak (ps_ret (pe_var hN hv h1 h2)) fun D σ H ⟨H0, R0, R, s, _, r⟩ => by
    obtain ⟨p, xs, e1, e2, e3, q⟩ := s.sl.own i ds hi
    exact ⟨_, e1, r _ H R _ k s.gr (.ls (s.fr i ds p hi e1) e2 e3 q)⟩
theorem ds_if {c : Expr} {A B : List Stmt} {k : Bool} (h : ET X ρ c k) (h1 : k = true → DSs X ρ A nx rt) (h2 : k = false → DSs X ρ B nx rt) : DS X ρ (.If c A B pos) nx rt := by
  cases k with
  | true => exact ps_weak (ps_if h (h1 rfl) pss_never) fun D σ H ⟨H0, R0, R, s, kn, r⟩ => ⟨R, s.sl, fun H2 R2 g => iteT ⟨H0, R0, R2, s.grow g, kn, r⟩⟩
  | false => exact ps_weak (ps_if h pss_never (h2 rfl)) fun D σ H ⟨H0, R0, R, s, kn, r⟩ => ⟨R, s.sl, fun H2 R2 g => iteF ⟨H0, R0, R2, s.grow g, kn, r⟩⟩
/-- an expression whose value is dropped -/
theorem ds_expr (h : EA X ρ e d) (k : nx ρ) (hs : swapsWith e none pos.line X.env = pure false := by rfl) : DS X ρ (.Expr e pos) nx rt :=
  ps_weak (ps_expr h hs) fun D σ H ⟨H0, R0, R, s, kn, _⟩ => ⟨R, s.sl, fun v H2 R2 g _ => kn σ H2 R2 ρ k (s.grow g)⟩
/-- xs.append(e), xs of one's own -/
theorem ds_app (i : Nat) {apos npos : Pos} (h : EC X ρ e d) (k : nx (ρ.set i (.own (ds ++ [d])))) (hz : ds.length < 100000) (hi : ρ[i]? = some (.own ds) := by rfl) (hN : X.N[i]? = some x := by rfl) (hv : Vis X.env.scope x := by first | exact Or.inl rfl | exact Or.inr (Or.inl rfl) | exact Or.inr (Or.inr rfl))
    (h1 : (x == ("__debug__" : Str)) = false := by decide) (h2 : (x == ("__classdict__" : Str)) = false := by decide)
    (hw : swapsWith (.Call (.Attribute (.Name x npos) "append" apos) [e] [] pos') none pos.line X.env = pure false := by rfl)
    (hbase : attributeBase (.Name x npos) "append" X.env (eval (.Name x npos) X.env) = eval (.Name x npos) X.env := by rfl)
    (hfew : ((backTo pos' (starEach [e] X.env)).all (fun x => !x.1) && (backToKw pos' (keywordEach [] X.env)).all (fun x => x.1.isSome) && decide (([e] : List Expr).length + ([] : List Keyword).length + (if ([] : List Keyword).isEmpty then 0 else 1) < 30)) = true := by rfl)
    (hline : (apos.endLine == pos'.line) = true := by rfl) (hs : starEach [e] X.env = (false, eval e X.env) :: starEach [] X.env := by rfl) (hpl : (backTo pos' (starEach [] X.env)).any (·.1) = false := by rfl) :
    DS X ρ (.Expr (.Call (.Attribute (.Name x npos) "append" apos) [e] [] pos') pos) nx rt :=
  ps_weak (ps_expr (pe_bm PySem.F.plainAttrs_list PySem.F.slot_list_append PySem.F.type_list_append mt_append (pe_var hN hv h1 h2) (pa_cons h pa_nil hs) hbase hfew hline hs hpl) hw) fun D σ H ⟨H0, R0, R, s, kn, _⟩ => by
    obtain ⟨p, xs, e1, e2, e3, q⟩ := s.sl.own i ds hi
    refine ⟨_, e1, .inl ⟨rfl, xs, SqL.of e3⟩, R, s.sl, fun v H2 R2 g w => ?_⟩
    refine ⟨p, xs, v, rfl, rfl, g.hp _ _ e3, by rw [q.len]; exact Nat.lt_trans hz (by decide), kn _ _ R2 _ k ((s.grow g).mut hi e1 ((q.up g.reg).app (.cons w .nil)))⟩
/-- xs[j] = e, xs of one's own -/
theorem ds_setIx (i : Nat) {b : Expr} {spos npos : Pos} {j : Nat} (h : EC X ρ e d) (hb : EA X ρ b (.int (j : Int))) (hj : j < ds.length) (k : nx (ρ.set i (.own (ds.set j d)))) (hi : ρ[i]? = some (.own ds) := by rfl) (hN : X.N[i]? = some x := by rfl)
    (hv : Vis X.env.scope x := by first | exact Or.inl rfl | exact Or.inr (Or.inl rfl) | exact Or.inr (Or.inr rfl)) (h1 : (x == ("__debug__" : Str)) = false := by decide) (h2 : (x == ("__classdict__" : Str)) = false := by decide)
    (ha : ∀ v, assign (.Subscript (.Name x npos) b spos) X.env v = (do
      let ov ← holding [v] (eval (.Name x npos) X.env)
      let iv ← holding [v, ov] (eval b X.env)
      standAt spos
      holding [v, ov, iv] (setItem ov iv v)
      release [v, ov, iv] []) := by intro _; rfl)
    (hs : swapsWithSole [.Subscript (.Name x npos) b spos] e pos.line X.env = pure false := by rfl) (hw : swappedStores [.Subscript (.Name x npos) b spos] e X.env = pure none := by rfl)
    (h3 : (assignEach [.Subscript (.Name x npos) b spos] X.env).map (·.2) = [assign (.Subscript (.Name x npos) b spos) X.env] := by rfl) : DS X ρ (.Assign [.Subscript (.Name x npos) b spos] e pos) nx rt :=
  ps_weak (ps_asg h (pg_sub (pe_var hN hv h1 h2) hb set_list ha) hs hw h3) fun D σ H ⟨H0, R0, R, s, kn, _⟩ => ⟨R, s.sl, fun v H1 R1 g1 w => by
    have s1 := s.grow g1
    obtain ⟨p, xs, e1, e2, e3, q⟩ := s1.sl.own i ds hi
    refine ⟨_, e1, R1, s1.sl, fun u H2 R2 g2 wu => ?_⟩
    cases wu
    refine ⟨p, xs, _, j, rfl, rfl, g2.hp _ _ e3, Evl.ixN_nat (by rw [q.len]; exact hj), kn _ _ R2 _ k ((s1.grow g2).mut hi e1 ((q.up g2.reg).set (w.up g2.reg)))⟩⟩
end

/-! ### targets -/
/-- lists of one's own are as they were -/
def OwnS (σ : L2.St) (ρ : List Ent) (σ' : L2.St) (ρ' : List Ent) : Prop := ∀ (i : Nat) ds, ρ'[i]? = some (.own ds) → ρ[i]? = some (.own ds) ∧ σ'[i]? = σ[i]?
def gD (ρ : List Ent) (d : PyData) (js : List Nat) (ρ' : List Ent) : TG := fun v σ H Q => ∃ R, Sl σ H R ρ ∧ Dq R v d ∧ ∀ σ', σ'.length = σ.length → (∀ i, i ∉ js → σ'[i]? = σ[i]?) → Sl σ' H R ρ' → OwnS σ ρ σ' ρ' → Q σ' H
def gDs (ρ : List Ent) (ds : List PyData) (js : List Nat) (ρ' : List Ent) : TGs := fun vs σ H Q => ∃ R, Sl σ H R ρ ∧ DqAll R vs ds ∧ ∀ σ', σ'.length = σ.length → (∀ i, i ∉ js → σ'[i]? = σ[i]?) → Sl σ' H R ρ' → OwnS σ ρ σ' ρ' → Q σ' H
abbrev AT (X : Cx) (tg : Expr) (ρ : List Ent) (d : PyData) (js : List Nat) (ρ' : List Ent) : Prop := PG X tg (gD ρ d js ρ')
abbrev ATs (X : Cx) (tgs : List Expr) (ρ : List Ent) (ds : List PyData) (js : List Nat) (ρ' : List Ent) : Prop := PGs X tgs (gDs ρ ds js ρ')
section
variable {X : Cx} {ρ ρ1 ρ2 : List Ent} {tg : Expr} {tgs : List Expr} {d : PyData} {ds : List PyData} {js ks : List Nat} {pos : Pos} {x : Str}
theorem pg_weak {t t' : TG} (h : PG X tg t) (w : ∀ v σ H Q, t' v σ H Q → t v σ H Q) : PG X tg t' := ⟨fun pins s σ H v u Q I r q => h.run pins s σ H v u Q I r (w v σ H Q q)⟩
theorem pgs_weak {t t' : TGs} (h : PGs X tgs t) (w : ∀ v σ H Q, t' v σ H Q → t v σ H Q) : PGs X tgs t' := ⟨fun pins s σ H v u Q I r q => h.run pins s σ H v u Q I r (w v σ H Q q)⟩
theorem OwnS.set {σ : L2.St} {i : Nat} {v : Option V} : OwnS σ ρ (σ.set i v) (ρ.set i (.val d)) := fun m zs e => by
  have h : m ≠ i := fun z => by
    subst z
    have hj : m < ρ.length := by have := (List.getElem?_eq_some_iff.mp e).1; rw [List.length_set] at this; exact this
    rw [List.getElem?_set_self hj] at e
    cases e
  rw [List.getElem?_set_ne (Ne.symm h)] at e
  exact ⟨e, List.getElem?_set_ne (Ne.symm h)⟩
theorem StP.tgt {H0 R0 : Hp} {σ σ' : L2.St} {H R : Hp} (s : StP H0 R0 σ H R ρ) (s' : Sl σ' H R ρ1) (o : OwnS σ ρ σ' ρ1) : StP H0 R0 σ' H R ρ1 :=
  ⟨s', s.gr, fun i ds p e1 e2 => by
    obtain ⟨a1, a2⟩ := o i ds e1
    exact s.fr i ds p a1 (a2 ▸ e2)⟩
theorem at_name (i : Nat) (hN : X.N.Nodup) (hi : X.N[i]? = some x := by rfl) (hx : Loc X.env.scope x := by first | exact Or.inl rfl | exact Or.inr rfl) (hf : X.fn x = true ∨ X.env.scope.names.lookup x = some .local := by first | exact .inl rfl | exact .inr rfl | assumption) :
    AT X (.Name x pos) ρ d [i] (ρ.set i (.val d)) := pg_weak (pg_name hN hi hx hf) fun v σ H Q ⟨R, s, q, k⟩ =>
  k _ (List.length_set) (fun j hj => List.getElem?_set_ne fun z => hj (by simp [z])) (s.setV q) OwnS.set
theorem ats_nil : ATs X [] ρ [] [] ρ := pgs_weak pgs_nil fun vs σ H Q ⟨R, s, q, k⟩ => by
  cases q
  exact ⟨rfl, k σ rfl (fun _ _ => rfl) s fun _ _ e => ⟨e, rfl⟩⟩
theorem ats_cons (h : AT X tg ρ d js ρ1) (h2 : ATs X tgs ρ1 ds ks ρ2) (hs : (assignEach (tg :: tgs) X.env).map (·.2) = assign tg X.env :: (assignEach tgs X.env).map (·.2) := by rfl) : ATs X (tg :: tgs) ρ (d :: ds) (js ++ ks) ρ2 :=
  pgs_weak (pgs_cons h h2 hs) fun vs σ H Q ⟨R, s, q, k⟩ => by
    cases q with
    | cons q1 q2 =>
      exact ⟨_, _, rfl, R, s, q1, fun σ1 l1 e1 s1 o1 => ⟨R, s1, q2, fun σ2 l2 e2 s2 o2 => k σ2 (l2.trans l1) (fun i hi => (e2 i fun z => hi (List.mem_append_right _ z)).trans (e1 i fun z => hi (List.mem_append_left _ z))) s2
        fun i fs e => by
          obtain ⟨a1, a2⟩ := o2 i fs e
          obtain ⟨b1, b2⟩ := o1 i fs a1
          exact ⟨b1, a2.trans b2⟩⟩⟩
theorem at_tup {k0} (h : ATs X tgs ρ ds js ρ1) (hc : X.calm = true := by rfl) (hn : (assignEach tgs X.env).length = ds.length := by rfl) (hst : (assignEach tgs X.env).findIdx? (·.1) = none := by rfl) : AT X (.Tuple tgs k0 pos) ρ (.tuple ds) js ρ1 :=
  pg_weak (pg_tup hc h hn hst) fun v σ H Q ⟨R, s, q, k⟩ => by
    cases q with
    | tup h1 h2 => exact ⟨_, _, rfl, SqT.of (s.sub _ _ h1), h2.len, R, s, h2, k⟩
theorem at_lst {k0} (h : ATs X tgs ρ ds js ρ1) (hc : X.calm = true := by rfl) (hn : (assignEach tgs X.env).length = ds.length := by rfl) (hst : (assignEach tgs X.env).findIdx? (·.1) = none := by rfl) : AT X (.Tuple tgs k0 pos) ρ (.list ds) js ρ1 :=
  pg_weak (pg_unl hc h hn hst) fun v σ H Q ⟨R, s, q, k⟩ => by
    cases q with
    | lst h1 h2 => exact ⟨_, _, rfl, SqL.of (s.sub _ _ h1), h2.len, R, s, h2, k⟩
end

/-! ### more assignments -/
section
variable {X : Cx} {ρ ρ' : List Ent} {nx : List Ent → Prop} {rt : PyData → Prop} {e a b tg : Expr} {d da db : PyData} {ds : List PyData} {js : List Nat} {pos px py pt pt2 : Pos} {x y : Str} {i j kt k2 : Nat}
/-- a, b, .. = e -/
theorem ds_tgt (h : EC X ρ e d) (ha : AT X tg ρ d js ρ') (k : nx ρ') (hs : swapsWithSole [tg] e pos.line X.env = pure false := by rfl) (hw : swappedStores [tg] e X.env = pure none := by rfl)
    (h1 : (assignEach [tg] X.env).map (·.2) = [assign tg X.env] := by rfl) : DS X ρ (.Assign [tg] e pos) nx rt :=
  ps_weak (ps_asg (g := fun v σ H Q => gD ρ d js ρ' v σ H Q) h ha hs hw h1) fun D σ H ⟨H0, R0, R, s, kn, _⟩ => ⟨R, s.sl, fun v H2 R2 g w => ⟨R2, (s.grow g).sl, w, fun σ' _ _ s' o => kn σ' H2 R2 ρ' k ((s.grow g).tgt s' o)⟩⟩
/-- x, y = a, b -/
theorem ds_parVV (i j : Nat) (h1 : EC X ρ a da) (h2 : EC X ρ b db) (k : nx ((ρ.set i (.val da)).set j (.val db))) (hN : X.N.Nodup) (hij : i ≠ j := by decide) (hc : X.calm = true := by rfl) (hi : X.N[i]? = some x := by rfl) (hj : X.N[j]? = some y := by rfl)
    (hx : X.env.scope.names.lookup x = some .local := by rfl) (hy : X.env.scope.names.lookup y = some .local := by rfl) (hw : swappedStores [.Tuple [.Name x px, .Name y py] kt pt] (.Tuple [a, b] k2 pt2) X.env = pure (some [x, y]) := by rfl)
    (hs : swapsWithSole [.Tuple [.Name x px, .Name y py] kt pt] (.Tuple [a, b] k2 pt2) pos.line X.env = pure false := by rfl) (s1 : starEach [a, b] X.env = (false, eval a X.env) :: starEach [b] X.env := by rfl) (s2 : starEach [b] X.env = (false, eval b X.env) :: starEach [] X.env := by rfl) :
    DS X ρ (.Assign [.Tuple [.Name x px, .Name y py] kt pt] (.Tuple [a, b] k2 pt2) pos) nx rt :=
  ps_weak (ps_par hc hN hi hj hij hx hy (pa_cons h1 (pa_cons h2 pa_nil s2) s1) hw hs) fun D σ H ⟨H0, R0, R, s, kn, _⟩ => ⟨R, s.sl, fun v H1 R1 g1 w1 => ⟨R1, (s.grow g1).sl, fun u H2 R2 g2 w2 =>
    ⟨v, u, rfl, kn _ _ R2 _ k (((s.grow (g1.trans g2)).setV (w1.up g2.reg)).setV w2)⟩⟩⟩
theorem ds_parOV (i j : Nat) (h1 : EN X ρ a (.list ds)) (h2 : EC X ρ b db) (k : nx ((ρ.set i (.own ds)).set j (.val db))) (hN : X.N.Nodup) (hij : i ≠ j := by decide) (hc : X.calm = true := by rfl) (hi : X.N[i]? = some x := by rfl) (hj : X.N[j]? = some y := by rfl)
    (hx : X.env.scope.names.lookup x = some .local := by rfl) (hy : X.env.scope.names.lookup y = some .local := by rfl) (hw : swappedStores [.Tuple [.Name x px, .Name y py] kt pt] (.Tuple [a, b] k2 pt2) X.env = pure (some [x, y]) := by rfl)
    (hs : swapsWithSole [.Tuple [.Name x px, .Name y py] kt pt] (.Tuple [a, b] k2 pt2) pos.line X.env = pure false := by rfl) (s1 : starEach [a, b] X.env = (false, eval a X.env) :: starEach [b] X.env := by rfl) (s2 : starEach [b] X.env = (false, eval b X.env) :: starEach [] X.env := by rfl) :
    DS X ρ (.Assign [.Tuple [.Name x px, .Name y py] kt pt] (.Tuple [a, b] k2 pt2) pos) nx rt :=
  ps_weak (ps_par hc hN hi hj hij hx hy (pa_cons h1 (pa_cons h2 pa_nil s2) s1) hw hs) fun D σ H ⟨H0, R0, R, s, kn, _⟩ => ⟨R, s.sl, fun v H1 R1 g1 w1 => ⟨R1, (s.grow g1).sl, fun u H2 R2 g2 w2 => by
    cases w1 with
    | sc h _ => exact absurd rfl (h ds)
    | ls q1 q2 q3 q4 => exact ⟨_, u, rfl, kn _ _ R2 _ k ((s.setO (g1.trans g2) q1 (g2.new _ (by rw [q3]; exact nofun) q2) (g2.hp _ _ q3) (q4.up g2.reg)).setV w2)⟩⟩⟩
theorem ds_parVO (i j : Nat) (h1 : EC X ρ a da) (h2 : EN X ρ b (.list ds)) (k : nx ((ρ.set i (.val da)).set j (.own ds))) (hN : X.N.Nodup) (hij : i ≠ j := by decide) (hc : X.calm = true := by rfl) (hi : X.N[i]? = some x := by rfl) (hj : X.N[j]? = some y := by rfl)
    (hx : X.env.scope.names.lookup x = some .local := by rfl) (hy : X.env.scope.names.lookup y = some .local := by rfl) (hw : swappedStores [.Tuple [.Name x px, .Name y py] kt pt] (.Tuple [a, b] k2 pt2) X.env = pure (some [x, y]) := by rfl)
    (hs : swapsWithSole [.Tuple [.Name x px, .Name y py] kt pt] (.Tuple [a, b] k2 pt2) pos.line X.env = pure false := by rfl) (s1 : starEach [a, b] X.env = (false, eval a X.env) :: starEach [b] X.env := by rfl) (s2 : starEach [b] X.env = (false, eval b X.env) :: starEach [] X.env := by rfl) :
    DS X ρ (.Assign [.Tuple [.Name x px, .Name y py] kt pt] (.Tuple [a, b] k2 pt2) pos) nx rt :=
  ps_weak (ps_par hc hN hi hj hij hx hy (pa_cons h1 (pa_cons h2 pa_nil s2) s1) hw hs) fun D σ H ⟨H0, R0, R, s, kn, _⟩ => ⟨R, s.sl, fun v H1 R1 g1 w1 => ⟨R1, (s.grow g1).sl, fun u H2 R2 g2 w2 => by
    cases w2 with
    | sc h _ => exact absurd rfl (h ds)
    | ls q1 q2 q3 q4 => exact ⟨v, _, rfl, kn _ _ R2 _ k (((s.grow g1).setV w1).setO g2 q1 q2 q3 q4)⟩⟩⟩
end

/-! ### what is walked -/
/-- the item's datum is d, known beside what was known -/
def YD (R0 : Hp) (d : PyData) (H : Hp) (x : V) (H' : Hp) : Prop := ∀ R, Same R0 R → Same R H → ∃ R', Gr H R H' R' ∧ Dq R' x d
def tI (ρ : List Ent) (ds : List PyData) : TI := fun σ H Rr => ∃ R, Sl σ H R ρ ∧ ∀ J H2 R2, Gr H R H2 R2 → Walk J ds.length (fun H' => Same R2 H') (fun i H' x H'' => ∃ d, ds[i]? = some d ∧ YD R2 d H' x H'') → Rr J H2
abbrev EI (X : Cx) (tg : Expr) (ρ : List Ent) (iter : Expr) (ds : List PyData) : Prop := PI X tg iter (tI ρ ds)
/-- lo, lo + 1, .. below hi -/
def rgI (lo hi : Int) : List Int := (List.range (hi - lo).toNat).map fun (i : Nat) => lo + (i : Int)
section
variable {X : Cx} {ρ : List Ent} {tg e a b : Expr} {d : PyData} {ds es : List PyData} {n m : Int} {p pos : Pos}
theorem pi_weak {t t' : TI} (h : PI X tg e t) (w : ∀ σ H Q, t' σ H Q → t σ H Q) : PI X tg e t' := ⟨fun pins s σ H R I q => h.run pins s σ H R I (w σ H R q)⟩
theorem YD.same {R0 H : Hp} {x : V} (h : Dq R0 x d) : YD R0 d H x H := fun R s1 s2 => ⟨R, Gr.refl s2, h.up s1⟩
theorem YD.pair {R0 H : Hp} {T : Addr} {x y : V} {dx dy : PyData} (hT : H T = none) (h1 : Dq R0 x dx) (h2 : Dq R0 y dy) : YD R0 (.tuple [dx, dy]) H (.ref T) (upd H T (.tup [x, y])) := fun R s1 s2 =>
  ⟨_, Gr.alloc s2 hT, .tup upd_same (.cons ((h1.up s1).up (same_new (s2.free hT))) (.cons ((h2.up s1).up (same_new (s2.free hT))) .nil))⟩
theorem ei_list (h : EC X ρ e (.list ds)) : EI X tg ρ e ds := pi_weak (pi_list h) fun σ H Rr ⟨R, s, k⟩ => ⟨R, s, fun v H2 R2 g w => by
  cases w with
  | lst h1 h2 =>
    refine ⟨_, rfl, ⟨_, SqL.of (g.sub _ _ h1)⟩, k _ H2 R2 g ?_⟩
    rw [← h2.len]
    refine (walk_list (K := X.K)).mono (fun H' s' => SqL.of (s' _ _ h1)) fun i H' x H'' hi s' y => ?_
    obtain ⟨rfl, e1⟩ := y
    obtain ⟨d, e2, q⟩ := h2.getV e1
    exact ⟨d, e2, YD.same q⟩⟩
theorem rg_at {lo : Int} {k i : Nat} (h : i < k) : ((List.range k).map fun (j : Nat) => lo + (j : Int))[i]? = some (lo + (i : Int)) := by
  rw [List.getElem?_map, List.getElem?_range h]; rfl
theorem rgI_len {lo hi : Int} : (rgI lo hi).length = (hi - lo).toNat := by unfold rgI; rw [List.length_map, List.length_range]
theorem rgI_at {lo hi : Int} {i : Nat} (h : i < (hi - lo).toNat) : (rgI lo hi)[i]? = some (lo + (i : Int)) := rg_at h
theorem ei_range1 (h : EA X ρ a (.int n)) (hm : X.mg "range" = none) (hn : n ≤ 1000000) (hn0 : 0 ≤ n) (hg : Gl X "range" := by rfl) (s1 : starEach [a] X.env = [(false, eval a X.env)] := by rfl) (s2 : starEach [a] X.env = (false, eval a X.env) :: starEach [] X.env := by rfl) :
    EI X tg ρ (.Call (.Name "range" p) [a] [] pos) ((rgI 0 n).map PyData.int) := pi_weak (pi_range1 hg hm (pa_cons h pa_nil s2) s1) fun σ H Rr ⟨R, s, k⟩ => ⟨R, s, fun v H2 R2 g w => by
  cases w
  refine ⟨n, rfl, by omega, by omega, k _ H2 R2 g ?_⟩
  rw [List.length_map, rgI_len, show (n - 0).toNat = n.toNat by rw [Int.sub_zero]]
  refine walk_range.mono (fun H' s' => trivial) fun i H' x H'' hi s' y => ?_
  obtain ⟨rfl, rfl⟩ := y
  exact ⟨.int (0 + (i : Int)), by rw [List.getElem?_map, rgI_at (by rw [Int.sub_zero]; exact hi)]; rfl, YD.same (.int _)⟩⟩
theorem ei_range2 (h : EA X ρ a (.int m)) (h' : EA X ρ b (.int n)) (hm : X.mg "range" = none) (hn : -1000000 ≤ n ∧ n ≤ 1000000 ∧ -1000000 ≤ m ∧ m ≤ 1000000) (hg : Gl X "range" := by rfl) (s1 : starEach [a, b] X.env = [(false, eval a X.env), (false, eval b X.env)] := by rfl)
    (s2 : starEach [b] X.env = [(false, eval b X.env)] := by rfl) (s3 : starEach [a, b] X.env = (false, eval a X.env) :: starEach [b] X.env := by rfl) (s4 : starEach [b] X.env = (false, eval b X.env) :: starEach [] X.env := by rfl) :
    EI X tg ρ (.Call (.Name "range" p) [a, b] [] pos) ((rgI m n).map PyData.int) := pi_weak (pi_range2 hg hm (pa_cons h (pa_cons h' pa_nil s4) s3) s1 s2) fun σ H Rr ⟨R, s, k⟩ => ⟨R, s, fun v H1 R1 g1 w => ⟨R1, s.grow g1, fun v H2 R2 g2 w' => by
  cases w
  cases w'
  refine ⟨m, n, rfl, ⟨by omega, by omega, by omega, by omega⟩, k _ H2 R2 (g1.trans g2) ?_⟩
  rw [List.length_map, rgI_len]
  refine walk_range.mono (fun H' s' => trivial) fun i H' x H'' hi s' y => ?_
  obtain ⟨rfl, rfl⟩ := y
  exact ⟨.int (m + (i : Int)), by rw [List.getElem?_map, rgI_at hi]; rfl, YD.same (.int _)⟩⟩⟩
variable {elts : List Expr} {kk : Nat} {tpos : Pos}
def zipD (ds es : List PyData) : List PyData := List.zipWith (fun x y => PyData.tuple [x, y]) ds es
theorem ei_zip (h : EC X ρ a (.list ds)) (h' : EC X ρ b (.list es)) (hm : X.mg "zip" = none) (hg : Gl X "zip" := by rfl) (s1 : starEach [a, b] X.env = (false, eval a X.env) :: starEach [b] X.env := by rfl) (s2 : starEach [b] X.env = (false, eval b X.env) :: starEach [] X.env := by rfl)
    (s3 : (backTo pos (starEach [b] X.env)).any (·.1) = false := by rfl) :
    EI X (.Tuple elts kk tpos) ρ (.Call (.Name "zip" p) [a, b] [] pos) (zipD ds es) := pi_weak (pi_zip hg hm (pa_cons h (pa_cons h' pa_nil s2) s1) s1 s3) fun σ H Rr ⟨R, s, k⟩ => ⟨R, s, fun v H1 R1 g1 w => ⟨R1, s.grow g1, fun v H2 R2 g2 w' => by
  cases w with
  | lst a1 a2 => cases w' with
    | lst b1 b2 =>
      refine ⟨_, _, _, _, rfl, SqL.of (g2.sub _ _ (g2.reg _ _ a1)), SqL.of (g2.sub _ _ b1), k _ H2 R2 (g1.trans g2) ?_⟩
      rw [show (zipD ds es).length = min ds.length es.length by unfold zipD; rw [List.length_zipWith], ← a2.len, ← b2.len]
      refine (walk_zip (K := X.K) rfl).mono (fun H' s' => ⟨SqL.of (s' _ _ (g2.reg _ _ a1)), SqL.of (s' _ _ b1)⟩) fun i H' x H'' hi s' y => ?_
      obtain ⟨T, x1, x2, rfl, hT, rfl, e1, e2⟩ := y
      obtain ⟨d1, f1, q1⟩ := a2.getV e1
      obtain ⟨d2, f2, q2⟩ := b2.getV e2
      refine ⟨.tuple [d1, d2], ?_, YD.pair hT (q1.up g2.reg) q2⟩
      unfold zipD
      rw [List.getElem?_zipWith, f1, f2]⟩⟩
def enumD (ds : List PyData) : List PyData := ds.mapIdx fun i d => PyData.tuple [.int (i : Int), d]
theorem ei_enum (h : EC X ρ a (.list ds)) (hm : X.mg "enumerate" = none) (hg : Gl X "enumerate" := by rfl) (s1 : starEach [a] X.env = (false, eval a X.env) :: starEach [] X.env := by rfl) (s2 : starEach [a] X.env = [(false, eval a X.env)] := by rfl) :
    EI X (.Tuple elts kk tpos) ρ (.Call (.Name "enumerate" p) [a] [] pos) (enumD ds) := pi_weak (pi_enum hg hm (pa_cons h pa_nil s1) s2) fun σ H Rr ⟨R, s, k⟩ => ⟨R, s, fun v H2 R2 g w => by
  cases w with
  | lst a1 a2 =>
    refine ⟨_, _, rfl, SqL.of (g.sub _ _ a1), k _ H2 R2 g ?_⟩
    rw [show (enumD ds).length = ds.length by unfold enumD; rw [List.length_mapIdx], ← a2.len]
    refine (walk_enum (K := X.K)).mono (fun H' s' => SqL.of (s' _ _ a1)) fun i H' x H'' hi s' y => ?_
    obtain ⟨T, x1, x2, rfl, hT, rfl, e1, e2⟩ := y
    cases e1
    obtain ⟨d2, f2, q2⟩ := a2.getV e2
    refine ⟨.tuple [.int (i : Int), d2], ?_, YD.pair hT (.int _) q2⟩
    unfold enumD
    rw [List.getElem?_mapIdx, f2]
    rfl⟩
end
end KR
namespace KR
open PySem L2

/-! ### for -/
section
variable {X : Cx} {ρ : List Ent} {nx : List Ent → Prop} {rt : PyData → Prop} {iter tg : Expr} {body : List Stmt} {ds : List PyData} {pos : Pos}
/-- H0 and R together -/
def uni (H0 R : Hp) : Hp := fun b => match H0 b with
  | some o => some o
  | none => R b
theorem uni_none {H0 R : Hp} {b : Addr} (h1 : H0 b = none) (h2 : R b = none) : uni H0 R b = none := by unfold uni; rw [h1]; exact h2
theorem uni_l {H0 R : Hp} : Same H0 (uni H0 R) := fun b o e => by unfold uni; rw [e]
theorem uni_of {H0 R H : Hp} (s1 : Same H0 H) (s2 : Same R H) : Same (uni H0 R) H := fun b o e => by
  unfold uni at e
  cases q : H0 b with
  | some u => rw [q] at e; cases e; exact s1 _ _ q
  | none => rw [q] at e; exact s2 _ _ e
theorem uni_free {H0 R : Hp} {b : Addr} (h : uni H0 R b = none) : H0 b = none ∧ R b = none := by
  unfold uni at h
  cases q : H0 b with
  | some u => rw [q] at h; cases h
  | none => rw [q] at h; exact ⟨rfl, h⟩
theorem StP.here {H0 R0 H R : Hp} {σ : L2.St} (s : StP H0 R0 σ H R ρ) : StP (uni H0 R) R σ H R ρ :=
  ⟨s.sl, ⟨Same.refl _, uni_of s.gr.hp s.sl.sub, s.sl.sub, fun _ _ h => h⟩, fun i ds p e1 e2 => by
    obtain ⟨q, xs, f1, f2, _⟩ := s.sl.own i ds e1
    rw [e2] at f1; cases f1
    exact uni_none (s.fr i ds p e1 e2) f2⟩
theorem Gr.there {H0 R0 H R H' R' : Hp} (g : Gr H0 R0 H R) (g' : Gr (uni H0 R) R H' R') : Gr H0 R0 H' R' :=
  ⟨g.reg.trans g'.reg, uni_l.trans g'.hp, g'.sub, fun b h1 h2 => by
    have h3 := g.new b h1 h2
    exact g'.new b (Same.there uni_l h1) h3⟩
theorem StP.back {H0 R0 H R H' R' : Hp} {σ σ' : L2.St} {ρ' : List Ent} (s : StP H0 R0 σ H R ρ) (s' : StP (uni H0 R) R σ' H' R' ρ') : StP H0 R0 σ' H' R' ρ' :=
  ⟨s'.sl, s.gr.there s'.gr, fun i ds p e1 e2 => (uni_free (s'.fr i ds p e1 e2)).1⟩
def gAny (X : Cx) (tg : Expr) : TG := fun v σ H Q => ∃ ρ' d js ρ'', AT X tg ρ' d js ρ'' ∧ gD ρ' d js ρ'' v σ H Q
def tAny (X : Cx) (body : List Stmt) : TS := fun D σ H => ∃ ρ' nx' rt', DSs X ρ' body nx' rt' ∧ tS ρ' nx' rt' D σ H
theorem pg_any : PG X tg (gAny X tg) := ⟨fun pins s σ H v u Q I r ⟨ρ', d, js, ρ'', a, q⟩ => a.run pins s σ H v u Q I r q⟩
theorem pss_any : PSs X body (tAny X body) := ⟨fun pins s σ H D I ⟨ρ', nx', rt', a, q⟩ => a.run pins s σ H D I q⟩
/-- for target in iter: body -/
theorem ds_for (hi : EI X tg ρ iter ds) (Iv : Nat → List Ent → Prop) (h0 : Iv 0 ρ)
    (hb : ∀ (i : Nat) d ρ', ds[i]? = some d → Iv i ρ' → ∃ js ρ'', AT X tg ρ' d js ρ'' ∧ DSs X ρ'' body (Iv (i + 1)) rt)
    (hd : ∀ ρ', Iv ds.length ρ' → nx ρ') (hp : PassesOwn (model X.prog X.w) X.A X.env X.xe := by exact PassesOwn.never) (hc : X.calm = true := by rfl) (hs : ∀ x, foldedSetIterable iter X.env x = pure x := by intro _; rfl) :
    DS X ρ (.For tg iter body [] pos) nx rt := by
  refine ps_weak (ps_for hp hc hi pg_any pss_any hs) fun D σ H ⟨H0, R0, R, s, kn, r⟩ => ⟨R, s.sl, fun J H2 R2 g W => ?_⟩
  refine for_it W (g := gAny X tg) (tb := tAny X body) (D := D) (σ := σ) (H := H2) (fun i σ' H' => ∃ R' ρ', Iv i ρ' ∧ StP H0 R0 σ' H' R' ρ' ∧ Same R2 R') ⟨R2, ρ, h0, s.grow g, Same.refl _⟩ (fun i σ' H' _ ⟨R', ρ', _, s', e⟩ => e.trans s'.sl.sub) ?_ fun σ' H' ⟨R', ρ', iv, s', _⟩ => kn σ' H' R' ρ' (hd ρ' iv) s'
  rintro i x σ' H' H'' hlt ⟨R', ρ', iv, s', e⟩ ⟨d, hd', y⟩
  obtain ⟨R3, g3, q3⟩ := y R' e s'.sl.sub
  obtain ⟨js, ρ'', ha, hbody⟩ := hb i d ρ' hd' iv
  have s3 := s'.grow g3
  refine ⟨ρ', d, js, ρ'', ha, R3, s3.sl, q3, fun σ4 _ _ s4 o4 => ⟨ρ'', _, _, hbody, ?_⟩⟩
  have s5 := s3.tgt s4 o4
  exact ⟨uni H0 R3, R3, R3, s5.here, fun σ6 H6 R6 ρ6 iv6 s6 => ⟨R6, ρ6, iv6, s5.back s6, (e.trans g3.reg).trans s6.gr.reg⟩, fun v H6 R6 d6 k6 g6 n6 => r v H6 R6 d6 k6 (s5.gr.there g6) (n6.back uni_l)⟩
end

/-! ### comprehensions -/
def wipeE (ρ : List Ent) : List Nat → List Ent
  | [] => ρ
  | i :: is => (wipeE ρ is).set i .un
section
variable {X : Cx} {ρ : List Ent} {σ σ' : L2.St} {H R : Hp}
theorem Sl.unset (s : Sl σ H R ρ) {i : Nat} {v : Option V} : Sl (σ.set i v) H R (ρ.set i .un) := by
  have off : ∀ {m : Nat} {e : Ent}, e ≠ .un → (ρ.set i .un)[m]? = some e → m ≠ i ∧ ρ[m]? = some e := fun {m e} ne q => by
    by_cases h : m = i
    · subst h
      have hj : m < ρ.length := by have := (List.getElem?_eq_some_iff.mp q).1; rw [List.length_set] at this; exact this
      rw [List.getElem?_set_self hj] at q
      cases q
      exact absurd rfl ne
    · rw [List.getElem?_set_ne (Ne.symm h)] at q
      exact ⟨h, q⟩
  refine ⟨s.sub, by rw [List.length_set, List.length_set]; exact s.len, fun j d e => ?_, fun j ds e => ?_, fun j l ds es p e1 e2 e3 e4 => ?_⟩
  · obtain ⟨h, q⟩ := off (by nofun) e
    obtain ⟨u, k1, k2⟩ := s.val j d q
    exact ⟨u, by rw [List.getElem?_set_ne (Ne.symm h)]; exact k1, k2⟩
  · obtain ⟨h, q⟩ := off (by nofun) e
    obtain ⟨p, xs, k1, k2⟩ := s.own j ds q
    exact ⟨p, xs, by rw [List.getElem?_set_ne (Ne.symm h)]; exact k1, k2⟩
  · obtain ⟨h1, q1⟩ := off (by nofun) e1
    obtain ⟨h2, q2⟩ := off (by nofun) e2
    rw [List.getElem?_set_ne (Ne.symm h1)] at e3
    rw [List.getElem?_set_ne (Ne.symm h2)] at e4
    exact s.sep j l ds es p q1 q2 e3 e4
theorem Sl.wipe (s : Sl σ H R ρ) : ∀ vs : List Nat, Sl (L2.wipe σ vs) H R (wipeE ρ vs)
  | [] => s
  | i :: is => (s.wipe is).unset
theorem wipe_len (σ : L2.St) (vs : List Nat) : (wipe σ vs).length = σ.length := wipe_length σ vs
theorem wipe_get : ∀ {vs : List Nat} {σ : L2.St} {i : Nat}, (wipe σ vs)[i]? = if i ∈ vs then (if i < σ.length then some none else none) else σ[i]?
  | [], σ, i => by simp [wipe]
  | v :: vs, σ, i => by
    show ((wipe σ vs).set v none)[i]? = _
    by_cases h : i = v
    · subst h
      by_cases hi : i < σ.length
      · rw [List.getElem?_set_self (by rw [wipe_len]; exact hi), if_pos List.mem_cons_self, if_pos hi]
      · rw [if_pos List.mem_cons_self, if_neg hi, List.getElem?_eq_none (by rw [List.length_set, wipe_len]; omega)]
    · rw [List.getElem?_set_ne (Ne.symm h), wipe_get]
      have e : (i ∈ v :: vs) = (i ∈ vs) := by simp [h]
      simp only [e]
theorem wipe_eq {vs : List Nat} (hl : σ'.length = σ.length) (h : ∀ i, i ∉ vs → σ'[i]? = σ[i]?) : wipe σ' vs = wipe σ vs := by
  refine List.ext_getElem? fun i => ?_
  rw [wipe_get, wipe_get, hl]
  by_cases hi : i ∈ vs
  · rw [if_pos hi, if_pos hi]
  · rw [if_neg hi, if_neg hi, h i hi]
theorem wipe_wipe (vs : List Nat) : wipe (wipe σ vs) vs = wipe σ vs := by
  refine wipe_eq (wipe_len σ vs) fun i hi => ?_
  rw [wipe_get, if_neg hi]
end
section
variable {X : Cx} {ρ : List Ent} {iter tg elt : Expr} {ifs : List Expr} {scope : Scope} {own : List (Str × Nat)} {pos : Pos} {α : Type} {xs : List α} {enc : α → PyData} {c : α → Bool} {f : α → PyData}
/-- the block's contexts -/
abbrev Bk (X : Cx) (scope : Scope) (s : Shared) (H : Hp) (C : Addr) (cl : List (Str × Addr)) (fp : List Addr) : Cx := X.blk s H scope (compEnvC scope cl C X.env) fp
abbrev ETs (X : Cx) (ρ : List Ent) (ifs : List Expr) (b : Bool) : Prop := PTs X ifs (tQ ρ b)
theorem ets_nil : ETs X ρ [] true := ⟨fun pins s σ H Q I ⟨R, sl, q⟩ => pts_nil.run pins s σ H Q I (q H R (Gr.refl sl.sub))⟩
theorem ets_one {e : Expr} {b : Bool} (h : ET X ρ e b) : ETs X ρ [e] b := pts_one h
/-- one turn: its target, its tests, its element -/
def Turn1 (X : Cx) (scope : Scope) (ρ : List Ent) (tg : Expr) (ifs : List Expr) (elt : Expr) (vs : List Nat) (d : PyData) (c : Bool) (fd : PyData) : Prop :=
  ∃ js ρ'', (∀ s H C cl fp, AT (Bk X scope s H C cl fp) tg ρ d js ρ'') ∧ (∀ j ∈ js, j ∈ vs) ∧ (∀ s H C cl fp, ETs (Bk X scope s H C cl fp) ρ'' ifs c) ∧ (c = true → ∀ s H C cl fp, EC (Bk X scope s H C cl fp) ρ'' elt fd)
def gAnyB (X : Cx) (scope : Scope) (tg : Expr) : TG := fun v σ H Q => ∃ ρ' d js ρ'', (∀ s H C cl fp, AT (Bk X scope s H C cl fp) tg ρ' d js ρ'') ∧ gD ρ' d js ρ'' v σ H Q
def tAnyB (X : Cx) (scope : Scope) (ifs : List Expr) : TT := fun σ H Q => ∃ ρ' b, (∀ s H C cl fp, ETs (Bk X scope s H C cl fp) ρ' ifs b) ∧ tQ ρ' b σ H Q
def eAnyB (X : Cx) (scope : Scope) (elt : Expr) : TE := fun σ H Q => ∃ ρ' d, (∀ s H C cl fp, EC (Bk X scope s H C cl fp) ρ' elt d) ∧ tD ρ' d σ H Q
theorem pg_anyB (s : Shared) (H : Hp) (C : Addr) (cl : List (Str × Addr)) (fp : List Addr) : PG (Bk X scope s H C cl fp) tg (gAnyB X scope tg) := ⟨fun pins s σ H v u Q I r ⟨ρ', d, js, ρ'', a, q⟩ => (a _ _ _ _ _).run pins s σ H v u Q I r q⟩
theorem pts_anyB (s : Shared) (H : Hp) (C : Addr) (cl : List (Str × Addr)) (fp : List Addr) : PTs (Bk X scope s H C cl fp) ifs (tAnyB X scope ifs) := ⟨fun pins s σ H Q I ⟨ρ', b, a, q⟩ => (a _ _ _ _ _).run pins s σ H Q I q⟩
theorem pe_anyB (s : Shared) (H : Hp) (C : Addr) (cl : List (Str × Addr)) (fp : List Addr) : PE (Bk X scope s H C cl fp) elt (eAnyB X scope elt) := ⟨fun pins s σ H Q I ⟨ρ', d, a, q⟩ => (a _ _ _ _ _).run pins s σ H Q I q⟩
theorem tN_lc {wi : TI} (hw : ∀ σ H Q, tI ρ (xs.map enc) σ H Q → wi σ H Q) (hz : xs.length < sizeLine)
    (turn : ∀ x ∈ xs, Turn1 X scope (wipeE ρ (own.map (·.2))) tg ifs elt (own.map (·.2)) (enc x) (c x) (f x)) :
    ∀ σ H Q, tN ρ (.list ((xs.filter c).map f)) σ H Q → tLc wi (gAnyB X scope tg) (tAnyB X scope ifs) (eAnyB X scope elt) (own.map (·.2)) σ H Q := by
  intro σ H Q ⟨R, s, k⟩
  refine hw σ H _ ⟨R, s, fun J H1 R1 g1 W => ?_⟩
  intro D hD
  have sw : Sl (wipe σ (own.map (·.2))) H1 R1 (wipeE ρ (own.map (·.2))) := (s.grow g1).wipe _
  rw [List.length_map] at W
  have fD : R1 D = none := g1.sub.free hD
  refine lc_it W (g := gAnyB X scope tg) (tt := tAnyB X scope ifs) (te := eAnyB X scope elt) (vs := own.map (·.2)) (σ := σ) (H1 := H1) (D := D) (Qd := fun H' => Q (.ref D) H') (fun i H' => ∃ R' acc, Gr H1 R1 H' R' ∧ R' D = none ∧ H' D = some (.lst acc) ∧ DqAll R' acc (((xs.take i).filter c).map f) ∧ Sl (wipe σ (own.map (·.2))) H' R' (wipeE ρ (own.map (·.2))))
    ⟨R1, [], Gr.beside g1.sub hD, fD, upd_same, .nil, sw.grow (Gr.beside g1.sub hD)⟩ (fun i H' _ ⟨R', acc, g', _⟩ => g'.reg.trans g'.sub) ?_ fun H' ⟨R', acc, g', n', h', q', _⟩ => ?_
  · rintro i x H' H'' hlt ⟨R', acc, g', n', h', q', s'⟩ ⟨d, hd, y⟩
    have hx : xs[i]? = some xs[i] := List.getElem?_eq_getElem hlt
    rw [List.getElem?_map, hx] at hd
    cases hd
    obtain ⟨R3, g3, q3⟩ := y R' g'.reg g'.sub
    obtain ⟨js, ρ'', ta, tj, tt, te⟩ := turn xs[i] (List.getElem_mem hlt)
    refine ⟨_, enc xs[i], js, ρ'', ta, R3, s'.grow g3, q3, fun σ4 l4 e4 s4 o4 => ⟨?_, _, c xs[i], tt, R3, s4, fun H5 R5 g5 => ?_⟩⟩
    · have e := wipe_eq (vs := own.map (·.2)) l4 fun j hj => e4 j fun z => hj (tj j z)
      rw [e, wipe_wipe]
    · have g35 := g3.trans g5
      have n5 : R5 D = none := g35.new D (by rw [h']; exact nofun) n'
      have h5 : H5 D = some (.lst acc) := g35.hp _ _ h'
      have tk : xs.take (i + 1) = xs.take i ++ [xs[i]] := by rw [List.take_add_one, hx]; rfl
      cases hc : c xs[i] with
      | true =>
        refine iteT ⟨_, f xs[i], te hc, R5, s4.grow g5, fun v H6 R6 g6 w6 => ?_⟩
        have g36 := g35.trans g6
        have n6 : R6 D = none := g36.new D (by rw [h']; exact nofun) n'
        have ga := g'.trans g36
        have hacc : acc.length < sizeLine := by
          rw [q'.len, List.length_map]
          exact Nat.lt_of_le_of_lt (List.length_filter_le _ _) (Nat.lt_of_le_of_lt (by rw [List.length_take]; omega) hz)
        refine ⟨acc, g6.hp _ _ h5, hacc, R6, acc ++ [v], ⟨ga.reg, fun b o e => ?_, fun b o e => ?_, ga.new⟩, n6, upd_same, ?_, ?_⟩
        · rw [upd_ne (ne_of_none e hD)]; exact ga.hp b o e
        · rw [upd_ne (ne_of_none e n6)]; exact ga.sub b o e
        · rw [tk, List.filter_append, List.map_append, show [xs[i]].filter c = [xs[i]] by simp [hc]]
          exact (q'.up g36.reg).app (.cons w6 .nil)
        · have s6 := sw.grow ga
          refine ⟨fun b o e => ?_, s6.len, s6.val, fun j es e => ?_, s6.sep⟩
          · rw [upd_ne (ne_of_none e n6)]; exact ga.sub b o e
          · obtain ⟨p, zs, e1, e2, e3, e4⟩ := s6.own j es e
            obtain ⟨p', zs', f1, _, f3, _⟩ := sw.own j es e
            rw [e1] at f1; cases f1
            exact ⟨p, zs, e1, e2, by rw [upd_ne (ne_of_none f3 hD)]; exact e3, e4⟩
      | false =>
        refine iteF ⟨R5, acc, g'.trans g35, n5, h5, ?_, sw.grow (g'.trans g35)⟩
        rw [tk, List.filter_append, show [xs[i]].filter c = [] by simp [hc], List.append_nil]
        exact q'.up g35.reg
  · rw [List.take_length] at q'
    exact k _ _ R' (g1.trans g') (.ls (g1.hp.free hD) n' h' q')
theorem en_lc (hi : EI X tg ρ iter (xs.map enc)) (turn : ∀ x ∈ xs, Turn1 X scope (wipeE ρ (own.map (·.2))) tg ifs elt (own.map (·.2)) (enc x) (c x) (f x)) (ok : BlkOk X.N X.env.scope scope own) (hN : X.N.Nodup) (hz : xs.length ≤ 100000)
    (hc : X.calm = true := by rfl) (hs : ∀ x, foldedSetIterable iter X.env x = pure x := by intro _; rfl) : EN X ρ (.ListComp elt [⟨tg, iter, ifs, 0⟩] scope pos) (.list ((xs.filter c).map f)) := by
  have h4 := tN_lc (X := X) (wi := tI ρ (xs.map enc)) (fun _ _ _ q => q) (Nat.lt_of_le_of_lt hz (by decide)) turn
  exact pe_weak (pe_lc hc hN hi ok pg_anyB pts_anyB pe_anyB hs) h4
variable {nx : List Ent → Prop} {rt : PyData → Prop} {y : Str} {py spos : Pos}
/-- name = [..] on one line -/
theorem ds_lc (i : Nat) (hi : EI X tg ρ iter (xs.map enc)) (turn : ∀ x ∈ xs, Turn1 X scope (wipeE ρ (own.map (·.2))) tg ifs elt (own.map (·.2)) (enc x) (c x) (f x)) (k : nx (ρ.set i (.val (.list ((xs.filter c).map f))))) (ok : BlkOk X.N X.env.scope scope own) (hN : X.N.Nodup) (hz : xs.length ≤ 100000)
    (hsw : swapsWith (.ListComp elt [⟨tg, iter, ifs, 0⟩] scope pos) (some (.Name y py)) spos.line X.env = pure true)
    (hc : X.calm = true := by rfl) (hy : X.N[i]? = some y := by rfl) (hyl : X.env.scope.names.lookup y = some .local := by rfl) (hs : ∀ x, foldedSetIterable iter X.env x = pure x := by intro _; rfl) :
    DS X ρ (.Assign [.Name y py] (.ListComp elt [⟨tg, iter, ifs, 0⟩] scope pos) spos) nx rt := by
  have h4 := tN_lc (X := X) (wi := tI ρ (xs.map enc)) (fun _ _ _ q => q) (Nat.lt_of_le_of_lt hz (by decide)) turn
  refine asg_val (ps_setLc (i := i) hc hN hy hyl hsw hi ok pg_anyB pts_anyB pe_anyB hs) (fun σ H Q ⟨R, s, q⟩ => h4 σ H Q ⟨R, s, fun v H2 R2 g n => ?_⟩) k
  obtain ⟨R3, g3, w⟩ := n.clean g
  exact q v H2 R3 g3 w
theorem ds_lcO (i : Nat) (hi : EI X tg ρ iter (xs.map enc)) (turn : ∀ x ∈ xs, Turn1 X scope (wipeE ρ (own.map (·.2))) tg ifs elt (own.map (·.2)) (enc x) (c x) (f x)) (k : nx (ρ.set i (.own ((xs.filter c).map f)))) (ok : BlkOk X.N X.env.scope scope own) (hN : X.N.Nodup) (hz : xs.length ≤ 100000)
    (hsw : swapsWith (.ListComp elt [⟨tg, iter, ifs, 0⟩] scope pos) (some (.Name y py)) spos.line X.env = pure true)
    (hc : X.calm = true := by rfl) (hy : X.N[i]? = some y := by rfl) (hyl : X.env.scope.names.lookup y = some .local := by rfl) (hs : ∀ x, foldedSetIterable iter X.env x = pure x := by intro _; rfl) :
    DS X ρ (.Assign [.Name y py] (.ListComp elt [⟨tg, iter, ifs, 0⟩] scope pos) spos) nx rt := by
  have h4 := tN_lc (X := X) (wi := tI ρ (xs.map enc)) (fun _ _ _ q => q) (Nat.lt_of_le_of_lt hz (by decide)) turn
  exact asg_own (ps_setLc (i := i) hc hN hy hyl hsw hi ok pg_anyB pts_anyB pe_anyB hs) h4 k
end

/-! ### a def -/
def entry (N : List Str) (ds : List PyData) : List Ent := ds.map Ent.val ++ List.replicate (N.length - ds.length) Ent.un
section
variable {P : Program} {w : World} {K : PySem.W.Frag} {mg : Str → Option Value} {base : Heap}
theorem sl_entry {N : List Str} {vs : List V} {ds : List PyData} {H R : Hp} (s : Same R H) (q : DqAll R vs ds) : Sl (L2.start N vs) H R (entry N ds) := by
  have un : ∀ {i : Nat} {e : Ent}, e ≠ .un → (entry N ds)[i]? = some e → i < ds.length ∧ ds[i]?.map Ent.val = some e := fun {i e} ne h => by
    unfold entry at h
    by_cases hi : i < ds.length
    · rw [List.getElem?_append_left (by rw [List.length_map]; exact hi), List.getElem?_map] at h
      exact ⟨hi, h⟩
    · rw [List.getElem?_append_right (by rw [List.length_map]; omega), List.getElem?_replicate] at h
      split at h
      · cases h; exact absurd rfl ne
      · cases h
  refine ⟨s, ?_, fun i d e => ?_, fun i es e => ?_, fun i j es fs p e1 _ _ _ => ?_⟩
  · unfold L2.start entry
    rw [List.length_append, List.length_append, List.length_map, List.length_map, List.length_replicate, List.length_replicate, q.len]
  · obtain ⟨hi, h⟩ := un (by nofun) e
    rw [List.getElem?_eq_getElem hi] at h
    have ed : ds[i]? = some d := by
      rw [List.getElem?_eq_getElem hi]
      cases h; rfl
    obtain ⟨v, e1, qv⟩ := q.get ed
    refine ⟨v, ?_, qv⟩
    unfold L2.start
    rw [List.getElem?_append_left (by rw [List.length_map, q.len]; exact hi), List.getElem?_map, e1]
    rfl
  · obtain ⟨hi, h⟩ := un (by nofun) e
    rw [List.getElem?_eq_getElem hi] at h
    cases h
  · obtain ⟨hi, h⟩ := un (by nofun) e1
    rw [List.getElem?_eq_getElem hi] at h
    cases h
theorem entry_no_own {N : List Str} {ds es : List PyData} {i : Nat} : (entry N ds)[i]? ≠ some (.own es) := fun h => by
  unfold entry at h
  by_cases hi : i < ds.length
  · rw [List.getElem?_append_left (by rw [List.length_map]; exact hi), List.getElem?_map, List.getElem?_eq_getElem hi] at h
    cases h
  · rw [List.getElem?_append_right (by rw [List.length_map]; omega), List.getElem?_replicate] at h
    split at h <;> cases h
/-- THE RULE of a def whose promise is over data -/
theorem fn_d {x qual : Str} {st : Stmt} {f : Addr} {fd : FuncData} {N ps : List Str} {k : Nat} {Φ : List PyData → PyData → Prop} (F : Fun K x qual st f fd) (S : FnScope N ps (defScope st)) (len : ∀ ds d, Φ ds d → ds.length = ps.length)
    (hbody : ∀ (cdv : Value) (A : Around) (outer : List Env) (s : Shared) (H : Hp) (E : XK) (ds : List PyData) (d : PyData), Room k (A.deeper (PyProof.Rows.envOfC qual (defScope st) s.heap.objs.size f cdv)) → Φ ds d →
      DSs (cxOf CX0 P w K mg base N qual (defScope st) f cdv A outer s H E).nox (entry N ds) (defBody st) (fun _ => d = .none) (fun d' => d' = d)) : FnOk P w K mg base CX0 (k + 1) f fd ps (spD Φ) := by
  refine F.ok S (fun vs H Q E ⟨R, ds, d, _, q, hΦ, _⟩ => by rw [q.len]; exact len ds d hΦ) fun cdv A outer s H vs Q E hr ⟨R, ds, d, sm, q, hΦ, k⟩ => ?_
  refine ⟨_, hbody cdv A outer s H E ds d hr hΦ, H, R, R, ⟨sl_entry sm q, Gr.refl sm, fun i es p e _ => absurd e entry_no_own⟩, fun σ' H' R' ρ' e s' => ?_, fun v H' R' d' e g n => ?_⟩
  · subst e
    exact k _ H' R' s'.gr (.sc (fun _ => nofun) .non)
  · subst e
    exact k v H' R' g n
end
end KR
namespace KR
open PySem L2
section
variable {X : Cx} {ρ : List Ent} {e a b c : Expr} {d da db : PyData} {pos p p2 q0 : Pos} {i j : Int} {ds es : List PyData} {xs : List Expr} {x : Str}

/-! ### isinstance with a built-in type -/
inductive TyD : PyData → String → Prop
  | non : TyD .none "NoneType"
  | bool (b : Bool) : TyD (.bool b) "bool"
  | int (i : Int) : TyD (.int i) "int"
  | str (s : Str) : TyD (.str s) "str"
  | list (ds : List PyData) : TyD (.list ds) "list"
  | tuple (ds : List PyData) : TyD (.tuple ds) "tuple"
theorem TyD.ok {K : PySem.W.Frag} {H : Hp} {v : V} {d : PyData} {T : String} (t : TyD d T) (h : Dq H v d) : TyX K H v (.type T) := by
  cases t with
  | non => cases h; exact .base .non
  | bool b => cases h; exact .base (.bl b)
  | int i => cases h; exact .base (.int i)
  | str s => cases h; exact .base (.str s)
  | list ds => cases h with
    | lst h1 _ => exact .base (.lst h1)
  | tuple ds => cases h with
    | tup h1 _ => exact .base (.tup h1)
theorem en_isi {T U : String} {k : Bool} {y : Str} (ha : EA X ρ a d) (t : TyD d T) (hk : kitB T U = some k) (hm : X.mg "isinstance" = none) (hm2 : X.mg y = none) (hv2 : bootBuiltins y = some (.type U) := by decide +kernel) (hg : Gl X "isinstance" := by rfl) (hg2 : Gl X y := by rfl)
    (hn : y ≠ "__name__" := by decide) (hdb : (y == ("__debug__" : Str)) = false := by decide)
    (he : starEach [a, .Name y p2] X.env = (false, eval a X.env) :: starEach [.Name y p2] X.env := by rfl) (hpl : (backTo pos (starEach [.Name y p2] X.env)).any (·.1) = false := by rfl)
    (he2 : starEach [.Name y p2] X.env = (false, eval (.Name y p2) X.env) :: starEach [] X.env := by rfl) : EN X ρ (.Call (.Name "isinstance" p) [a, .Name y p2] [] pos) (.bool k) :=
  pe_weak (pe_callB call_isi hg hm (by decide +kernel) (pa_cons ha (pa_cons (pe_bltn (v := .ty U) hg2 hm2 hv2 rfl hn hdb) pa_nil he2) he) (by decide) (by decide) he hpl) fun σ H Q ⟨R, s, q⟩ => ⟨R, s, fun v H2 R2 g w =>
    ⟨v, .ty U, .type T, .type U, k, rfl, .ty U, t.ok w, kit_ty hk, q _ H2 R2 g (NewV.atom rfl (.bl (H := H2) _))⟩⟩

/-! ### sorted lists of tuples of small ints -/
def encT (ns : List Int) : PyData := .tuple (ns.map PyData.int)
theorem bd_code {B : Int} (hB : 0 < B) : ∀ {ns : List Int}, TS.Bd B ns → 0 ≤ TS.code B ns ∧ TS.code B ns < B ^ ns.length
  | [], _ => by
    show (0 : Int) ≤ 0 ∧ (0 : Int) < B ^ 0
    rw [Int.pow_zero]
    omega
  | x :: ns, h => by
    have hx := h.head
    have ih := bd_code hB h.tail
    have e : TS.code B (x :: ns) = x * B ^ ns.length + TS.code B ns := rfl
    have r := TS.num1 (P := B ^ ns.length) ih.1 ih.2 hx.1 hx.2
    rw [e, List.length_cons, Int.pow_succ]
    exact r
theorem code_inj {B : Int} (hB : 0 < B) : ∀ {ns ms : List Int}, TS.Bd B ns → TS.Bd B ms → ns.length = ms.length → TS.code B ns = TS.code B ms → ns = ms
  | [], [], _, _, _, _ => rfl
  | [], _ :: _, _, _, h, _ => by simp at h
  | _ :: _, [], _, _, h, _ => by simp at h
  | x :: ns, y :: ms, h1, h2, hl, hc => by
    have hl' : ns.length = ms.length := by simpa using hl
    have b1 := bd_code hB h1.tail
    have b2 := bd_code hB h2.tail
    have e1 : TS.code B (x :: ns) = x * B ^ ns.length + TS.code B ns := rfl
    have e2 : TS.code B (y :: ms) = y * B ^ ms.length + TS.code B ms := rfl
    rw [e1, e2, ← hl'] at hc
    rw [← hl'] at b2
    have hP : 0 < B ^ ns.length := Int.pow_pos hB
    have q1 : (x * B ^ ns.length + TS.code B ns) / B ^ ns.length = x := by
      rw [Int.add_comm, Int.add_mul_ediv_right _ _ (by omega), Int.ediv_eq_zero_of_lt b1.1 b1.2, Int.zero_add]
    have q2 : (y * B ^ ns.length + TS.code B ms) / B ^ ns.length = y := by
      rw [Int.add_comm, Int.add_mul_ediv_right _ _ (by omega), Int.ediv_eq_zero_of_lt b2.1 b2.2, Int.zero_add]
    have exy : x = y := by rw [← q1, ← q2, hc]
    subst exy
    rw [code_inj hB h1.tail h2.tail hl' (by omega)]
theorem DqAll.perm {H : Hp} {us vs : List V} (h : us.Perm vs) : ∀ {L : List (List Int)}, DqAll H vs (L.map encT) → ∃ M : List (List Int), M.Perm L ∧ DqAll H us (M.map encT) := by
  induction h with
  | nil => intro L q; exact ⟨L, .refl _, q⟩
  | cons x _ ih =>
    intro L q
    cases L with
    | nil => cases q
    | cons l L =>
      cases q with
      | cons q1 q2 =>
        obtain ⟨M, pm, w⟩ := ih q2
        exact ⟨l :: M, pm.cons l, .cons q1 w⟩
  | swap x y vs =>
    intro L q
    match L, q with
    | l :: m :: L, .cons q1 (.cons q2 q3) => exact ⟨m :: l :: L, .swap l m L, .cons q2 (.cons q1 q3)⟩
    | [_], .cons _ q2 => cases q2
  | trans _ _ ih1 ih2 =>
    intro L q
    obtain ⟨M, pm, w⟩ := ih2 q
    obtain ⟨M', pm', w'⟩ := ih1 w
    exact ⟨M', pm'.trans pm, w'⟩
/-- ascending by code -/
def insT (x : List Int) : List (List Int) → List (List Int)
  | [] => [x]
  | y :: ys => if TS.code 100 x ≤ TS.code 100 y then x :: y :: ys else y :: insT x ys
def srtT : List (List Int) → List (List Int)
  | [] => []
  | x :: xs => insT x (srtT xs)
theorem insT_perm (x : List Int) : ∀ ys, (insT x ys).Perm (x :: ys)
  | [] => .refl _
  | y :: ys => by
    unfold insT
    split
    · exact .refl _
    · exact ((insT_perm x ys).cons y).trans (.swap x y ys)
theorem srtT_perm : ∀ xs, (srtT xs).Perm xs
  | [] => .refl _
  | x :: xs => (insT_perm x _).trans ((srtT_perm xs).cons x)
theorem insT_map (x : List Int) : ∀ ys, (insT x ys).map (TS.code 100) = ins1 (TS.code 100 x) (ys.map (TS.code 100))
  | [] => rfl
  | y :: ys => by
    show (if TS.code 100 x ≤ TS.code 100 y then x :: y :: ys else y :: insT x ys).map _ = if TS.code 100 x ≤ TS.code 100 y then _ else _
    split
    · rfl
    · rw [List.map_cons, insT_map x ys]
theorem srtT_map : ∀ xs, (srtT xs).map (TS.code 100) = srt (xs.map (TS.code 100))
  | [] => rfl
  | x :: xs => by
    show (insT x (srtT xs)).map _ = ins1 _ _
    rw [insT_map, srtT_map xs]
theorem map_code_inj {dlen : Nat} : ∀ {L M : List (List Int)}, (∀ n ∈ L, n.length = dlen ∧ TS.Bd 100 n) → (∀ n ∈ M, n.length = dlen ∧ TS.Bd 100 n) → L.map (TS.code 100) = M.map (TS.code 100) → L = M
  | [], [], _, _, _ => rfl
  | [], _ :: _, _, _, h => by simp at h
  | _ :: _, [], _, _, h => by simp at h
  | l :: L, m :: M, h1, h2, h => by
    rw [List.map_cons, List.map_cons] at h
    injection h with h3 h4
    have a1 := h1 l List.mem_cons_self
    have a2 := h2 m List.mem_cons_self
    rw [code_inj (by decide) a1.2 a2.2 (a1.1.trans a2.1.symm) h3, map_code_inj (fun n hn => h1 n (List.mem_cons_of_mem _ hn)) (fun n hn => h2 n (List.mem_cons_of_mem _ hn)) h4]
theorem Dq.encT {H : Hp} {v : V} {ns : List Int} (h : Dq H v (KR.encT ns)) : ∃ t, v = .ref t ∧ H t = some (.tup (ns.map V.int)) := by
  cases h with
  | tup h1 h2 => rw [h2.ints] at h1; exact ⟨_, rfl, h1⟩
theorem Dq.tupI {K : PySem.W.Frag} {H : Hp} {v : V} {ns : List Int} (h : Dq H v (KR.encT ns)) : TupI K H v ns := by
  obtain ⟨t, e, h1⟩ := h.encT
  exact ⟨t, e, SqT.of h1⟩
theorem DqAll.mem {H : Hp} : ∀ {vs : List V} {L : List (List Int)} {v : V}, DqAll H vs (L.map KR.encT) → v ∈ vs → ∃ n ∈ L, Dq H v (KR.encT n)
  | _, [], v, h, hv => by cases h; cases hv
  | _, l :: L, v, h, hv => by
    cases h with
    | cons h1 h2 =>
      rcases List.mem_cons.mp hv with rfl | hv
      · exact ⟨l, List.mem_cons_self, h1⟩
      · obtain ⟨n, hn, q⟩ := h2.mem hv
        exact ⟨n, List.mem_cons_of_mem _ hn, q⟩
theorem DqAll.pairL {K : PySem.W.Frag} {H : Hp} : ∀ {vs : List V} {L : List (List Int)}, DqAll H vs (L.map KR.encT) → vs.Pairwise (fun x y => ∀ n m, TupI K H x n → TupI K H y m → TS.code 100 n ≤ TS.code 100 m) → (L.map (TS.code 100)).Pairwise (· ≤ ·)
  | _, [], h, _ => .nil
  | _, l :: L, h, hv => by
    cases h with
    | cons h1 h2 =>
      have hv' := List.pairwise_cons.mp hv
      rw [List.map_cons]
      refine List.pairwise_cons.mpr ⟨fun z hz => ?_, h2.pairL hv'.2⟩
      obtain ⟨m, hm, rfl⟩ := List.mem_map.mp hz
      obtain ⟨i, hi⟩ := List.getElem?_of_mem hm
      obtain ⟨v, e, q⟩ := h2.get (i := i) (d := KR.encT m) (by rw [List.getElem?_map, hi]; rfl)
      exact hv'.1 v (List.mem_of_getElem? e) l m h1.tupI q.tupI
/-- clean data in, a clean list out: sorted keeps the items -/
def Cl1C (r : List V → Hp → VK → Prop) (ds : List PyData) (d : PyData) : Prop := ∀ vs H R Q, Same R H → DqAll R vs ds → (∀ v H2 R2, Gr H R H2 R2 → NewV H H2 R2 v d → Q v H2) → r vs H Q
theorem en_callBC {r : List V → Hp → VK → Prop} {id : String} (hc : CallR X (.builtin id) r) (hr : Cl1C r ds d) (hm : X.mg x = none) (ha : ECs X ρ (e :: xs) ds) (hg : Gl X x := by rfl) (hv : bootBuiltins x = some (.builtin id) := by decide +kernel) (hn : x ≠ "__name__" := by decide) (hdb : (x == ("__debug__" : Str)) = false := by decide)
    (he : starEach (e :: xs) X.env = (false, eval e X.env) :: starEach xs X.env := by rfl) (hpl : (backTo pos (starEach xs X.env)).any (·.1) = false := by rfl) : EN X ρ (.Call (.Name x p) (e :: xs) [] pos) d :=
  pe_weak (pe_callB hc hg hm hv ha hn hdb he hpl) fun σ H Q ⟨R, s, q⟩ => ⟨R, s, fun vs H1 R1 g1 w => hr vs H1 R1 Q g1.sub w fun v H2 R2 g2 n => q v H2 R2 (g1.trans g2) (n.back g1.hp)⟩
theorem cl_sortT {dlen : Nat} {L : List (List Int)} (hL : ∀ n ∈ L, n.length = dlen ∧ TS.Bd 100 n) (hz : L.length < 64) : Cl1C (rSortU X.K dlen 100) [.list (L.map KR.encT)] (.list ((srtT L).map KR.encT)) := fun vs H R Q s w q => by
  obtain ⟨v, rfl, h⟩ := w.one
  cases h with
  | lst h1 h2 =>
    refine ⟨_, _, rfl, SqL.of (s _ _ h1), by rw [h2.len, List.length_map]; exact hz, fun x hx => ?_, fun ys p hp hs hn => ?_⟩
    · obtain ⟨n, hn, qn⟩ := h2.mem hx
      exact ⟨n, (qn.up s).tupI, (hL n hn).1, (hL n hn).2⟩
    · obtain ⟨M, pm, wm⟩ := DqAll.perm hp h2
      have hM : ∀ n ∈ M, n.length = dlen ∧ TS.Bd 100 n := fun n hn => hL n (pm.mem_iff.mp hn)
      have e : M = srtT L := by
        refine map_code_inj hM (fun n hn => hL n ((srtT_perm L).mem_iff.mp hn)) ?_
        rw [srtT_map]
        exact srt_of (pm.map _) ((wm.up s).pairL hs)
      subst e
      exact q _ _ R (Gr.beside s hn) (.ls hn (s.free hn) upd_same wm)
/-- list(range(n)) -/
theorem en_listRg {n : Int} (h : EA X ρ a (.int n)) (h0 : 0 ≤ n) (hn : n ≤ 1000000) (hm : X.mg "list" = none) (hm2 : X.mg "range" = none) (hc : X.calm = true := by rfl) (hg : Gl X "list" := by rfl) (hg2 : Gl X "range" := by rfl)
    (na : starEach [a] X.env = (false, eval a X.env) :: starEach [] X.env := by rfl) (na2 : starEach [.Call (.Name "range" p2) [a] [] q0] X.env = (false, eval (.Call (.Name "range" p2) [a] [] q0) X.env) :: starEach [] X.env := by rfl) :
    EN X ρ (.Call (.Name "list" p) [.Call (.Name "range" p2) [a] [] q0] [] pos) (.list ((rgI 0 n).map PyData.int)) :=
  pe_weak (pe_listRg hc hg hm (prg_1 hg2 hm2 h na) na2) fun σ H Q ⟨R, s, q⟩ => ⟨R, s, fun v H2 R2 g w => by
    cases w
    refine ⟨n, rfl, RgOk.of_le (Int.le_refl 0) (by omega) (by omega) h0, fun l hl => ?_⟩
    have e : rgV 0 n = (rgI 0 n).map V.int := by
      unfold rgV rgI
      rw [List.map_map]
      rfl
    rw [e]
    exact q _ _ R2 (g.trans (Gr.beside g.sub hl)) (.ls (g.hp.free hl) (g.sub.free hl) upd_same (DqAll.of_ints _))⟩
/-- l.index(x) of data -/
theorem en_index {o : Expr} {apos : Pos} {k : Nat} {z : PyData} (hu : X.A.units + 65 < cLine) (ho : EA X ρ o (.list ds)) (ha : EA X ρ a d) (s1 : SeqAt.shaped (.list ds) = true) (s2 : SeqAt.shaped d = true) (h1 : ds[k]? = some z) (h2 : PyData.eqv z d = true) (h3 : ∀ (m : Nat) z', m < k → ds[m]? = some z' → PyData.eqv z' d = false)
    (hbase : attributeBase o "index" X.env (eval o X.env) = eval o X.env := by rfl)
    (hfew : ((backTo pos (starEach [a] X.env)).all (fun x => !x.1) && (backToKw pos (keywordEach [] X.env)).all (fun x => x.1.isSome) && decide (([a] : List Expr).length + ([] : List Keyword).length + (if ([] : List Keyword).isEmpty then 0 else 1) < 30)) = true := by rfl)
    (hline : (apos.endLine == pos.line) = true := by rfl) (hs : starEach [a] X.env = (false, eval a X.env) :: starEach [] X.env := by rfl) (hpl : (backTo pos (starEach [] X.env)).any (·.1) = false := by rfl) :
    EN X ρ (.Call (.Attribute o "index" apos) [a] [] pos) (.int (k : Int)) :=
  pe_weak (pe_bm PySem.F.plainAttrs_list PySem.F.slot_list_index PySem.F.type_list_index (mt_indexD hu) ho (pa_cons ha pa_nil hs) hbase hfew hline hs hpl) fun σ H Q ⟨R, s, q⟩ => ⟨R, s, fun v H1 R1 g1 w => by
    cases w with
    | lst w1 w2 =>
      refine ⟨.inl ⟨rfl, _, SqL.of w1⟩, R1, s.grow g1, fun u H2 R2 g2 wu => ?_⟩
      exact ⟨_, u, d, ds, k, z, rfl, rfl, Dq.dp _ _ (lay_of s1) (.lst (g2.hp _ _ w1) (w2.up g2.hp)), Dq.dp _ _ (lay_of s2) wu, s1, s2, h1, h2, h3, q _ H2 R2 (g1.trans g2) (NewV.atom rfl (.int (H := H2) _))⟩⟩
/-- n.bit_length() -/
theorem en_bits {o : Expr} {apos : Pos} (ho : EA X ρ o (.int i)) (hbase : attributeBase o "bit_length" X.env (eval o X.env) = eval o X.env := by rfl) (hline : (apos.endLine == pos.line) = true := by rfl) : EN X ρ (.Call (.Attribute o "bit_length" apos) [] [] pos) (.int (Builtin.Int.intBits i : Nat)) :=
  pe_weak (pe_bits ho hbase hline) fun σ H Q ⟨R, s, q⟩ => ⟨R, s, fun v H2 R2 g w => by
    cases w
    exact ⟨i, rfl, q _ H2 R2 g (NewV.atom rfl (.int (H := H2) _))⟩⟩
end
/-! ### t >= u of tuples of ints -/
def geI (ns ms : List Int) : Bool := Ob.lexAt (fun j => decide (ns.getD j 0 = ms.getD j 0)) (fun j => decide (ms.getD j 0 ≤ ns.getD j 0)) (decide (ns.length ≥ ms.length)) 0 (min ns.length ms.length)
def rGeT (K : PySem.W.Frag) : R2 := fun x y H Q => ∃ (t u : Addr) (ns ms : List Int), x = .ref t ∧ y = .ref u ∧ SqT K H t (ns.map V.int) ∧ SqT K H u (ms.map V.int) ∧ Q (.bl (geI ns ms)) H
theorem dec_beq (x y : Int) : (x == y) = decide (x = y) := by
  by_cases h : x = y
  · subst h; simp
  · simp [h]
theorem op_geT {X : Cx} (hu : X.A.units < cLine) : OpR X (compareOp .GtE) (rGeT X.K) := by
  intro pins s σ H x y v u Q I rx ry ⟨t, w, ns, ms, ex, ey, ht, hw, q⟩
  subst ex ey
  cases rx
  cases ry
  obtain ⟨ts, r1, p1, _⟩ := I.tuple ht
  obtain ⟨us, r2, p2, _⟩ := I.tuple hw
  have z1 := Vals.ints r1
  have z2 := Vals.ints r2
  have l1 : ts.toArray.size = ns.length := (List.size_toArray ..).trans z1.length
  have l2 : us.toArray.size = ms.length := (List.size_toArray ..).trans z2.length
  have g1 : ∀ k (hk : k < ts.toArray.size), ∃ m, ts.toArray[k] = .int (ns.getD k 0) m := fun k hk => PyProof.Rows.IntsAre.int_at z1 k _ (by simp at hk; simp [hk])
  have g2 : ∀ k (hk : k < us.toArray.size), ∃ m, us.toArray[k] = .int (ms.getD k 0) m := fun k hk => PyProof.Rows.IntsAre.int_at z2 k _ (by simp at hk; simp [hk])
  have go := Ob.RcOp.tuples_ge (A := X.A) (s := s) (e := fun k => decide (ns.getD k 0 = ms.getD k 0)) (r := fun k => decide (ms.getD k 0 ≤ ns.getD k 0)) p1 p2 hu
    (fun k k1 k2 => by
      obtain ⟨m1, e1⟩ := g1 k k1
      obtain ⟨m2, e2⟩ := g2 k k2
      rw [e1, e2, ← dec_beq]
      exact SeqAt.EqAt.int_int _ _ _ _)
    (fun k k1 k2 _ => by
      obtain ⟨m1, e1⟩ := g1 k k1
      obtain ⟨m2, e2⟩ := g2 k k2
      rw [e1, e2]
      exact Ob.RcOp.ge_int _ _ _ _)
  rw [l1, l2] at go
  have fin : EP X pins σ Q (.bool (geI ns ms)) s := ⟨.bl _, H, I, rfl, q⟩
  exact go X.prog X.w X.xe (EP X pins σ Q) fin
theorem et_geT {X : Cx} {ρ : List Ent} {a b : Expr} {pos : Pos} {ns ms : List Int} (hu : X.A.units < cLine) (ha : EA X ρ a (encT ns)) (hb : EA X ρ b (encT ms)) : ET X ρ (.Compare a [.GtE] [b] pos) (geI ns ms) := et_cmp (op_geT hu) (fun x y H R Q s dx dy q => by
  obtain ⟨t, rfl, h1⟩ := dx.encT
  obtain ⟨u, rfl, h2⟩ := dy.encT
  exact ⟨t, u, ns, ms, rfl, rfl, SqT.of h1, SqT.of h2, q _ H R (Gr.refl s) (NewV.atom rfl (.bl (H := H) _))⟩) ha hb (nomark _)
end KR
namespace L2
open PySem PySem.Spec PyProof.Rows
/-- a set just made -/
abbrev noSet (w : World) : Obj := { cls := .type "set", dict := none, data := .set #[] 0 (.fresh 0 0 (!w.params.followText "set-order")) }
section
variable {P : Program} {w : World} {A : Around} {E : Value → Shared → Prop} {s : Shared}
/-- set(l), l a list of ints -/
theorem set_of_ints {l : Addr} {its : Array Value} (ns : List Int) {Q : Value → Shared → Prop} (nh : A.handled = none) (isl : s.heap.IsList l its) (hi : IntsAre its.toList ns) (few : ns.length + 1 < scanBound)
    (k : ∀ (g : Heap) (tk m : Nat), SetR w g s.heap.objs.size (fun z => decide (z ∈ ns)) m → m ≤ ns.length → (∀ b o, s.heap.get? b = some o → g.get? b = some o) → Q (.ref s.heap.objs.size) { s with heap := g, toks := tk }) :
    wpAny (model P w) A (call (.type "set") [.ref l]) Q E s := by
  have size : its.size = ns.length := (Array.length_toList).symm.trans (IntsAre.length hi)
  obtain ⟨c0, tl0, m0⟩ := F.called_set.mro
  have m1 := F.called_set.made; have m2 := F.called_set.sub
  refine wpAny_call (codeAny_of_tree (show wpAny _ _ (callAny (.type "set") _) _ _ _ from wpAny_pure ⟨Code.quiet_builtin _ (by decide +kernel), codeAny_builtin F.entry_type_call ?_⟩))
  rw [Around.under_plain (weight_type_call_type "set" [.ref l] []) rfl]
  have m3 := F.called_set.notType; have m4 := F.called_set.canCreate; have m5 := F.typeCall_set_1 (.ref l)
  repeat (any_goals (first | assumption | wp_step))
  refine codeAny_mono (code_set_led1 (.ref l) (E := E) (Q₁ := fun u z => u = .ref s.heap.objs.size ∧ z = { s with heap := s.heap.push (noSet w) }) ⟨rfl, rfl⟩) fun r z hr => ?_
  cases r with
  | error e => exact hr
  | ok fl =>
    cases fl with
    | ret u =>
      obtain ⟨rfl, rfl⟩ := hr
      have got : (s.heap.push (noSet w)).get? s.heap.objs.size = some (noSet w) := Heap.get?_push_size _ rfl
      have ty : Shared.TypeIs { s with heap := s.heap.push (noSet w) } (.ref s.heap.objs.size) "set" := ⟨_, got, rfl⟩
      have m6 := F.called_set.init.lookup; have m7 := F.called_set.init.bind (.ref s.heap.objs.size)
      repeat (any_goals (first | assumption | wp_step))
      refine codeAny_mono (codeAny_call_builtin (R := wants (fun r t => r = .none ∧ ∃ g tk m, t = { s with heap := g, toks := tk } ∧ SetR w g s.heap.objs.size (fun z => decide (z ∈ ns)) m ∧ m ≤ ns.length ∧ ∀ b o, s.heap.get? b = some o → g.get? b = some o) E)
        F.called_set.init.plain F.entry_set_init (check_set_init_1 ty ?_)) fun r t ht => ?_
      · obtain ⟨⟨oc, od, odat, osl⟩, ol, cl, nl, dl⟩ := isl
        simp only at cl dl
        subst cl; subst dl
        have got2 : (s.heap.push (noSet w)).get? l = some { cls := .type "list", dict := od, data := .seq its nl, slots := osl } := Heap.get?_push_of_some _ ol
        have f1 := F.sub_list_set; have f2 := F.sub_list_frozenset
        have f3 : (Value.type "list" == Value.type "dict") = false := by decide
        have isl2 : (s.heap.push (noSet w)).IsList l its := ⟨_, got2, rfl, nl, rfl⟩
        unfold Builtin.«set.__init__» noKeywords Builtin.Frozenset.updateFrom
        generalize hPI : pyIter = PI
        wp_walk
        subst hPI
        refine wpAny_pyIter_list isl2 (wpAny_bind (wpAny_runValue ?_))
        have lS : l < s.heap.objs.size := Heap.lt_size ol
        have nh3 : A.in1.in1.in1.handled = none := by simp [nh]
        have lI : l ≠ (s.heap.push (noSet w)).objs.size := by rw [Heap.size_push]; exact Nat.ne_of_lt (Nat.lt_succ_of_lt lS)
        have sI : s.heap.objs.size ∉ [(s.heap.push (noSet w)).objs.size, l] := by
          rw [Heap.size_push]
          intro hm
          rcases List.mem_cons.mp hm with e | e
          · exact absurd e (Nat.ne_of_lt (Nat.lt_succ_self _))
          · exact absurd (List.mem_singleton.mp e) (Nat.ne_of_gt lS)
        have val : ∀ (i : Nat) (v : Value), its[i]? = some v → ∃ z t, ns[i]? = some z ∧ v = .int z t := fun i v hv => by
          have hi' : i < ns.length := size ▸ (Array.getElem?_eq_some_iff.mp hv).1
          obtain ⟨t, e⟩ := PyProof.Rows.IntsAre.int_at hi i v (by rw [Array.getElem?_toList]; exact hv)
          exact ⟨ns[i], t, List.getElem?_eq_getElem hi', by rw [e, List.getD_eq_getElem?_getD, List.getElem?_eq_getElem hi'] <;> rfl⟩
        refine set_update_ints ((Walks.list nh3 _ l lI its).toS) s.heap.objs.size sI ns size few val (its.size - 0) 0 _ (by omega) (Nat.zero_le _) ⟨⟨_, Heap.get?_push_size _ rfl, rfl, rfl⟩, (isl2.push _)⟩ ?atStart ?atEnd
        case atStart => exact ⟨0, Nat.le_refl 0, setR_new_at (Heap.get?_push_of_some _ got)⟩
        case atEnd =>
          intro ⟨g, gs, dr, tk, os⟩ m mv hm hS
          obtain rfl : gs = s.gens := mv.gens
          obtain rfl : dr = s.drawn := mv.drawn
          obtain rfl : os = s.os := mv.os
          refine wpAny_pure (show wpAny _ _ (ret Value.none) _ _ _ from wpAny_pure ⟨rfl, g, tk, m, rfl, hS, by rw [← size]; exact hm, fun b o e => ?_⟩)
          have b0 : b < s.heap.objs.size := Heap.lt_size e
          refine mv.heap b o (fun hm => ?_) (Heap.get?_push_of_some _ (Heap.get?_push_of_some _ e))
          rcases List.mem_cons.mp hm with e1 | e1
          · exact absurd e1 (Nat.ne_of_lt b0)
          · have e2 := List.mem_singleton.mp e1
            rw [Heap.size_push] at e2
            exact absurd e2 (Nat.ne_of_lt (Nat.lt_succ_of_lt b0))
      · cases r with
        | error e => exact ht
        | ok fl2 =>
          cases fl2 with
          | ret r =>
            obtain ⟨rfl, g, tk, m, rfl, q1, q2, q3⟩ := ht
            repeat (any_goals (first | assumption | wp_step))
            exact k _ _ _ q1 q2 q3
          | _ => exact ht.elim
    | _ => exact hr.elim
end
/-- set(l) of a list of ints -/
def rSetOfL (K : PySem.W.Frag) (w : World) : List V → Hp → VK → Prop := fun vs H Q => ∃ (l : Addr) (ns : List Int), vs = [.ref l] ∧ SqL K H l (ns.map V.int) ∧ ns.length ≤ 4000 ∧
  ∀ (p : Addr) (m : Nat) (zs : List Int), H p = none → zs.Nodup → (∀ z ∈ zs, z ∈ ns) → zs.length = m → Q (.ref p) (upd H p (SetO w p (fun z => decide (z ∈ ns)) m))
theorem cr_setL {X : Cx} (hc : X.calm = true) : CallR X (.type "set") (rSetOfL X.K X.w) := by
  intro pins s σ H vs us Q I r ⟨l, ns, e, hs, few, q⟩
  subst e
  rw [Vals.ref1 r]
  obtain ⟨its, rv, pl, _⟩ := I.list hs
  refine set_of_ints ns (I.ok.hd hc) pl.isList (by simpa using rv.ints) (by unfold scanBound; omega) fun g tk m R hm kp => ?_
  have fr : H s.heap.objs.size = none := I.hok.fresh (Nat.le_refl _)
  obtain ⟨o, es, ep, t, k1, k2, k3, k4, k5, k6, k7, k8, k9, k10, k11⟩ := id R
  exact ⟨.ref _, _, I.laid (t' := tk) kp (Nat.le_refl _) (setO_new R), rfl, q _ m (es.toList.map keyOf) fr k5 (fun z hz => of_decide_eq_true ((k6 z).mpr hz)) (by rw [List.length_map, Array.length_toList]; exact k9)⟩
end L2
namespace KR
open PySem L2
/-- ascending, each once -/
def insU (x : Int) : List Int → List Int
  | [] => [x]
  | y :: ys => if x < y then x :: y :: ys else if x = y then y :: ys else y :: insU x ys
def srtU : List Int → List Int
  | [] => []
  | x :: xs => insU x (srtU xs)
theorem insU_mem {x z : Int} : ∀ {ys : List Int}, z ∈ insU x ys ↔ z = x ∨ z ∈ ys
  | [] => by simp [insU]
  | y :: ys => by
    unfold insU
    split
    · simp
    · split
      · rename_i h1 h2
        subst h2
        simp
      · rw [List.mem_cons, insU_mem, List.mem_cons]
        constructor
        · rintro (h | h | h) <;> simp [h]
        · rintro (h | h | h) <;> simp [h]
theorem insU_srt (x : Int) : ∀ ys : List Int, ys.Pairwise (· < ·) → (insU x ys).Pairwise (· < ·)
  | [], _ => by simp [insU]
  | y :: ys, h => by
    have h' := List.pairwise_cons.mp h
    unfold insU
    split
    · rename_i hxy
      refine List.pairwise_cons.mpr ⟨fun z hz => ?_, h⟩
      rcases List.mem_cons.mp hz with rfl | hz
      · exact hxy
      · exact Int.lt_trans hxy (h'.1 z hz)
    · split
      · exact h
      · rename_i h1 h2
        refine List.pairwise_cons.mpr ⟨fun z hz => ?_, insU_srt x ys h'.2⟩
        rcases insU_mem.mp hz with rfl | hz
        · omega
        · exact h'.1 z hz
theorem srtU_srt : ∀ xs, (srtU xs).Pairwise (· < ·)
  | [] => .nil
  | x :: xs => insU_srt x _ (srtU_srt xs)
theorem srtU_mem {z : Int} : ∀ {xs : List Int}, z ∈ srtU xs ↔ z ∈ xs
  | [] => Iff.rfl
  | x :: xs => by
    show z ∈ insU x (srtU xs) ↔ _
    rw [insU_mem, srtU_mem, List.mem_cons]
theorem strict_eq : ∀ {xs ys : List Int}, xs.Pairwise (· < ·) → ys.Pairwise (· < ·) → (∀ z, z ∈ xs ↔ z ∈ ys) → xs = ys
  | [], [], _, _, _ => rfl
  | [], y :: ys, _, _, h => absurd ((h y).mpr List.mem_cons_self) (by simp)
  | x :: xs, [], _, _, h => absurd ((h x).mp List.mem_cons_self) (by simp)
  | x :: xs, y :: ys, h1, h2, h => by
    have a1 := List.pairwise_cons.mp h1
    have a2 := List.pairwise_cons.mp h2
    have e : x = y := by
      have m1 := (h x).mp List.mem_cons_self
      have m2 := (h y).mpr List.mem_cons_self
      rcases List.mem_cons.mp m1 with e | m1
      · exact e
      · rcases List.mem_cons.mp m2 with e | m2
        · exact e.symm
        · have := a2.1 x m1
          have := a1.1 y m2
          omega
    subst e
    rw [strict_eq a1.2 a2.2 fun z => ⟨fun hz => ?_, fun hz => ?_⟩]
    · rcases List.mem_cons.mp ((h z).mp (List.mem_cons_of_mem _ hz)) with e | m
      · have := a1.1 z hz
        omega
      · exact m
    · rcases List.mem_cons.mp ((h z).mpr (List.mem_cons_of_mem _ hz)) with e | m
      · have := a2.1 z hz
        omega
      · exact m
section
variable {X : Cx} {ρ : List Ent} {a : Expr} {pos p p2 q0 : Pos}
/-- sorted(set(l)), l a list of ints -/
theorem en_srtSet {ns : List Int} (h : EA X ρ a (.list (ns.map PyData.int))) (hz : ns.length ≤ 4000) (hd : ∀ zs : List Int, zs.Nodup → (∀ z ∈ zs, z ∈ ns) → zs.length < 64) (hm : X.mg "sorted" = none) (hm2 : X.mg "set" = none) (hc : X.calm = true := by rfl) (hg : Gl X "sorted" := by rfl) (hg2 : Gl X "set" := by rfl)
    (na : starEach [a] X.env = (false, eval a X.env) :: starEach [] X.env := by rfl) (na2 : starEach [.Call (.Name "set" p2) [a] [] q0] X.env = (false, eval (.Call (.Name "set" p2) [a] [] q0) X.env) :: starEach [] X.env := by rfl)
    (hp1 : (backTo q0 (starEach [] X.env)).any (·.1) = false := by rfl) (hp2 : (backTo pos (starEach [] X.env)).any (·.1) = false := by rfl) :
    EN X ρ (.Call (.Name "sorted" p) [.Call (.Name "set" p2) [a] [] q0] [] pos) (.list ((srtU ns).map PyData.int)) :=
  pe_weak (pe_callB (cr_sortedSet hc) hg hm (by decide +kernel) (pa_cons (pe_callTy (cr_setL hc) hg2 hm2 (by decide +kernel) (pa_cons h pa_nil na) (by decide) (by decide) na hp1) pa_nil na2) (by decide) (by decide) na2 hp2) fun σ H Q ⟨R, s, q⟩ => ⟨R, s, fun v H2 R2 g w => by
    obtain ⟨l, rfl, h1⟩ := w.ints
    refine ⟨l, ns, rfl, SqL.of h1, hz, fun u m zs hu z1 z2 z3 => ?_⟩
    refine ⟨u, _, m, rfl, upd_same, by rw [← z3]; exact hd zs z1 z2, fun ms p' hs hme _ hn => ?_⟩
    have e : ms = srtU ns := strict_eq hs (srtU_srt ns) fun z => by
      rw [hme z, srtU_mem]
      simp
    subst e
    have g' : Gr H R (upd (upd H2 u (SetO X.w u (fun z => decide (z ∈ ns)) m)) p' (.lst ((srtU ns).map V.int))) R2 := (g.trans (Gr.beside g.sub hu)).trans (Gr.beside (g.sub.trans (same_new hu)) hn)
    exact q _ _ R2 g' (.ls ((g.hp.trans (same_new hu)).free hn) ((g.sub.trans (same_new hu)).free hn) upd_same (DqAll.of_ints _))⟩
end
end KR
/-! KR, expressions that draw: one list of the def's own, at slot i0, is changed by what is called; what comes is not known, but what holds of it. -/
namespace KR
open PySem L2
structure GrM (H R H2 R2 : Hp) : Prop where
  reg : Same R R2
  dom : ∀ b, H b ≠ none → H2 b ≠ none
  sub : Same R2 H2
  new : ∀ b, H b ≠ none → R b = none → R2 b = none
theorem Gr.m {H R H2 R2 : Hp} (g : Gr H R H2 R2) : GrM H R H2 R2 := ⟨g.reg, fun b h => Same.there g.hp h, g.sub, g.new⟩
theorem GrM.trans {H R H1 R1 H2 R2 : Hp} (a : GrM H R H1 R1) (b : GrM H1 R1 H2 R2) : GrM H R H2 R2 :=
  ⟨a.reg.trans b.reg, fun x h => b.dom x (a.dom x h), b.sub, fun x h1 h2 => b.new x (a.dom x h1) (a.new x h1 h2)⟩
theorem GrM.free {H R H2 R2 : Hp} (g : GrM H R H2 R2) {b : Addr} (h : H2 b = none) : H b = none := by
  cases q : H b with
  | none => rfl
  | some o => exact absurd h (g.dom b (by rw [q]; exact nofun))
theorem NewV.backM {H0 R0 R H H2 R2 : Hp} {v : V} {d : PyData} (g : GrM H0 R0 H R) (n : NewV H H2 R2 v d) : NewV H0 H2 R2 v d := by
  cases n with
  | sc h q => exact .sc h q
  | ls h h2 h3 q => exact .ls (g.free h) h2 h3 q
abbrev withG (ρ : List Ent) (i0 : Nat) (gs : List Int) : List Ent := ρ.set i0 (.own (gs.map PyData.int))
/-- the state: γ tells which list it is, where that matters -/
structure StG (H0 R0 : Hp) (γ : Option Addr) (i0 : Nat) (σ : L2.St) (H R : Hp) (ρ : List Ent) (gs : List Int) : Prop where
  st : StP H0 R0 σ H R (withG ρ i0 gs)
  lt : i0 < ρ.length
  at_ : ∀ g, γ = some g → σ[i0]? = some (some (.ref g))
section
variable {H0 R0 H R H2 R2 : Hp} {γ : Option Addr} {i0 : Nat} {σ σ' : L2.St} {ρ ρ' : List Ent} {gs gs' : List Int}
theorem withG_at (h : i0 < ρ.length) : (withG ρ i0 gs)[i0]? = some (.own (gs.map PyData.int)) := List.getElem?_set_self h
theorem withG_with : withG (withG ρ i0 gs) i0 gs' = withG ρ i0 gs' := List.set_set ..
theorem StG.grow (s : StG H0 R0 γ i0 σ H R ρ gs) (g : Gr H R H2 R2) : StG H0 R0 γ i0 σ H2 R2 ρ gs := ⟨s.st.grow g, s.lt, s.at_⟩
theorem StG.list (s : StG H0 R0 γ i0 σ H R ρ gs) : ∃ g, σ[i0]? = some (some (.ref g)) ∧ R g = none ∧ H g = some (.lst (gs.map V.int)) ∧ H0 g = none := by
  obtain ⟨p, xs, e1, e2, e3, q⟩ := s.st.sl.own i0 _ (withG_at s.lt)
  rw [q.ints] at e3
  exact ⟨p, e1, e2, e3, s.st.fr i0 _ p (withG_at s.lt) e1⟩
/-- the list at g has been changed, all else stands -/
theorem StG.drawn {g : Addr} (s : StG H0 R0 γ i0 σ H R ρ gs) (hg : σ[i0]? = some (some (.ref g))) (m : GrM H R H2 R2) (keep : ∀ b o, b ≠ g → H b = some o → H2 b = some o) (h2 : H2 g = some (.lst (gs'.map V.int))) : StG H0 R0 γ i0 σ H2 R2 ρ gs' := by
  obtain ⟨p, e1, e2, e3, e4⟩ := s.list
  rw [hg] at e1
  cases e1
  have lw : i0 < (withG ρ i0 gs).length := by rw [List.length_set]; exact s.lt
  have off : ∀ {j : Nat} {e : Ent}, j ≠ i0 → (withG ρ i0 gs')[j]? = some e → (withG ρ i0 gs)[j]? = some e := fun {j e} hj h => by
    rw [List.getElem?_set_ne (Ne.symm hj)] at h ⊢
    exact h
  have own : ∀ {j : Nat} {es : List PyData}, (withG ρ i0 gs')[j]? = some (.own es) → ∃ es', (withG ρ i0 gs)[j]? = some (.own es') := fun {j es} h => by
    by_cases hj : j = i0
    · subst hj; exact ⟨_, withG_at s.lt⟩
    · exact ⟨es, off hj h⟩
  refine ⟨⟨⟨m.sub, ?_, fun j d e => ?_, fun j es e => ?_, fun j l es fs u k1 k2 k3 k4 => ?_⟩, ⟨s.st.gr.reg.trans m.reg, fun b o e => ?_, m.sub, fun b h1 h2 => ?_⟩, fun j es u k1 k2 => ?_⟩, s.lt, s.at_⟩
  · have := s.st.sl.len
    rw [List.length_set] at this ⊢
    exact this
  · have hj : j ≠ i0 := fun z => by
      subst z
      rw [withG_at s.lt] at e; cases e
    obtain ⟨v, k1, k2⟩ := s.st.sl.val j d (off hj e)
    exact ⟨v, k1, k2.up m.reg⟩
  · by_cases hj : j = i0
    · subst hj
      rw [withG_at s.lt] at e
      cases e
      exact ⟨g, _, hg, m.new g (by rw [e3]; exact nofun) e2, h2, DqAll.of_ints gs'⟩
    · obtain ⟨p, xs, k1, k2, k3, k4⟩ := s.st.sl.own j es (off hj e)
      have hp : p ≠ g := fun z => by
        subst z
        exact hj (s.st.sl.sep j i0 es _ p (off hj e) (withG_at s.lt) k1 hg)
      exact ⟨p, xs, k1, m.new p (by rw [k3]; exact nofun) k2, keep p _ hp k3, k4.up m.reg⟩
  · obtain ⟨_, w1⟩ := own k1
    obtain ⟨_, w2⟩ := own k2
    exact s.st.sl.sep j l _ _ u w1 w2 k3 k4
  · exact keep b o (ne_of_none e e4) (s.st.gr.hp b o e)
  · exact m.new b (Same.there s.st.gr.hp h1) (s.st.gr.new b h1 h2)
  · obtain ⟨_, w1⟩ := own k1
    exact s.st.fr j _ u w1 k2
end

/-! ### what is wanted -/
def tG (γ : Option Addr) (i0 : Nat) (ρ : List Ent) (gs : List Int) (P : PyData → List Int → Prop) : TE := fun σ H Q => ∃ H0 R0 R, StG H0 R0 γ i0 σ H R ρ gs ∧
  ∀ v d gs' H2 R2, P d gs' → StG H0 R0 γ i0 σ H2 R2 ρ gs' → GrM H R H2 R2 → Dq R2 v d → Q v H2
def tGN (γ : Option Addr) (i0 : Nat) (ρ : List Ent) (gs : List Int) (P : PyData → List Int → Prop) : TE := fun σ H Q => ∃ H0 R0 R, StG H0 R0 γ i0 σ H R ρ gs ∧
  ∀ v d gs' H2 R2, P d gs' → StG H0 R0 γ i0 σ H2 R2 ρ gs' → GrM H R H2 R2 → NewV H H2 R2 v d → Q v H2
def tGs (γ : Option Addr) (i0 : Nat) (ρ : List Ent) (gs : List Int) (P : List PyData → List Int → Prop) : TA := fun σ H Q => ∃ H0 R0 R, StG H0 R0 γ i0 σ H R ρ gs ∧
  ∀ vs ds gs' H2 R2, P ds gs' → StG H0 R0 γ i0 σ H2 R2 ρ gs' → GrM H R H2 R2 → DqAll R2 vs ds → Q vs H2
def tGT (γ : Option Addr) (i0 : Nat) (ρ : List Ent) (gs : List Int) (P : Bool → List Int → Prop) : TT := fun σ H Q => ∃ H0 R0 R, StG H0 R0 γ i0 σ H R ρ gs ∧
  ∀ b gs' H2 R2, P b gs' → StG H0 R0 γ i0 σ H2 R2 ρ gs' → GrM H R H2 R2 → Q b H2
abbrev GE (X : Cx) (γ : Option Addr) (i0 : Nat) (ρ : List Ent) (gs : List Int) (e : Expr) (P : PyData → List Int → Prop) : Prop := PE X e (tG γ i0 ρ gs P)
abbrev GN (X : Cx) (γ : Option Addr) (i0 : Nat) (ρ : List Ent) (gs : List Int) (e : Expr) (P : PyData → List Int → Prop) : Prop := PE X e (tGN γ i0 ρ gs P)
abbrev GEs (X : Cx) (γ : Option Addr) (i0 : Nat) (ρ : List Ent) (gs : List Int) (es : List Expr) (P : List PyData → List Int → Prop) : Prop := PA X es (tGs γ i0 ρ gs P)
abbrev GT (X : Cx) (γ : Option Addr) (i0 : Nat) (ρ : List Ent) (gs : List Int) (e : Expr) (P : Bool → List Int → Prop) : Prop := PT X e (tGT γ i0 ρ gs P)
/-- any such wish -/
def eAnyG (X : Cx) (e : Expr) : TE := fun σ H Q => ∃ γ i0 ρ gs P, GE X γ i0 ρ gs e P ∧ tG γ i0 ρ gs P σ H Q
def esAnyG (X : Cx) (es : List Expr) : TA := fun σ H Q => ∃ γ i0 ρ gs P, GEs X γ i0 ρ gs es P ∧ tGs γ i0 ρ gs P σ H Q
theorem pe_anyG {X : Cx} {e : Expr} : PE X e (eAnyG X e) := ⟨fun pins s σ H Q I ⟨γ, i0, ρ, gs, P, h, q⟩ => h.run pins s σ H Q I q⟩
theorem pa_anyG {X : Cx} {es : List Expr} : PA X es (esAnyG X es) := ⟨fun pos pins s σ H Q I ⟨γ, i0, ρ, gs, P, h, q⟩ => h.run pos pins s σ H Q I q⟩
section
variable {X : Cx} {γ : Option Addr} {i0 : Nat} {ρ : List Ent} {gs : List Int} {e a b : Expr} {es : List Expr} {d : PyData} {P : PyData → List Int → Prop} {pos : Pos}
theorem gn_e (hh : GN X γ i0 ρ gs e P) : GE X γ i0 ρ gs e P := pe_weak hh fun σ H Q ⟨H0, R0, R, s, k⟩ => ⟨H0, R0, R, s, fun v d gs' H2 R2 p s2 m n => by
  cases n with
  | sc _ q => exact k v d gs' H2 R2 p s2 m q
  | ls hn h2 h3 q =>
    rename_i p0 xs ds
    -- the new list comes into the region
    have up : Same R2 (upd R2 p0 (.lst xs)) := same_new h2
    have m' : GrM H R H2 (upd R2 p0 (.lst xs)) := by
      refine ⟨m.reg.trans up, m.dom, fun b o e => ?_, fun b h1 h4 => ?_⟩
      · by_cases hb : b = p0
        · subst hb; rw [upd_same] at e; rw [h3]; exact e
        · rw [upd_ne hb] at e; exact m.sub b o e
      · have hb : b ≠ p0 := fun z => h1 (z ▸ hn)
        rw [upd_ne hb]; exact m.new b h1 h4
    refine k _ _ gs' H2 _ p ?_ m' (.lst upd_same (q.up up))
    have fp : H0 p0 = none := s.st.gr.hp.free hn
    refine ⟨⟨⟨m'.sub, s2.st.sl.len, fun j d e => ?_, fun j es e => ?_, s2.st.sl.sep⟩, ⟨s2.st.gr.reg.trans up, s2.st.gr.hp, m'.sub, fun b h1 h4 => ?_⟩, s2.st.fr⟩, s2.lt, s2.at_⟩
    · obtain ⟨u, k1, k2⟩ := s2.st.sl.val j d e
      exact ⟨u, k1, k2.up up⟩
    · obtain ⟨u, ys, k1, k2, k3, k4⟩ := s2.st.sl.own j es e
      have hu : u ≠ p0 := fun z => by
        subst z
        -- an own list was there ahead, or it is the drawn one's, which was there too
        by_cases hj : j = i0
        · subst hj
          obtain ⟨g, g1, g2, g3, g4⟩ := s.list
          rw [k1] at g1
          cases g1
          rw [hn] at g3; cases g3
        · have e' : (withG ρ i0 gs)[j]? = some (.own es) := by
            rw [List.getElem?_set_ne (Ne.symm hj)] at e ⊢
            exact e
          obtain ⟨u', ys', l1, l2, l3, l4⟩ := s.st.sl.own j es e'
          rw [k1] at l1
          cases l1
          rw [hn] at l3; cases l3
      exact ⟨u, ys, k1, by rw [upd_ne hu]; exact k2, k3, k4.up up⟩
    · have hb : b ≠ p0 := fun z => h1 (z ▸ fp)
      rw [upd_ne hb]; exact s2.st.gr.new b h1 h4⟩
theorem ge_pure (h : EC X (withG ρ i0 gs) e d) (k : P d gs) : GE X γ i0 ρ gs e P := pe_weak h fun σ H Q ⟨H0, R0, R, s, q⟩ => ⟨R, s.st.sl, fun v H2 R2 g w => q v d gs H2 R2 k (s.grow g) g.m w⟩
theorem gn_pure (h : EN X (withG ρ i0 gs) e d) (k : P d gs) : GN X γ i0 ρ gs e P := pe_weak h fun σ H Q ⟨H0, R0, R, s, q⟩ => ⟨R, s.st.sl, fun v H2 R2 g w => q v d gs H2 R2 k (s.grow g) g.m w⟩
theorem gt_pure {k0 : Bool} {P : Bool → List Int → Prop} (h : ET X (withG ρ i0 gs) e k0) (k : P k0 gs) : GT X γ i0 ρ gs e P := pt_weak h fun σ H Q ⟨H0, R0, R, s, q⟩ => ⟨R, s.st.sl, fun H2 R2 g => q k0 gs H2 R2 k (s.grow g) g.m⟩
theorem ges_nil {P : List PyData → List Int → Prop} (k : P [] gs) : GEs X γ i0 ρ gs [] P := pa_weak pa_nil fun σ H Q ⟨H0, R0, R, s, q⟩ => q [] [] gs H R k s (Gr.refl s.st.sl.sub).m .nil
theorem ges_cons {P : List PyData → List Int → Prop} (h : GE X γ i0 ρ gs e fun d gs1 => GEs X γ i0 ρ gs1 es fun ds gs2 => P (d :: ds) gs2) (hs : starEach (e :: es) X.env = (false, eval e X.env) :: starEach es X.env := by rfl) : GEs X γ i0 ρ gs (e :: es) P :=
  pa_weak (pa_cons h pa_anyG hs) fun σ H Q ⟨H0, R0, R, s, q⟩ => ⟨H0, R0, R, s, fun v d gs1 H1 R1 hr s1 m1 w => ⟨γ, i0, ρ, gs1, _, hr, H0, R0, R1, s1, fun vs ds gs2 H2 R2 p2 s2 m2 ws => q _ _ gs2 H2 R2 p2 s2 (m1.trans m2) (.cons (w.up m2.reg) ws)⟩⟩
/-- two operands -/
theorem Op2.c {r : R2} {da db d : PyData} (h : Op2 r da db d) : Op2C r da db d := fun x y H R Q s dx dy k => h x y H R Q s (dx.up s) (dy.up s) k
theorem gn_bin {op : Operator} {r : R2} (ho : OpR X (binaryOp op) r) (ha : GE X γ i0 ρ gs a fun x gs1 => GE X γ i0 ρ gs1 b fun y gs2 => ∃ d, Op2C r x y d ∧ P d gs2) : GN X γ i0 ρ gs (.BinOp a op b pos) P :=
  pe_weak (pe_op ho ha pe_anyG) fun σ H Q ⟨H0, R0, R, s, q⟩ => ⟨H0, R0, R, s, fun x dx gs1 H1 R1 hb s1 m1 wx => ⟨γ, i0, ρ, gs1, _, hb, H0, R0, R1, s1, fun y dy gs2 H2 R2 ⟨d, hr, hp⟩ s2 m2 wy =>
    hr x y H2 R2 Q s2.st.sl.sub (wx.up m2.reg) wy fun v H3 R3 g n => q v d gs2 H3 R3 hp (s2.grow g) ((m1.trans m2).trans g.m) (n.backM (m1.trans m2))⟩⟩
theorem gt_cmp {op : CmpOp} {r : R2} {P : Bool → List Int → Prop} (ho : OpR X (compareOp op) r) (ha : GE X γ i0 ρ gs a fun x gs1 => GE X γ i0 ρ gs1 b fun y gs2 => ∃ k, Op2C r x y (.bool k) ∧ P k gs2) (hm : behindInMarks op b = false) : GT X γ i0 ρ gs (.Compare a [op] [b] pos) P :=
  pt_weak (pt_cmpR ho ha pe_anyG hm) fun σ H Q ⟨H0, R0, R, s, q⟩ => ⟨H0, R0, R, s, fun x dx gs1 H1 R1 hb s1 m1 wx => ⟨γ, i0, ρ, gs1, _, hb, H0, R0, R1, s1, fun y dy gs2 H2 R2 ⟨k, hr, hp⟩ s2 m2 wy =>
    hr x y H2 R2 _ s2.st.sl.sub (wx.up m2.reg) wy fun v H3 R3 g n => by
      cases n with
      | sc _ w => cases w; exact ⟨k, rfl, q k gs2 H3 R3 hp (s2.grow g) ((m1.trans m2).trans g.m)⟩⟩⟩
theorem ge_ix {a b : Expr} (ha : GE X γ i0 ρ gs a fun x gs1 => GE X γ i0 ρ gs1 b fun y gs2 => ∃ ds i d, x = .list ds ∧ y = .int i ∧ atI ds i = some d ∧ P d gs2) (hp : PlainIx b := by exact fun _ _ => rfl) : GE X γ i0 ρ gs (.Subscript a b pos) P :=
  pe_weak (pe_ix ix_list ha pe_anyG hp) fun σ H Q ⟨H0, R0, R, s, q⟩ => ⟨H0, R0, R, s, fun x dx gs1 H1 R1 hb s1 m1 wx => ⟨γ, i0, ρ, gs1, _, hb, H0, R0, R1, s1, fun y dy gs2 H2 R2 ⟨ds, i, d, e1, e2, e3, hp⟩ s2 m2 wy => by
    subst e1 e2
    cases wy
    cases wx with
    | lst h1 h2 =>
      obtain ⟨v, e4, w⟩ := h2.atI e3
      exact ⟨_, _, _, v, rfl, rfl, SqL.of (m2.sub _ _ (m2.reg _ _ h1)), e4, q v d gs2 H2 R2 hp s2 (m1.trans m2) (w.up m2.reg)⟩⟩⟩
/-- displays -/
theorem gn_tup {k0} (h : GEs X γ i0 ρ gs es fun ds gs' => ds.length ≤ 1000 ∧ P (.tuple ds) gs') : GN X γ i0 ρ gs (.Tuple es k0 pos) P :=
  pe_weak (pe_tup h) fun σ H Q ⟨H0, R0, R, s, q⟩ => ⟨H0, R0, R, s, fun vs ds gs' H2 R2 ⟨hz, p⟩ s2 m w => ⟨by rw [w.len]; exact Nat.le_trans hz (by decide), fun t ht =>
    have g := Gr.alloc (o := .tup vs) s2.st.sl.sub ht
    q _ _ gs' _ _ p (s2.grow g) (m.trans g.m) (.sc (fun _ => nofun) (.tup upd_same (w.up (same_new (s2.st.sl.sub.free ht)))))⟩⟩
theorem gn_lst (h : GEs X γ i0 ρ gs es fun ds gs' => ds.length ≤ 1000 ∧ P (.list ds) gs') : GN X γ i0 ρ gs (.List es pos) P :=
  pe_weak (pe_lst h) fun σ H Q ⟨H0, R0, R, s, q⟩ => ⟨H0, R0, R, s, fun vs ds gs' H2 R2 ⟨hz, p⟩ s2 m w => ⟨by rw [w.len]; exact Nat.le_trans hz (by decide), fun t ht =>
    have g := Gr.beside (o := .lst vs) s2.st.sl.sub ht
    q _ _ gs' _ _ p (s2.grow g) (m.trans g.m) (.ls (m.free ht) (s2.st.sl.sub.free ht) upd_same w)⟩⟩
variable {r : List V → Hp → VK → Prop} {x : Str} {p : Pos} {id T : String}
theorem gn_callB (hc : CallR X (.builtin id) r) (hm : X.mg x = none) (ha : GEs X γ i0 ρ gs (e :: es) fun ds gs' => ∃ d, Cl1C r ds d ∧ P d gs') (hg : Gl X x := by rfl) (hv : bootBuiltins x = some (.builtin id) := by decide +kernel) (hn : x ≠ "__name__" := by decide) (hdb : (x == ("__debug__" : Str)) = false := by decide)
    (he : starEach (e :: es) X.env = (false, eval e X.env) :: starEach es X.env := by rfl) (hpl : (backTo pos (starEach es X.env)).any (·.1) = false := by rfl) : GN X γ i0 ρ gs (.Call (.Name x p) (e :: es) [] pos) P :=
  pe_weak (pe_callB hc hg hm hv ha hn hdb he hpl) fun σ H Q ⟨H0, R0, R, s, q⟩ => ⟨H0, R0, R, s, fun vs ds gs' H2 R2 ⟨d, hr, hp⟩ s2 m w => hr vs H2 R2 Q s2.st.sl.sub w fun v H3 R3 g n => q v d gs' H3 R3 hp (s2.grow g) (m.trans g.m) (n.backM m)⟩
theorem Cl1.c {ds : List PyData} {d : PyData} (h : Cl1 r ds d) : Cl1C r ds d := fun vs H R Q s w k => h vs H R Q s (w.up s) k

/-! ### defs that draw -/
/-- the first argument: the list that is changed -/
def spG (Pre : List Int → List PyData → Prop) (Φ : List Int → List PyData → PyData → List Int → Prop) : Sp := fun vs H Q _ => ∃ R g us gs ds, vs = .ref g :: us ∧ Same R H ∧ R g = none ∧ H g = some (.lst (gs.map V.int)) ∧ DqAll R us ds ∧ Pre gs ds ∧
  ∀ v d gs' H2 R2, Φ gs ds d gs' → GrM H R H2 R2 → (∀ b o, b ≠ g → H b = some o → H2 b = some o) → H2 g = some (.lst (gs'.map V.int)) → NewV H H2 R2 v d → Q v H2
variable {k : Nat} {f : Addr} {fd : FuncData} {ps : List Str} {Pre : List Int → List PyData → Prop} {Φ : List Int → List PyData → PyData → List Int → Prop} {y : Str} {py : Pos}
theorem gn_call (F : FnOk X.prog X.w X.K X.mg X.base CX0 k f fd ps (spG Pre Φ)) (hr : Room k X.A) (hm : X.mg x = some (.ref f)) (hk : PySem.W.keepIn X.K (.ref f) = true) (hb : Binds X.K fd ps []) (ha : GEs X γ i0 ρ gs es fun ds gs1 => Pre gs1 ds ∧ ∀ d gs2, Φ gs1 ds d gs2 → P d gs2)
    (hN : X.N[i0]? = some y := by rfl) (hv : Vis X.env.scope y := by first | exact Or.inl rfl | exact Or.inr (Or.inl rfl) | exact Or.inr (Or.inr rfl)) (h1 : (y == ("__debug__" : Str)) = false := by decide) (h2 : (y == ("__classdict__" : Str)) = false := by decide)
    (hg : Gl X x := by rfl) (hdb : (x == ("__debug__" : Str)) = false := by decide) (he : starEach (.Name y py :: es) X.env = (false, eval (.Name y py) X.env) :: starEach es X.env := by rfl) (hpl : (backTo pos (starEach es X.env)).any (·.1) = false := by rfl) :
    GN X γ i0 ρ gs (.Call (.Name x p) (.Name y py :: es) [] pos) P :=
  pe_weak (pe_call F hr hg hm hk hb .nil pass0 (pa_cons (pe_var hN hv h1 h2) ha he) hdb he hpl) fun σ H Q ⟨H0, R0, R, s, q⟩ => by
    obtain ⟨g, e1, _, _, _⟩ := s.list
    refine ⟨_, e1, H0, R0, R, s, fun vs ds gs1 H2 R2 ⟨pre, post⟩ s2 m w => ?_⟩
    obtain ⟨g', k1, k2, k3, k4⟩ := s2.list
    rw [e1] at k1
    cases k1
    refine ⟨R2, g, vs, gs1, ds, by rw [List.append_nil], s2.st.sl.sub, k2, k3, w, pre, fun v d gs2 H3 R3 ph m3 keep h3 n => ?_⟩
    exact q v d gs2 H3 R3 (post d gs2 ph) (s2.drawn e1 m3 keep h3) (m.trans m3) (n.backM m)
end
end KR
/-! KR, statements and comprehensions that draw -/
namespace KR
open PySem L2
section
variable {H0 R0 H R H2 R2 : Hp} {γ : Option Addr} {i0 i : Nat} {σ σ' : L2.St} {ρ ρ1 : List Ent} {gs gs' : List Int} {v : V} {d : PyData} {ds es : List PyData}
theorem withG_set {x : Ent} (h : i ≠ i0) : (withG ρ i0 gs).set i x = withG (ρ.set i x) i0 gs := List.set_comm _ _ (Ne.symm h)
theorem withG_get (h : i ≠ i0) : (withG ρ i0 gs)[i]? = ρ[i]? := List.getElem?_set_ne (Ne.symm h)
theorem StG.setV (s : StG H0 R0 γ i0 σ H R ρ gs) (h : i ≠ i0) (q : Dq R v d) : StG H0 R0 γ i0 (σ.set i (some v)) H R (ρ.set i (.val d)) gs :=
  ⟨withG_set h ▸ s.st.setV q, by rw [List.length_set]; exact s.lt, fun g e => by rw [List.getElem?_set_ne h]; exact s.at_ g e⟩
theorem StG.setO (s : StG H0 R0 γ i0 σ H R ρ gs) (h : i ≠ i0) {p : Addr} {xs : List V} (g : Gr H R H2 R2) (hn : H p = none) (hp : R2 p = none) (hx : H2 p = some (.lst xs)) (q : DqAll R2 xs ds) : StG H0 R0 γ i0 (σ.set i (some (.ref p))) H2 R2 (ρ.set i (.own ds)) gs :=
  ⟨withG_set h ▸ s.st.setO g hn hp hx q, by rw [List.length_set]; exact s.lt, fun g e => by rw [List.getElem?_set_ne h]; exact s.at_ g e⟩
theorem StG.mut (s : StG H0 R0 γ i0 σ H R ρ gs) (h : i ≠ i0) {p : Addr} {ys : List V} (hi : ρ[i]? = some (.own ds)) (hp : σ[i]? = some (some (.ref p))) (q : DqAll R ys es) : StG H0 R0 γ i0 σ (upd H p (.lst ys)) R (ρ.set i (.own es)) gs :=
  ⟨withG_set h ▸ s.st.mut (by rw [withG_get h]; exact hi) hp q, by rw [List.length_set]; exact s.lt, s.at_⟩
theorem StG.mutG (s : StG H0 R0 γ i0 σ H R ρ gs) {p : Addr} (hp : σ[i0]? = some (some (.ref p))) : StG H0 R0 γ i0 σ (upd H p (.lst (gs'.map V.int))) R ρ gs' := by
  have h := s.st.mut (withG_at s.lt) hp (DqAll.of_ints gs' (H := R))
  rw [show (withG ρ i0 gs).set i0 (Ent.own (gs'.map PyData.int)) = withG ρ i0 gs' from withG_with] at h
  exact ⟨h, s.lt, s.at_⟩
theorem StG.tgt (s : StG H0 R0 γ i0 σ H R ρ gs) (s' : Sl σ' H R (withG ρ1 i0 gs)) (o : OwnS σ (withG ρ i0 gs) σ' (withG ρ1 i0 gs)) (hl : i0 < ρ1.length) : StG H0 R0 γ i0 σ' H R ρ1 gs :=
  ⟨s.st.tgt s' o, hl, fun g e => by rw [(o i0 _ (withG_at hl)).2]; exact s.at_ g e⟩
theorem StG.freeze (s : StG H0 R0 γ i0 σ H R ρ gs) (h : i ≠ i0) (hi : ρ[i]? = some (.own ds)) : ∃ R', StG H0 R0 γ i0 σ H R' (ρ.set i (.val (.list ds))) gs := by
  obtain ⟨R', s'⟩ := s.st.freeze (i := i) (ds := ds) (by rw [withG_get h]; exact hi)
  exact ⟨R', ⟨withG_set h ▸ s', by rw [List.length_set]; exact s.lt, s.at_⟩⟩
theorem StG.own (s : StG H0 R0 γ i0 σ H R ρ gs) (h : i ≠ i0) (hi : ρ[i]? = some (.own ds)) : ∃ p xs, σ[i]? = some (some (.ref p)) ∧ R p = none ∧ H p = some (.lst xs) ∧ DqAll R xs ds :=
  s.st.sl.own i ds (by rw [withG_get h]; exact hi)
theorem StG.here (s : StG H0 R0 γ i0 σ H R ρ gs) : StG (uni H0 R) R γ i0 σ H R ρ gs := ⟨s.st.here, s.lt, s.at_⟩
theorem StG.back (s : StG H0 R0 γ i0 σ H R ρ gs) {H' R' : Hp} (s' : StG (uni H0 R) R γ i0 σ' H' R' ρ1 gs') : StG H0 R0 γ i0 σ' H' R' ρ1 gs' := ⟨s.st.back s'.st, s'.lt, s'.at_⟩
/-- where the list is -/
theorem StG.told (s : StG H0 R0 γ i0 σ H R ρ gs) {g : Addr} (e : γ = some g) : R g = none ∧ H g = some (.lst (gs.map V.int)) := by
  obtain ⟨p, e1, e2, e3, _⟩ := s.list
  rw [s.at_ g e] at e1
  cases e1
  exact ⟨e2, e3⟩
end
def tGS (γ : Option Addr) (i0 : Nat) (ρ : List Ent) (gs : List Int) (nx : List Ent → List Int → Prop) (rt : PyData → List Int → Prop) : TS := fun D σ H => ∃ H0 R0 R, StG H0 R0 γ i0 σ H R ρ gs ∧
  (∀ σ' H' R' ρ' gs', nx ρ' gs' → StG H0 R0 γ i0 σ' H' R' ρ' gs' → D.nx σ' H') ∧
  ∀ v H' R' d gs', rt d gs' → Gr H0 R0 H' R' → (∀ g, γ = some g → R' g = none ∧ H' g = some (.lst (gs'.map V.int)) ∧ (v ≠ .ref g ∨ ∀ ds, d ≠ .list ds)) → NewV H0 H' R' v d → D.rt v H'
abbrev GS (X : Cx) (γ : Option Addr) (i0 : Nat) (ρ : List Ent) (gs : List Int) (st : Stmt) (nx : List Ent → List Int → Prop) (rt : PyData → List Int → Prop) : Prop := PS X st (tGS γ i0 ρ gs nx rt)
abbrev GSs (X : Cx) (γ : Option Addr) (i0 : Nat) (ρ : List Ent) (gs : List Int) (sts : List Stmt) (nx : List Ent → List Int → Prop) (rt : PyData → List Int → Prop) : Prop := PSs X sts (tGS γ i0 ρ gs nx rt)
def sAnyG (X : Cx) (body : List Stmt) : TS := fun D σ H => ∃ γ i0 ρ gs nx rt, GSs X γ i0 ρ gs body nx rt ∧ tGS γ i0 ρ gs nx rt D σ H
theorem pss_anyG {X : Cx} {body : List Stmt} : PSs X body (sAnyG X body) := ⟨fun pins s σ H D I ⟨γ, i0, ρ, gs, nx, rt, a, q⟩ => a.run pins s σ H D I q⟩
def tIG (γ : Option Addr) (i0 : Nat) (ρ : List Ent) (gs : List Int) (P : List PyData → List Int → Prop) : TI := fun σ H Rr => ∃ H0 R0 R, StG H0 R0 γ i0 σ H R ρ gs ∧ ∀ ds gs' J H2 R2, P ds gs' → StG H0 R0 γ i0 σ H2 R2 ρ gs' → GrM H R H2 R2 →
  Walk J ds.length (fun H' => Same R2 H') (fun i H' x H'' => ∃ d, ds[i]? = some d ∧ YD R2 d H' x H'') → Rr J H2
abbrev EIG (X : Cx) (tg : Expr) (γ : Option Addr) (i0 : Nat) (ρ : List Ent) (gs : List Int) (iter : Expr) (P : List PyData → List Int → Prop) : Prop := PI X tg iter (tIG γ i0 ρ gs P)
section
variable {X : Cx} {γ : Option Addr} {i0 : Nat} {ρ : List Ent} {gs : List Int} {e a b c iter tg : Expr} {st : Stmt} {sts A B body : List Stmt} {d : PyData} {ds : List PyData} {P : PyData → List Int → Prop} {nx mid : List Ent → List Int → Prop} {rt : PyData → List Int → Prop} {pos pos' : Pos} {x : Str}
theorem gss_nil (h : nx ρ gs) : GSs X γ i0 ρ gs [] nx rt := pss_weak pss_nil fun D σ H ⟨H0, R0, R, s, k, _⟩ => k σ H R ρ gs h s
theorem gss_seq (h : GS X γ i0 ρ gs st (fun ρ' gs' => GSs X γ i0 ρ' gs' sts nx rt) rt) : GSs X γ i0 ρ gs (st :: sts) nx rt :=
  pss_weak (pss_cons h pss_anyG) fun D σ H ⟨H0, R0, R, s, k, r⟩ => ⟨H0, R0, R, s, fun σ' H' R' ρ' gs' m s' => ⟨γ, i0, ρ', gs', nx, rt, m, H0, R0, R', s', k, r⟩, r⟩
theorem gss_cons (h : GS X γ i0 ρ gs st mid rt) (h2 : ∀ ρ' gs', mid ρ' gs' → GSs X γ i0 ρ' gs' sts nx rt) : GSs X γ i0 ρ gs (st :: sts) nx rt := gss_seq (ps_weak h fun D σ H ⟨H0, R0, R, s, k, r⟩ => ⟨H0, R0, R, s, fun σ' H' R' ρ' gs' m s' => k σ' H' R' ρ' gs' (h2 ρ' gs' m) s', r⟩)
theorem gss_one (h : GS X γ i0 ρ gs st nx rt) : GSs X γ i0 ρ gs [st] nx rt := pss_one h
theorem gs_set (i : Nat) (h : GE X γ i0 ρ gs e P) (k : ∀ d gs', P d gs' → nx (ρ.set i (.val d)) gs') (hN : X.N.Nodup) (h0 : i ≠ i0 := by decide) (hi : X.N[i]? = some x := by rfl) (hx : Loc X.env.scope x := by first | exact Or.inl rfl | exact Or.inr rfl) (hs : swapsWith e (some (.Name x pos')) pos.line X.env = pure false := by rfl)
    (hf : X.fn x = true ∨ X.env.scope.names.lookup x = some .local := by first | exact .inl rfl | exact .inr rfl | assumption) : GS X γ i0 ρ gs (.Assign [.Name x pos'] e pos) nx rt :=
  ps_weak (ps_set hN hi hx h hs hf) fun D σ H ⟨H0, R0, R, s, kn, _⟩ => ⟨H0, R0, R, s, fun v d gs' H2 R2 p s2 m w => kn _ H2 R2 _ gs' (k d gs' p) (s2.setV h0 w)⟩
/-- a new list of one's own; nothing is drawn -/
theorem gs_own (i : Nat) (h : EN X (withG ρ i0 gs) e (.list ds)) (k : nx (ρ.set i (.own ds)) gs) (hN : X.N.Nodup) (h0 : i ≠ i0 := by decide) (hi : X.N[i]? = some x := by rfl) (hx : Loc X.env.scope x := by first | exact Or.inl rfl | exact Or.inr rfl) (hs : swapsWith e (some (.Name x pos')) pos.line X.env = pure false := by rfl)
    (hf : X.fn x = true ∨ X.env.scope.names.lookup x = some .local := by first | exact .inl rfl | exact .inr rfl | assumption) : GS X γ i0 ρ gs (.Assign [.Name x pos'] e pos) nx rt :=
  ps_weak (ps_set hN hi hx h hs hf) fun D σ H ⟨H0, R0, R, s, kn, _⟩ => ⟨R, s.st.sl, fun v H2 R2 g w => by
    cases w with
    | sc h _ => exact absurd rfl (h ds)
    | ls q1 q2 q3 q4 => exact kn _ H2 R2 _ gs k (s.setO h0 g q1 q2 q3 q4)⟩
theorem gs_ret (h : GN X γ i0 ρ gs e P) (k : ∀ d gs', P d gs' → rt d gs') : GS X γ i0 ρ gs (.Return (some e) pos) nx rt :=
  ps_weak (ps_ret h) fun D σ H ⟨H0, R0, R, s, _, r⟩ => ⟨H0, R0, R, s, fun v d gs' H2 R2 p s2 m n => r v H2 R2 d gs' (k d gs' p) s2.st.gr (fun g e => ⟨(s2.told e).1, (s2.told e).2, by
    obtain ⟨t1, t2⟩ := s.told e
    cases n with
    | sc h q => exact .inr h
    | ls h h2 h3 q =>
      refine .inl fun z => ?_
      cases z
      rw [h] at t2; cases t2⟩) (n.back s.st.gr.hp)⟩
theorem gs_if {P : Bool → List Int → Prop} (h : GT X γ i0 ρ gs c P) (k : ∀ q gs', P q gs' → (q = true → GSs X γ i0 ρ gs' A nx rt) ∧ (q = false → GSs X γ i0 ρ gs' B nx rt)) : GS X γ i0 ρ gs (.If c A B pos) nx rt :=
  ps_weak (ps_if h pss_anyG pss_anyG) fun D σ H ⟨H0, R0, R, s, kn, r⟩ => ⟨H0, R0, R, s, fun q gs' H2 R2 p s2 m => by
    obtain ⟨k1, k2⟩ := k q gs' p
    cases q with
    | true => exact iteT ⟨γ, i0, ρ, gs', nx, rt, k1 rfl, H0, R0, R2, s2, kn, r⟩
    | false => exact iteF ⟨γ, i0, ρ, gs', nx, rt, k2 rfl, H0, R0, R2, s2, kn, r⟩⟩
theorem gs_tgt (h : GE X γ i0 ρ gs e P) (k : ∀ d gs', P d gs' → ∃ js ρ', AT X tg (withG ρ i0 gs') d js (withG ρ' i0 gs') ∧ i0 < ρ'.length ∧ nx ρ' gs') (hs : swapsWithSole [tg] e pos.line X.env = pure false := by rfl) (hw : swappedStores [tg] e X.env = pure none := by rfl)
    (h1 : (assignEach [tg] X.env).map (·.2) = [assign tg X.env] := by rfl) : GS X γ i0 ρ gs (.Assign [tg] e pos) nx rt :=
  ps_weak (ps_asg h pg_any hs hw h1) fun D σ H ⟨H0, R0, R, s, kn, _⟩ => ⟨H0, R0, R, s, fun v d gs' H2 R2 p s2 m w => by
    obtain ⟨js, ρ', ha, hl, hn⟩ := k d gs' p
    exact ⟨_, d, js, _, ha, R2, s2.st.sl, w, fun σ' _ _ s' o => kn σ' H2 R2 ρ' gs' hn (s2.tgt s' o hl)⟩⟩
theorem gs_parOV {px py pt pt2 : Pos} {y : Str} {kt k2 : Nat} (i j : Nat) (h1 : EN X (withG ρ i0 gs) a (.list ds)) (h2 : EC X (withG ρ i0 gs) b d) (k : nx ((ρ.set i (.own ds)).set j (.val d)) gs) (hN : X.N.Nodup) (hi0 : i ≠ i0 := by decide) (hj0 : j ≠ i0 := by decide) (hij : i ≠ j := by decide) (hc : X.calm = true := by rfl) (hi : X.N[i]? = some x := by rfl) (hj : X.N[j]? = some y := by rfl)
    (hx : X.env.scope.names.lookup x = some .local := by rfl) (hy : X.env.scope.names.lookup y = some .local := by rfl) (hw : swappedStores [.Tuple [.Name x px, .Name y py] kt pt] (.Tuple [a, b] k2 pt2) X.env = pure (some [x, y]) := by rfl)
    (hs : swapsWithSole [.Tuple [.Name x px, .Name y py] kt pt] (.Tuple [a, b] k2 pt2) pos.line X.env = pure false := by rfl) (s1 : starEach [a, b] X.env = (false, eval a X.env) :: starEach [b] X.env := by rfl) (s2 : starEach [b] X.env = (false, eval b X.env) :: starEach [] X.env := by rfl) :
    GS X γ i0 ρ gs (.Assign [.Tuple [.Name x px, .Name y py] kt pt] (.Tuple [a, b] k2 pt2) pos) nx rt :=
  ps_weak (ps_par hc hN hi hj hij hx hy (pa_cons h1 (pa_cons h2 pa_nil s2) s1) hw hs) fun D σ H ⟨H0, R0, R, s, kn, _⟩ => ⟨R, s.st.sl, fun v H1 R1 g1 w1 => ⟨R1, (s.grow g1).st.sl, fun u H2 R2 g2 w2 => by
    cases w1 with
    | sc h _ => exact absurd rfl (h ds)
    | ls q1 q2 q3 q4 => exact ⟨_, u, rfl, kn _ _ R2 _ gs k ((s.setO hi0 (g1.trans g2) q1 (g2.new _ (by rw [q3]; exact nofun) q2) (g2.hp _ _ q3) (q4.up g2.reg)).setV hj0 w2)⟩⟩⟩
theorem gs_app (i : Nat) {apos npos : Pos} (h : GE X γ i0 ρ gs e P) (k : ∀ d gs', P d gs' → nx (ρ.set i (.own (ds ++ [d]))) gs') (hz : ds.length < 100000) (hi : ρ[i]? = some (.own ds) := by rfl) (h0 : i ≠ i0 := by decide) (hN : X.N[i]? = some x := by rfl) (hv : Vis X.env.scope x := by first | exact Or.inl rfl | exact Or.inr (Or.inl rfl) | exact Or.inr (Or.inr rfl))
    (h1 : (x == ("__debug__" : Str)) = false := by decide) (h2 : (x == ("__classdict__" : Str)) = false := by decide)
    (hw : swapsWith (.Call (.Attribute (.Name x npos) "append" apos) [e] [] pos') none pos.line X.env = pure false := by rfl)
    (hbase : attributeBase (.Name x npos) "append" X.env (eval (.Name x npos) X.env) = eval (.Name x npos) X.env := by rfl)
    (hfew : ((backTo pos' (starEach [e] X.env)).all (fun x => !x.1) && (backToKw pos' (keywordEach [] X.env)).all (fun x => x.1.isSome) && decide (([e] : List Expr).length + ([] : List Keyword).length + (if ([] : List Keyword).isEmpty then 0 else 1) < 30)) = true := by rfl)
    (hline : (apos.endLine == pos'.line) = true := by rfl) (hs : starEach [e] X.env = (false, eval e X.env) :: starEach [] X.env := by rfl) (hpl : (backTo pos' (starEach [] X.env)).any (·.1) = false := by rfl) :
    GS X γ i0 ρ gs (.Expr (.Call (.Attribute (.Name x npos) "append" apos) [e] [] pos') pos) nx rt :=
  ps_weak (ps_expr (pe_bm PySem.F.plainAttrs_list PySem.F.slot_list_append PySem.F.type_list_append mt_append (pe_var hN hv h1 h2) (pa_cons h pa_nil hs) hbase hfew hline hs hpl) hw) fun D σ H ⟨H0, R0, R, s, kn, _⟩ => by
    obtain ⟨p, xs, e1, e2, e3, q⟩ := s.own h0 hi
    refine ⟨_, e1, .inl ⟨rfl, xs, SqL.of e3⟩, H0, R0, R, s, fun v d gs' H2 R2 pp s2 m w => ?_⟩
    obtain ⟨p', ys, e1', _, f3, q'⟩ := s2.own h0 hi
    rw [e1] at e1'
    cases e1'
    exact ⟨p, ys, v, rfl, rfl, f3, by rw [q'.len]; exact Nat.lt_trans hz (by decide), kn _ _ R2 _ gs' (k d gs' pp) (s2.mut h0 hi e1 (q'.app (.cons w .nil)))⟩
/-- g[j] = e, an int -/
theorem gs_setG {bx : Expr} {spos npos : Pos} {j : Nat} {z : Int} (h : EC X (withG ρ i0 gs) e (.int z)) (hb : EA X (withG ρ i0 gs) bx (.int (j : Int))) (hj : j < gs.length) (k : nx ρ (gs.set j z)) (hN : X.N[i0]? = some x := by rfl)
    (hv : Vis X.env.scope x := by first | exact Or.inl rfl | exact Or.inr (Or.inl rfl) | exact Or.inr (Or.inr rfl)) (h1 : (x == ("__debug__" : Str)) = false := by decide) (h2 : (x == ("__classdict__" : Str)) = false := by decide)
    (ha : ∀ v, assign (.Subscript (.Name x npos) bx spos) X.env v = (do
      let ov ← holding [v] (eval (.Name x npos) X.env)
      let iv ← holding [v, ov] (eval bx X.env)
      standAt spos
      holding [v, ov, iv] (setItem ov iv v)
      release [v, ov, iv] []) := by intro _; rfl)
    (hs : swapsWithSole [.Subscript (.Name x npos) bx spos] e pos.line X.env = pure false := by rfl) (hw : swappedStores [.Subscript (.Name x npos) bx spos] e X.env = pure none := by rfl)
    (h3 : (assignEach [.Subscript (.Name x npos) bx spos] X.env).map (·.2) = [assign (.Subscript (.Name x npos) bx spos) X.env] := by rfl) : GS X γ i0 ρ gs (.Assign [.Subscript (.Name x npos) bx spos] e pos) nx rt :=
  ps_weak (ps_asg h (pg_sub (pe_var hN hv h1 h2) hb set_list ha) hs hw h3) fun D σ H ⟨H0, R0, R, s, kn, _⟩ => ⟨R, s.st.sl, fun v H1 R1 g1 w => by
    have s1 := s.grow g1
    obtain ⟨p, e1, e2, e3, _⟩ := s1.list
    refine ⟨_, e1, R1, s1.st.sl, fun u H2 R2 g2 wu => ?_⟩
    cases wu
    cases w
    refine ⟨p, gs.map V.int, _, j, rfl, rfl, g2.hp _ _ e3, Evl.ixN_nat (by rw [List.length_map]; exact hj), ?_⟩
    have s2 := (s1.grow g2).mutG (gs' := gs.set j z) e1
    rw [List.map_set] at s2
    exact kn _ _ R2 ρ _ k s2⟩
theorem gss_freeze (i : Nat) (h : GSs X γ i0 (ρ.set i (.val (.list ds))) gs sts nx rt) (hi : ρ[i]? = some (.own ds) := by rfl) (h0 : i ≠ i0 := by decide) : GSs X γ i0 ρ gs sts nx rt :=
  pss_weak h fun D σ H ⟨H0, R0, R, s, k, r⟩ => by
    obtain ⟨R', s'⟩ := s.freeze h0 hi
    exact ⟨H0, R0, R', s', k, r⟩
/-! what is walked -/
theorem eig_pure {P : List PyData → List Int → Prop} (h : EI X tg (withG ρ i0 gs) iter ds) (k : P ds gs) : EIG X tg γ i0 ρ gs iter P := pi_weak h fun σ H Rr ⟨H0, R0, R, s, q⟩ => ⟨R, s.st.sl, fun J H2 R2 g W => q ds gs J H2 R2 k (s.grow g) g.m W⟩
theorem eig_range {p : Pos} {P : List PyData → List Int → Prop} (h : GE X γ i0 ρ gs a fun d gs' => ∃ n : Int, d = .int n ∧ 0 ≤ n ∧ n ≤ 1000000 ∧ P ((rgI 0 n).map PyData.int) gs') (hm : X.mg "range" = none) (hg : Gl X "range" := by rfl) (s1 : starEach [a] X.env = [(false, eval a X.env)] := by rfl) (s2 : starEach [a] X.env = (false, eval a X.env) :: starEach [] X.env := by rfl) :
    EIG X tg γ i0 ρ gs (.Call (.Name "range" p) [a] [] pos) P := pi_weak (pi_range1 hg hm (pa_cons h pa_nil s2) s1) fun σ H Rr ⟨H0, R0, R, s, q⟩ => ⟨H0, R0, R, s, fun v d gs' H2 R2 ⟨n, e, n0, n1, p⟩ s2 m w => by
  subst e
  cases w
  refine ⟨n, rfl, by omega, by omega, q _ gs' _ H2 R2 p s2 m ?_⟩
  rw [List.length_map, rgI_len, show (n - 0).toNat = n.toNat by rw [Int.sub_zero]]
  refine walk_range.mono (fun H' s' => trivial) fun i H' x H'' hi s' y => ?_
  obtain ⟨rfl, rfl⟩ := y
  exact ⟨.int (0 + (i : Int)), by rw [List.getElem?_map, rgI_at (by rw [Int.sub_zero]; exact hi)]; rfl, YD.same (.int _)⟩⟩
theorem gs_for {P : List PyData → List Int → Prop} (hi : EIG X tg γ i0 ρ gs iter P) (hb : ∀ ds gs', P ds gs' → ∃ Iv : Nat → List Ent → List Int → Prop, Iv 0 ρ gs' ∧
      (∀ (i : Nat) d ρ' gs1, ds[i]? = some d → Iv i ρ' gs1 → ∃ js ρ'', AT X tg (withG ρ' i0 gs1) d js (withG ρ'' i0 gs1) ∧ i0 < ρ''.length ∧ GSs X γ i0 ρ'' gs1 body (Iv (i + 1)) rt) ∧ ∀ ρ' gs1, Iv ds.length ρ' gs1 → nx ρ' gs1)
    (hp : PassesOwn (model X.prog X.w) X.A X.env X.xe := by exact PassesOwn.never) (hc : X.calm = true := by rfl) (hs : ∀ x, foldedSetIterable iter X.env x = pure x := by intro _; rfl) : GS X γ i0 ρ gs (.For tg iter body [] pos) nx rt := by
  refine ps_weak (ps_for hp hc hi pg_any pss_anyG hs) fun D σ H ⟨H0, R0, R, s, kn, r⟩ => ⟨H0, R0, R, s, fun ds gs' J H2 R2 p s2 m W => ?_⟩
  obtain ⟨Iv, h0, hb, hd⟩ := hb ds gs' p
  refine for_it W (g := gAny X tg) (tb := sAnyG X body) (D := D) (σ := σ) (H := H2) (fun i σ' H' => ∃ R' ρ' gs1, Iv i ρ' gs1 ∧ StG H0 R0 γ i0 σ' H' R' ρ' gs1 ∧ Same R2 R') ⟨R2, ρ, gs', h0, s2, Same.refl _⟩ (fun i σ' H' _ ⟨R', ρ', gs1, _, s', e⟩ => e.trans s'.st.sl.sub) ?_ fun σ' H' ⟨R', ρ', gs1, iv, s', _⟩ => kn σ' H' R' ρ' gs1 (hd ρ' gs1 iv) s'
  rintro i x σ' H' H'' hlt ⟨R', ρ', gs1, iv, s', e⟩ ⟨d, hd', y⟩
  obtain ⟨R3, g3, q3⟩ := y R' e s'.st.sl.sub
  obtain ⟨js, ρ'', ha, hl, hbody⟩ := hb i d ρ' gs1 hd' iv
  have s3 := s'.grow g3
  refine ⟨_, d, js, _, ha, R3, s3.st.sl, q3, fun σ4 _ _ s4 o4 => ⟨γ, i0, ρ'', gs1, _, _, hbody, ?_⟩⟩
  have s5 := s3.tgt s4 o4 hl
  exact ⟨uni H0 R3, R3, R3, s5.here, fun σ6 H6 R6 ρ6 gs6 iv6 s6 => ⟨R6, ρ6, gs6, iv6, s5.back s6, (e.trans g3.reg).trans s6.st.gr.reg⟩, fun v H6 R6 d6 gs6 k6 g6 t6 n6 => r v H6 R6 d6 gs6 k6 (s5.st.gr.there g6) t6 (n6.back uni_l)⟩
end

/-! ### comprehensions that draw -/
section
variable {X : Cx} {γ : Option Addr} {i0 : Nat} {ρ : List Ent} {gs : List Int} {iter tg elt : Expr} {ifs : List Expr} {scope : Scope} {own : List (Str × Nat)} {pos : Pos} {ds : List PyData} {P : PyData → List Int → Prop}
abbrev GTs (X : Cx) (γ : Option Addr) (i0 : Nat) (ρ : List Ent) (gs : List Int) (es : List Expr) (P : Bool → List Int → Prop) : Prop := PTs X es (tGT γ i0 ρ gs P)
theorem gts_nil {P : Bool → List Int → Prop} (k : P true gs) : GTs X γ i0 ρ gs [] P := ⟨fun pins s σ H Q I ⟨H0, R0, R, st, q⟩ => pts_nil.run pins s σ H Q I (q true gs H R k st (Gr.refl st.st.sl.sub).m)⟩
theorem gts_one {e : Expr} {P : Bool → List Int → Prop} (h : GT X γ i0 ρ gs e P) : GTs X γ i0 ρ gs [e] P := pts_one h
def tAnyBG (X : Cx) (scope : Scope) (ifs : List Expr) : TT := fun σ H Q => ∃ γ i0 ρ gs P, (∀ s H C cl fp, GTs (Bk X scope s H C cl fp) γ i0 ρ gs ifs P) ∧ tGT γ i0 ρ gs P σ H Q
def eAnyBG (X : Cx) (scope : Scope) (elt : Expr) : TE := fun σ H Q => ∃ γ i0 ρ gs P, (∀ s H C cl fp, GE (Bk X scope s H C cl fp) γ i0 ρ gs elt P) ∧ tG γ i0 ρ gs P σ H Q
theorem pts_anyBG (s : Shared) (H : Hp) (C : Addr) (cl : List (Str × Addr)) (fp : List Addr) : PTs (Bk X scope s H C cl fp) ifs (tAnyBG X scope ifs) := ⟨fun pins s σ H Q I ⟨γ, i0, ρ, gs, P, a, q⟩ => (a _ _ _ _ _).run pins s σ H Q I q⟩
theorem pe_anyBG (s : Shared) (H : Hp) (C : Addr) (cl : List (Str × Addr)) (fp : List Addr) : PE (Bk X scope s H C cl fp) elt (eAnyBG X scope elt) := ⟨fun pins s σ H Q I ⟨γ, i0, ρ, gs, P, a, q⟩ => (a _ _ _ _ _).run pins s σ H Q I q⟩
theorem wipeE_with : ∀ {vs : List Nat}, i0 ∉ vs → wipeE (withG ρ i0 gs) vs = withG (wipeE ρ vs) i0 gs
  | [], _ => rfl
  | v :: vs, h => by
    show (wipeE (withG ρ i0 gs) vs).set v .un = withG ((wipeE ρ vs).set v .un) i0 gs
    rw [wipeE_with fun z => h (List.mem_cons_of_mem _ z)]
    exact withG_set fun z => h (by rw [z]; exact List.mem_cons_self)
theorem wipeE_len : ∀ {vs : List Nat}, (wipeE ρ vs).length = ρ.length
  | [] => rfl
  | v :: vs => by
    show ((wipeE ρ vs).set v .un).length = _
    rw [List.length_set, wipeE_len]
/-- the state, the slots of the block gone -/
theorem StG.wiped {H0 R0 H R : Hp} {σ : L2.St} (s : StG H0 R0 γ i0 σ H R ρ gs) {vs : List Nat} (h : i0 ∉ vs) : StG H0 R0 γ i0 (wipe σ vs) H R (wipeE ρ vs) gs := by
  have w := s.st.sl.wipe vs
  have off : ∀ {j : Nat} {es : List PyData}, (wipeE (withG ρ i0 gs) vs)[j]? = some (.own es) → j ∉ vs ∧ (withG ρ i0 gs)[j]? = some (.own es) := by
    intro j es
    clear w h
    induction vs with
    | nil => intro e; exact ⟨List.not_mem_nil, e⟩
    | cons v vs ih =>
      intro e
      have e' : ((wipeE (withG ρ i0 gs) vs).set v .un)[j]? = some (.own es) := e
      have hv : j ≠ v := fun z => by
        subst z
        have hj : j < (wipeE (withG ρ i0 gs) vs).length := by have := (List.getElem?_eq_some_iff.mp e').1; rw [List.length_set] at this; exact this
        rw [List.getElem?_set_self hj] at e'
        cases e'
      rw [List.getElem?_set_ne (Ne.symm hv)] at e'
      obtain ⟨a1, a2⟩ := ih e'
      exact ⟨fun z => by rcases List.mem_cons.mp z with z | z; exact hv z; exact a1 z, a2⟩
  rw [wipeE_with h] at w
  refine ⟨⟨w, s.st.gr, fun j es p e1 e2 => ?_⟩, by rw [wipeE_len]; exact s.lt, fun g e => by rw [wipe_get, if_neg h]; exact s.at_ g e⟩
  rw [← wipeE_with h] at e1
  obtain ⟨a1, a2⟩ := off e1
  rw [wipe_get, if_neg a1] at e2
  exact s.st.fr j es p a2 e2
/-- after the block, back to the slots ahead of it -/
theorem StG.unwipe {H0 R0 H R H2 R2 : Hp} {σ : L2.St} {vs : List Nat} {gs' : List Int} (s : StG H0 R0 γ i0 σ H R ρ gs) (h : i0 ∉ vs) (hv : ∀ j ∈ vs, ∀ es, ρ[j]? ≠ some (.own es)) (up : Same R R2) (w : StG H0 R0 γ i0 (wipe σ vs) H2 R2 (wipeE ρ vs) gs') : StG H0 R0 γ i0 σ H2 R2 ρ gs' := by
  have keepE : ∀ {us : List Nat} {j : Nat}, j ∉ us → (wipeE ρ us)[j]? = ρ[j]? := by
    intro us j
    induction us with
    | nil => intro _; rfl
    | cons u us ih =>
      intro hj
      show ((wipeE ρ us).set u .un)[j]? = _
      rw [List.getElem?_set_ne (fun z => hj (by rw [z]; exact List.mem_cons_self)), ih fun z => hj (List.mem_cons_of_mem _ z)]
  have own : ∀ {j : Nat} {es : List PyData}, (withG ρ i0 gs')[j]? = some (.own es) → (withG (wipeE ρ vs) i0 gs')[j]? = some (.own es) ∧ (wipe σ vs)[j]? = σ[j]? := by
    intro j es e
    by_cases hj : j = i0
    · subst hj
      rw [withG_at s.lt] at e
      cases e
      exact ⟨withG_at (by rw [wipeE_len]; exact s.lt), by rw [wipe_get, if_neg h]⟩
    · rw [withG_get hj] at e ⊢
      have hjv : j ∉ vs := fun z => hv j z es e
      exact ⟨by rw [keepE hjv]; exact e, by rw [wipe_get, if_neg hjv]⟩
  refine ⟨⟨⟨w.st.sl.sub, ?_, fun j d e => ?_, fun j es e => ?_, fun j l es fs u k1 k2 k3 k4 => ?_⟩, w.st.gr, fun j es p e1 e2 => ?_⟩, s.lt, s.at_⟩
  · have := s.st.sl.len
    rw [List.length_set] at this ⊢
    exact this
  · have hj : j ≠ i0 := fun z => by
      subst z
      rw [withG_at s.lt] at e; cases e
    rw [withG_get hj] at e
    obtain ⟨v, k1, k2⟩ := s.st.sl.val j d (by rw [withG_get hj]; exact e)
    exact ⟨v, k1, k2.up up⟩
  · obtain ⟨a1, a2⟩ := own e
    obtain ⟨p, xs, k1, k2⟩ := w.st.sl.own j es a1
    exact ⟨p, xs, a2 ▸ k1, k2⟩
  · obtain ⟨a1, a2⟩ := own k1
    obtain ⟨b1, b2⟩ := own k2
    exact w.st.sl.sep j l _ _ u a1 b1 (a2.trans k3) (b2.trans k4)
  · obtain ⟨a1, a2⟩ := own e1
    exact w.st.fr j es p a1 (a2.trans e2)
/-- a turn's end: beside the new list at D -/
theorem StG.off {H0 R0 Hb R3 H6 H7 R6 : Hp} {σw : L2.St} {o : HO} {D : Addr} (gr : Gr H0 R0 Hb R3) (hD : H0 D = none) (w : StG (upd (uni H0 R3) D o) R3 γ i0 σw H6 R6 ρ gs) (h7 : ∀ b, b ≠ D → H7 b = H6 b) (r6 : R6 D = none) : StG H0 R0 γ i0 σw H7 R6 ρ gs := by
  have nD : ∀ {j : Nat} {es : List PyData} {p : Addr}, (withG ρ i0 gs)[j]? = some (.own es) → σw[j]? = some (some (.ref p)) → p ≠ D := fun {j es p} e1 e2 z => by
    subst z
    have := w.st.fr j es p e1 e2
    rw [upd_same] at this
    cases this
  have sub : Same R6 H7 := fun b u e => by
    rw [h7 b (ne_of_none e r6)]
    exact w.st.sl.sub b u e
  have at0 : ∀ {b : Addr} {u : HO}, H0 b = some u → b ≠ D ∧ upd (uni H0 R3) D o b = some u := fun {b u} e => by
    have hb : b ≠ D := fun z => by rw [z, hD] at e; cases e
    exact ⟨hb, by rw [upd_ne hb]; exact uni_l b u e⟩
  refine ⟨⟨⟨sub, w.st.sl.len, w.st.sl.val, fun j es e => ?_, w.st.sl.sep⟩, ⟨gr.reg.trans w.st.gr.reg, fun b u e => ?_, sub, fun b h1 h2 => ?_⟩, fun j es p e1 e2 => ?_⟩, w.lt, w.at_⟩
  · obtain ⟨p, xs, k1, k2, k3, k4⟩ := w.st.sl.own j es e
    exact ⟨p, xs, k1, k2, by rw [h7 p (nD e k1)]; exact k3, k4⟩
  · obtain ⟨hb, q⟩ := at0 e
    rw [h7 b hb]
    exact w.st.gr.hp b u q
  · have h3 := gr.new b h1 h2
    cases q : H0 b with
    | none => exact absurd q h1
    | some u => exact w.st.gr.new b (by rw [(at0 q).2]; exact nofun) h3
  · have := w.st.fr j es p e1 e2
    rw [upd_ne (nD e1 e2)] at this
    exact (uni_free this).1
def nown : Ent → Bool
  | .own _ => false
  | _ => true
def noOwn (ρ : List Ent) (vs : List Nat) : Bool := vs.all fun j => match ρ[j]? with
  | some e => nown e
  | none => true
theorem noOwn_ne {ρ : List Ent} {vs : List Nat} (h : noOwn ρ vs = true) : ∀ j ∈ vs, ∀ es, ρ[j]? ≠ some (.own es) := fun j hj es e => by
  have := List.all_eq_true.mp h j hj
  rw [e] at this
  cases this
/-- one turn from the state acc, gs: J what is to hold ahead of the next -/
def TurnG (X : Cx) (scope : Scope) (γ : Option Addr) (i0 : Nat) (ρ : List Ent) (gs : List Int) (tg : Expr) (ifs : List Expr) (elt : Expr) (vs : List Nat) (d : PyData) (acc : List PyData) (J : List PyData → List Int → Prop) : Prop :=
  ∃ js ρ'', (∀ s H C cl fp, AT (Bk X scope s H C cl fp) tg (withG (wipeE ρ vs) i0 gs) d js (withG ρ'' i0 gs)) ∧ (∀ j ∈ js, j ∈ vs) ∧ i0 < ρ''.length ∧ wipeE ρ'' vs = wipeE ρ vs ∧
    ∀ s H C cl fp, GTs (Bk X scope s H C cl fp) γ i0 ρ'' gs ifs fun b gs2 => (b = true → ∀ s H C cl fp, GE (Bk X scope s H C cl fp) γ i0 ρ'' gs2 elt fun fd gs3 => J (acc ++ [fd]) gs3) ∧ (b = false → J acc gs2)
theorem gn_lc (hi : EI X tg (withG ρ i0 gs) iter ds) (J : Nat → List PyData → List Int → Prop) (h0 : J 0 [] gs)
    (turn : ∀ (i : Nat) d acc gs1, ds[i]? = some d → acc.length ≤ i → J i acc gs1 → TurnG X scope γ i0 ρ gs1 tg ifs elt (own.map (·.2)) d acc (J (i + 1)))
    (hd : ∀ acc gs', J ds.length acc gs' → P (.list acc) gs') (ok : BlkOk X.N X.env.scope scope own) (hN : X.N.Nodup) (hz : ds.length ≤ 100000) (hi0 : i0 ∉ own.map (·.2) := by decide) (hv : noOwn ρ (own.map (·.2)) = true := by rfl)
    (hc : X.calm = true := by rfl) (hs : ∀ x, foldedSetIterable iter X.env x = pure x := by intro _; rfl) : GN X γ i0 ρ gs (.ListComp elt [⟨tg, iter, ifs, 0⟩] scope pos) P := by
  refine pe_weak (pe_lc hc hN hi ok pg_anyB pts_anyBG pe_anyBG hs) fun σ H Q ⟨H0, R0, R, s, k⟩ => ⟨R, s.st.sl, fun T H1 R1 g1 W => ?_⟩
  intro D hD
  have s1 := s.grow g1
  have sw := s1.wiped hi0
  have fD : R1 D = none := g1.sub.free hD
  have h0D : H0 D = none := s1.st.gr.hp.free hD
  have ownD : ∀ {gs1 : List Int} {j : Nat} {es : List PyData} {p : Addr}, (withG (wipeE ρ (own.map (·.2))) i0 gs1)[j]? = some (.own es) → (wipe σ (own.map (·.2)))[j]? = some (some (.ref p)) → p ≠ D := by
    intro gs1 j es p e1 e2 z
    subst z
    by_cases hj : j = i0
    · subst hj
      obtain ⟨p', k1, _, k3, _⟩ := sw.list
      rw [e2] at k1
      cases k1
      rw [hD] at k3; cases k3
    · rw [withG_get hj] at e1
      obtain ⟨p', xs, k1, _, k3, _⟩ := sw.own hj e1
      rw [e2] at k1
      cases k1
      rw [hD] at k3; cases k3
  have st0 : StG H0 R0 γ i0 (wipe σ (own.map (·.2))) (upd H1 D (.lst [])) R1 (wipeE ρ (own.map (·.2))) gs := sw.grow (Gr.beside g1.sub hD)
  refine lc_it W (g := gAnyB X scope tg) (tt := tAnyBG X scope ifs) (te := eAnyBG X scope elt) (vs := own.map (·.2)) (σ := σ) (H1 := H1) (D := D) (Qd := fun H' => Q (.ref D) H')
    (fun i H' => ∃ R' acc accd gs1, J i accd gs1 ∧ accd.length ≤ i ∧ StG H0 R0 γ i0 (wipe σ (own.map (·.2))) H' R' (wipeE ρ (own.map (·.2))) gs1 ∧ Same R1 R' ∧ R' D = none ∧ H' D = some (.lst acc) ∧ DqAll R' acc accd ∧ (∀ b, H1 b ≠ none → H' b ≠ none) ∧ (∀ b, H1 b ≠ none → R1 b = none → R' b = none))
    ⟨R1, [], [], gs, h0, Nat.le_refl _, st0, Same.refl _, fD, upd_same, .nil, fun b h => Same.there (same_new hD) h, fun _ _ h => h⟩ (fun i H' _ ⟨R', acc, accd, gs1, _, _, s', e, _⟩ => e.trans s'.st.sl.sub) ?_ fun H' ⟨R', acc, accd, gs1, j, _, s', e, n', h', q', dm, nw⟩ => ?_
  · rintro i x H' H'' hlt ⟨R', acc, accd, gs1, j, hl, s', e, n', h', q', dm, nw⟩ ⟨d, hd', y⟩
    obtain ⟨R3, g3, q3⟩ := y R' e s'.st.sl.sub
    obtain ⟨js, ρ'', ta, tj, lt'', hw, tt⟩ := turn i d accd gs1 hd' hl j
    have s3 := s'.grow g3
    have n3 : R3 D = none := g3.new D (by rw [h']; exact nofun) n'
    have h3 : H'' D = some (.lst acc) := g3.hp _ _ h'
    refine ⟨_, d, js, _, ta, R3, s3.st.sl, q3, fun σ4 l4 e4 s4 o4 => ?_⟩
    have ew := wipe_eq (vs := own.map (·.2)) l4 fun j hj => e4 j fun z => hj (tj j z)
    rw [wipe_wipe] at ew
    have s5 : StG (upd (uni H0 R3) D (.lst acc)) R3 γ i0 σ4 H'' R3 ρ'' gs1 := by
      have t4 := s3.tgt s4 o4 lt''
      refine ⟨⟨t4.st.sl, ⟨Same.refl _, fun b o q => ?_, t4.st.sl.sub, fun _ _ h => h⟩, fun j es p e1 e2 => ?_⟩, t4.lt, t4.at_⟩
      · by_cases hb : b = D
        · subst hb; rw [upd_same] at q; rw [h3]; exact q
        · rw [upd_ne hb] at q; exact uni_of t4.st.gr.hp t4.st.sl.sub b o q
      · obtain ⟨a1, a2⟩ := o4 j es e1
        rw [upd_ne (ownD a1 (a2 ▸ e2))]
        exact t4.here.st.fr j es p e1 e2
    refine ⟨ew, γ, i0, ρ'', gs1, _, tt, _, R3, R3, s5, fun b gs2 H5 R5 ⟨pt, pf⟩ st5 m5 => ?_⟩
    cases b with
    | true =>
      refine iteT ⟨γ, i0, ρ'', gs2, _, pt rfl, _, R3, R5, st5, fun v fd gs3 H6 R6 p6 st6 m6 w6 => ?_⟩
      have h6 : H6 D = some (.lst acc) := st6.st.gr.hp D _ upd_same
      have n6 : R6 D = none := st6.st.gr.new D (by rw [upd_same]; exact nofun) n3
      have sw6 := st6.wiped hi0
      rw [ew, hw] at sw6
      have m36 := m5.trans m6
      refine ⟨acc, h6, by rw [q'.len]; exact Nat.lt_of_le_of_lt (Nat.le_trans hl (Nat.le_trans (Nat.le_of_lt hlt) hz)) (by decide), R6, acc ++ [v], accd ++ [fd], gs3, p6, by rw [List.length_append]; exact Nat.succ_le_succ hl, StG.off s3.st.gr h0D sw6 (fun b hb => upd_ne hb) n6, (e.trans g3.reg).trans m36.reg, n6, upd_same, ((q'.up g3.reg).up m36.reg).app (.cons w6 .nil), fun b hb => ?_, fun b h1 h2 => ?_⟩
      · by_cases hbD : b = D
        · subst hbD; rw [upd_same]; exact nofun
        · rw [upd_ne hbD]; exact m36.dom b (Same.there g3.hp (dm b hb))
      · exact m36.new b (Same.there g3.hp (dm b h1)) (g3.new b (dm b h1) (nw b h1 h2))
    | false =>
      have h5 : H5 D = some (.lst acc) := st5.st.gr.hp D _ upd_same
      have n5 : R5 D = none := st5.st.gr.new D (by rw [upd_same]; exact nofun) n3
      have sw5 := st5.wiped hi0
      rw [ew, hw] at sw5
      exact iteF ⟨R5, acc, accd, gs2, pf rfl, Nat.le_succ_of_le hl, StG.off s3.st.gr h0D sw5 (fun _ _ => rfl) n5, (e.trans g3.reg).trans m5.reg, n5, h5, (q'.up g3.reg).up m5.reg, fun b hb => m5.dom b (Same.there g3.hp (dm b hb)), fun b h1 h2 => m5.new b (Same.there g3.hp (dm b h1)) (g3.new b (dm b h1) (nw b h1 h2))⟩
  · refine k (.ref D) (.list accd) gs1 H' R' (hd accd gs1 j) (s1.unwipe hi0 (noOwn_ne hv) e s') ⟨g1.reg.trans e, fun b hb => dm b (Same.there g1.hp hb), s'.st.sl.sub, fun b h1 h2 => nw b (Same.there g1.hp h1) (g1.new b h1 h2)⟩ (.ls (g1.hp.free hD) n' h' q')
end

/-! ### a def that draws -/
section
variable {P : Program} {w : World} {K : PySem.W.Frag} {mg : Str → Option Value} {base : Heap}
/-- a heap without what is at g -/
def less (H : Hp) (g : Addr) : Hp := fun b => if b = g then none else H b
theorem less_at {H : Hp} {g b : Addr} {o : HO} (h : less H g b = some o) : b ≠ g ∧ H b = some o := by
  unfold less at h
  split at h
  · cases h
  · exact ⟨by assumption, h⟩
/-- the slots ahead of the first statement: the list first -/
def entryG (N : List Str) (ds : List PyData) : List Ent := .un :: (ds.map Ent.val ++ List.replicate (N.length - (ds.length + 1)) Ent.un)
/-- the state ahead of the first statement -/
theorem g_start {N : List Str} {Φ : List Int → List PyData → PyData → List Int → Prop} {R H : Hp} {g : Addr} {us : List V} {gs : List Int} {ds : List PyData} {Q : VK} (sm : Same R H) (rg : R g = none) (hg : H g = some (.lst (gs.map V.int))) (q : DqAll R us ds)
    (kk : ∀ v d gs' H2 R2, Φ gs ds d gs' → GrM H R H2 R2 → (∀ b o, b ≠ g → H b = some o → H2 b = some o) → H2 g = some (.lst (gs'.map V.int)) → NewV H H2 R2 v d → Q v H2) :
    tGS (some g) 0 (entryG N ds) gs (fun _ gs' => Φ gs ds .none gs') (fun d' gs' => Φ gs ds d' gs') { nx := fun _ H' => Q .non H', rt := Q } (start N (.ref g :: us)) H := by
  have s0 : Sl (L2.start N (.non :: us)) H R (entry N (.none :: ds)) := sl_entry sm (.cons .non q)
  have sl : Sl (L2.start N (.ref g :: us)) H R (withG (entryG N ds) 0 gs) := s0.setO (i := 0) rg hg (DqAll.of_ints gs) fun j es hj e1 e2 => absurd e1 entry_no_own
  have lt : 0 < (entryG N ds).length := Nat.zero_lt_succ _
  have bk : ∀ {H' R' : Hp}, (Gr (less H g) R H' R') → (R' g = none) → (H' g ≠ none) → GrM H R H' R' ∧ ∀ b o, b ≠ g → H b = some o → H' b = some o := fun {H' R'} gr rn hn =>
    have keep : ∀ b o, b ≠ g → H b = some o → H' b = some o := fun b o hb e => gr.hp b o (by unfold less; rw [if_neg hb]; exact e)
    ⟨⟨gr.reg, fun b hb => by
      by_cases hbg : b = g
      · rw [hbg]; exact hn
      · cases e : H b with
        | none => exact absurd e hb
        | some o => rw [keep b o hbg e]; exact nofun, gr.sub, fun b h1 h2 => by
      by_cases hbg : b = g
      · rw [hbg]; exact rn
      · exact gr.new b (by unfold less; rw [if_neg hbg]; exact h1) h2⟩, keep⟩
  have nv : ∀ {H' R' : Hp} {v : V} {d : PyData}, (R' g = none) → (v ≠ .ref g ∨ ∀ ds, d ≠ .list ds) → NewV (less H g) H' R' v d → NewV H H' R' v d := fun {H' R' v d} rn hv n => by
    cases n with
    | sc h q => exact .sc h q
    | ls h h2 h3 q =>
      refine .ls ?_ h2 h3 q
      unfold less at h
      split at h
      · rename_i z
        rcases hv with hv | hv
        · exact absurd (by rw [z]) hv
        · exact absurd rfl (hv _)
      · exact h
  refine ⟨less H g, R, R, ⟨⟨sl, ⟨Same.refl _, fun b o h => (less_at h).2, sm, fun _ _ h => h⟩, fun i es p e1 e2 => ?_⟩, lt, fun g' e => by cases e; rfl⟩, fun σ' H' R' ρ' gs' φ s' => ?_, fun v H' R' d' gs' φ gr' t' n' => ?_⟩
  · have hi : i = 0 := by
      refine sl.sep i 0 es _ g e1 (withG_at lt) ?_ rfl
      rcases Nat.eq_zero_or_pos i with z | z
      · subst z; rfl
      · exfalso
        obtain ⟨j, rfl⟩ : ∃ j, i = j + 1 := ⟨i - 1, by omega⟩
        exact entry_no_own (N := N) (ds := .none :: ds) (i := j + 1) e1
    subst hi
    cases e2
    unfold less
    rw [if_pos rfl]
  · obtain ⟨t1, t2⟩ := s'.told rfl
    obtain ⟨b1, b2⟩ := bk s'.st.gr t1 (by rw [t2]; exact nofun)
    exact kk .non .none gs' H' R' φ b1 b2 t2 (.sc (fun _ => nofun) .non)
  · obtain ⟨t1, t2, t3⟩ := t' g rfl
    obtain ⟨b1, b2⟩ := bk gr' t1 (by rw [t2]; exact nofun)
    exact kk v d' gs' H' R' φ b1 b2 t2 (nv t1 t3 n')
theorem fn_g {x qual : Str} {st : Stmt} {f : Addr} {fd : FuncData} {N ps : List Str} {k : Nat} {Pre : List Int → List PyData → Prop} {Φ : List Int → List PyData → PyData → List Int → Prop} (F : Fun K x qual st f fd) (S : FnScope N ps (defScope st)) (len : ∀ gs ds, Pre gs ds → ds.length + 1 = ps.length)
    (hbody : ∀ (cdv : Value) (A : Around) (outer : List Env) (s : Shared) (H : Hp) (E : XK) (g : Addr) (gs : List Int) (ds : List PyData), Room k (A.deeper (PyProof.Rows.envOfC qual (defScope st) s.heap.objs.size f cdv)) → Pre gs ds →
      GSs (cxOf CX0 P w K mg base N qual (defScope st) f cdv A outer s H E).nox (some g) 0 (entryG N ds) gs (defBody st) (fun _ gs' => Φ gs ds .none gs') (fun d' gs' => Φ gs ds d' gs')) : FnOk P w K mg base CX0 (k + 1) f fd ps (spG Pre Φ) := by
  refine F.ok S (fun vs H Q E ⟨R, g, us, gs, ds, e, _, _, _, q, pre, _⟩ => by rw [e, List.length_cons, q.len]; exact len gs ds pre) fun cdv A outer s H vs Q E hr ⟨R, g, us, gs, ds, e, sm, rg, hg, q, pre, kk⟩ => ?_
  subst e
  exact ⟨_, hbody cdv A outer s H E g gs ds hr pre, g_start sm rg hg q kk⟩
end
end KR
namespace KR
open PySem L2
section
variable {X : Cx} {γ : Option Addr} {i0 : Nat} {ρ : List Ent} {gs : List Int} {e a b c iter tg : Expr} {es : List Expr} {st : Stmt} {sts A B body : List Stmt} {d : PyData} {ds : List PyData} {P : PyData → List Int → Prop} {nx mid : List Ent → List Int → Prop} {rt : PyData → List Int → Prop} {pos pos' : Pos} {x : Str} {i j : Int}
theorem gs_ifP {q : Bool} (h : ET X (withG ρ i0 gs) c q) (h1 : q = true → GSs X γ i0 ρ gs A nx rt) (h2 : q = false → GSs X γ i0 ρ gs B nx rt) : GS X γ i0 ρ gs (.If c A B pos) nx rt :=
  gs_if (P := fun q' gs' => q' = q ∧ gs' = gs) (gt_pure h ⟨rfl, rfl⟩) fun q' gs' ⟨e1, e2⟩ => by subst e1 e2; exact ⟨h1, h2⟩
theorem gs_setP (i : Nat) (h : EC X (withG ρ i0 gs) e d) (k : nx (ρ.set i (.val d)) gs) (hN : X.N.Nodup) (h0 : i ≠ i0 := by decide) (hi : X.N[i]? = some x := by rfl) (hx : Loc X.env.scope x := by first | exact Or.inl rfl | exact Or.inr rfl) (hs : swapsWith e (some (.Name x pos')) pos.line X.env = pure false := by rfl)
    (hf : X.fn x = true ∨ X.env.scope.names.lookup x = some .local := by first | exact .inl rfl | exact .inr rfl | assumption) : GS X γ i0 ρ gs (.Assign [.Name x pos'] e pos) nx rt :=
  gs_set i (P := fun d' gs' => d' = d ∧ gs' = gs) (ge_pure h ⟨rfl, rfl⟩) (fun d' gs' ⟨e1, e2⟩ => by subst e1 e2; exact k) hN h0 hi hx hs hf
theorem gs_retP (h : EN X (withG ρ i0 gs) e d) (k : rt d gs) : GS X γ i0 ρ gs (.Return (some e) pos) nx rt :=
  gs_ret (P := fun d' gs' => d' = d ∧ gs' = gs) (gn_pure h ⟨rfl, rfl⟩) fun d' gs' ⟨e1, e2⟩ => by subst e1 e2; exact k
theorem gs_forP (hi : EI X tg (withG ρ i0 gs) iter ds) (Iv : Nat → List Ent → List Int → Prop) (h0 : Iv 0 ρ gs)
    (hb : ∀ (i : Nat) d ρ' gs1, ds[i]? = some d → Iv i ρ' gs1 → ∃ js ρ'', AT X tg (withG ρ' i0 gs1) d js (withG ρ'' i0 gs1) ∧ i0 < ρ''.length ∧ GSs X γ i0 ρ'' gs1 body (Iv (i + 1)) rt) (hd : ∀ ρ' gs1, Iv ds.length ρ' gs1 → nx ρ' gs1)
    (hp : PassesOwn (model X.prog X.w) X.A X.env X.xe := by exact PassesOwn.never) (hc : X.calm = true := by rfl) (hs : ∀ x, foldedSetIterable iter X.env x = pure x := by intro _; rfl) : GS X γ i0 ρ gs (.For tg iter body [] pos) nx rt :=
  gs_for (P := fun ds' gs' => ds' = ds ∧ gs' = gs) (eig_pure hi ⟨rfl, rfl⟩) (fun ds' gs' ⟨e1, e2⟩ => by subst e1 e2; exact ⟨Iv, h0, hb, hd⟩) hp hc hs
theorem ges_pure {P : List PyData → List Int → Prop} (h : ECs X (withG ρ i0 gs) es ds) (k : P ds gs) : GEs X γ i0 ρ gs es P := pa_weak h fun σ H Q ⟨H0, R0, R, s, q⟩ => ⟨R, s.st.sl, fun v H2 R2 g w => q v ds gs H2 R2 k (s.grow g) g.m w⟩
variable {k : Nat} {f : Addr} {fd : FuncData} {ps : List Str} {Pre : List Int → List PyData → Prop} {Φ : List Int → List PyData → PyData → List Int → Prop} {y : Str} {py p : Pos}
/-- a call that draws, its other arguments without draws -/
theorem gn_callP (F : FnOk X.prog X.w X.K X.mg X.base CX0 k f fd ps (spG Pre Φ)) (hr : Room k X.A) (hm : X.mg x = some (.ref f)) (hk : PySem.W.keepIn X.K (.ref f) = true) (hb : Binds X.K fd ps []) (ha : ECs X (withG ρ i0 gs) es ds) (pre : Pre gs ds) (post : ∀ d gs2, Φ gs ds d gs2 → P d gs2)
    (hN : X.N[i0]? = some y := by rfl) (hv : Vis X.env.scope y := by first | exact Or.inl rfl | exact Or.inr (Or.inl rfl) | exact Or.inr (Or.inr rfl)) (h1 : (y == ("__debug__" : Str)) = false := by decide) (h2 : (y == ("__classdict__" : Str)) = false := by decide)
    (hg : Gl X x := by rfl) (hdb : (x == ("__debug__" : Str)) = false := by decide) (he : starEach (.Name y py :: es) X.env = (false, eval (.Name y py) X.env) :: starEach es X.env := by rfl) (hpl : (backTo pos (starEach es X.env)).any (·.1) = false := by rfl) :
    GN X γ i0 ρ gs (.Call (.Name x p) (.Name y py :: es) [] pos) P :=
  gn_call F hr hm hk hb (ges_pure ha ⟨pre, post⟩) hN hv h1 h2 hg hdb he hpl
/-- a power whose size is known -/
def CPowX (i j : Int) : Prop := 0 ≤ j ∧ (Builtin.Int.intBits i : Int) * j ≤ 2 ^ 27
theorem op_powX : OpR X (binaryOp .Pow) (rI CPowX fun i j => .int (i ^ j.toNat)) := opI fun _ _ _ _ _ _ _ hc q => PyProof.Rows.pow_int hc.1 hc.2 q
theorem en_powX (ha : EA X ρ a (.int i)) (hb : EA X ρ b (.int j)) (hc : CPowX i j) : EN X ρ (.BinOp a .Pow b pos) (.int (i ^ j.toNat)) := en_bin op_powX (.intsC hc fun _ => .int _) ha hb
theorem gn_add (ha : GE X γ i0 ρ gs a fun x gs1 => GE X γ i0 ρ gs1 b fun y gs2 => ∃ i j, x = .int i ∧ y = .int j ∧ P (.int (i + j)) gs2) : GN X γ i0 ρ gs (.BinOp a .Add b pos) P :=
  gn_bin op_add (pe_weak ha fun σ H Q ⟨H0, R0, R, s, q⟩ => ⟨H0, R0, R, s, fun v d gs' H2 R2 p => q v d gs' H2 R2 (pe_weak p fun σ H Q ⟨H0, R0, R, s, q⟩ => ⟨H0, R0, R, s, fun v2 d2 gs2 H3 R3 ⟨i, j, e1, e2, pp⟩ => q v2 d2 gs2 H3 R3 ⟨_, by subst e1 e2; exact Op2.c (.ints fun _ => .int _), pp⟩⟩)⟩)
theorem gt_gt (ha : GE X γ i0 ρ gs a fun x gs1 => GE X γ i0 ρ gs1 b fun y gs2 => ∃ i j, x = .int i ∧ y = .int j ∧ P (.bool (decide (j < i))) gs2) : GT X γ i0 ρ gs (.Compare a [.Gt] [b] pos) fun k gs' => P (.bool k) gs' :=
  gt_cmp op_gt (pe_weak ha fun σ H Q ⟨H0, R0, R, s, q⟩ => ⟨H0, R0, R, s, fun v d gs' H2 R2 p => q v d gs' H2 R2 (pe_weak p fun σ H Q ⟨H0, R0, R, s, q⟩ => ⟨H0, R0, R, s, fun v2 d2 gs2 H3 R3 ⟨i, j, e1, e2, pp⟩ => q v2 d2 gs2 H3 R3 ⟨_, by subst e1 e2; exact Op2.c (.ints fun _ => .bl _), pp⟩⟩)⟩) (nomark _)
theorem Op2.eqI : Op2 rEq (.int i) (.int j) (.bool (decide (i = j))) := fun x y H R Q s dx dy q => by
  cases dx; cases dy
  have h := q (.bl (decide (i = j))) H R (Gr.refl s) (NewV.atom rfl (.bl (H := H) _))
  exact ⟨rfl, by rw [show decide (V.int i = V.int j) = decide (i = j) by simp]; exact h⟩
theorem gt_eqI (ha : GE X γ i0 ρ gs a fun x gs1 => GE X γ i0 ρ gs1 b fun y gs2 => ∃ i j, x = .int i ∧ y = .int j ∧ P (.bool (decide (i = j))) gs2) : GT X γ i0 ρ gs (.Compare a [.Eq] [b] pos) fun k gs' => P (.bool k) gs' :=
  gt_cmp op_eq (pe_weak ha fun σ H Q ⟨H0, R0, R, s, q⟩ => ⟨H0, R0, R, s, fun v d gs' H2 R2 p => q v d gs' H2 R2 (pe_weak p fun σ H Q ⟨H0, R0, R, s, q⟩ => ⟨H0, R0, R, s, fun v2 d2 gs2 H3 R3 ⟨i, j, e1, e2, pp⟩ => q v2 d2 gs2 H3 R3 ⟨_, by subst e1 e2; exact Op2.c .eqI, pp⟩⟩)⟩) (nomark _)
theorem ge_weak {P' : PyData → List Int → Prop} (h : GE X γ i0 ρ gs e P) (w : ∀ d gs', P d gs' → P' d gs') : GE X γ i0 ρ gs e P' := pe_weak h fun σ H Q ⟨H0, R0, R, s, q⟩ => ⟨H0, R0, R, s, fun v d gs' H2 R2 p => q v d gs' H2 R2 (w d gs' p)⟩
theorem gn_weak {P' : PyData → List Int → Prop} (h : GN X γ i0 ρ gs e P) (w : ∀ d gs', P d gs' → P' d gs') : GN X γ i0 ρ gs e P' := pe_weak h fun σ H Q ⟨H0, R0, R, s, q⟩ => ⟨H0, R0, R, s, fun v d gs' H2 R2 p => q v d gs' H2 R2 (w d gs' p)⟩
theorem gt_weak {P P' : Bool → List Int → Prop} (h : GT X γ i0 ρ gs e P) (w : ∀ d gs', P d gs' → P' d gs') : GT X γ i0 ρ gs e P' := pt_weak h fun σ H Q ⟨H0, R0, R, s, q⟩ => ⟨H0, R0, R, s, fun v gs' H2 R2 p => q v gs' H2 R2 (w v gs' p)⟩
/-- list + list -/
theorem gn_cat (ha : GE X γ i0 ρ gs a fun x gs1 => GE X γ i0 ρ gs1 b fun y gs2 => ∃ ds es, x = .list ds ∧ y = .list es ∧ ds.length + es.length ≤ sizeLine ∧ P (.list (ds ++ es)) gs2) : GN X γ i0 ρ gs (.BinOp a .Add b pos) P :=
  gn_bin op_cat (ge_weak ha fun d gs' p => ge_weak p fun d2 gs2 ⟨ds, es, e1, e2, hz, pp⟩ => ⟨_, by
    subst e1 e2
    exact fun x y H R Q s dx dy k => by
      cases dx with
      | lst h1 q1 => cases dy with
        | lst h2 q2 =>
          exact ⟨_, _, _, _, rfl, rfl, s _ _ h1, s _ _ h2, by rw [q1.len, q2.len]; exact hz, fun p hp => k _ _ R (Gr.beside s hp) (.ls hp (s.free hp) upd_same (q1.app q2))⟩, pp⟩)
end
end KR
/-! KR, defs of which repr is asked: no repr is under way around them -/
namespace KR
open PySem L2
/-- a def that is called where no repr is under way -/
structure Calm (P : Program) (w : World) (K : PySem.W.Frag) (mg : Str → Option Value) (base : Heap) (k : Nat) (f : Addr) (fd : FuncData) (ps : List Str) (sp : Sp) : Prop where
  many : ∀ xs Hx Qx Ex, sp xs Hx Qx Ex → xs.length = ps.length
  go : ∀ (around : Around) (out : List Env) (st : Shared) (Hx : Hp) (given : Args) (us : List Value) (xs : List V) (Qx : VK) (Ex : XK), around.guards = some [] → Room k around → Env0 P w K mg base around out st Hx →
    BindsTo st fd given (ps.zip us) → Vals xs us → sp xs Hx Qx Ex → codeAny (model P w) around (.call (.ref f) given) (CR CX0 out P w Hx st Qx Ex) st
section
variable {P : Program} {w : World} {K : PySem.W.Frag} {mg : Str → Option Value} {base : Heap} {x qual : Str} {st : Stmt} {f : Addr} {fd : FuncData} {N ps : List Str} {k : Nat} {sp : Sp}
theorem calm_def (F : Fun K x qual st f fd) (S : FnScope N ps (defScope st)) (many : ∀ xs Hx Qx Ex, sp xs Hx Qx Ex → xs.length = ps.length)
    (inner : ∀ (code : Value) (around : Around) (out : List Env) (sh : Shared) (Hx : Hp) (xs : List V) (Qx : VK) (Ex : XK), around.guards = some [] → Room k (around.deeper (PyProof.Rows.envOfC qual (defScope st) sh.heap.objs.size f code)) → sp xs Hx Qx Ex →
      ∃ t, PSs (cxOf CX0 P w K mg base N qual (defScope st) f code around out sh Hx Ex).nox (defBody st) t ∧ t { nx := fun _ Hy => Qx .non Hy, rt := Qx } (start N xs) Hx) : Calm P w K mg base (k + 1) f fd ps sp := by
  obtain ⟨c0, d0, kV, doc, pm, an, code, ct, sl, rfl, look, hc⟩ := F.ex
  refine ⟨many, fun around out sh Hx given us xs Qx Ex calm room e0 hb r hsp => ?_⟩
  have few := many _ _ _ _ hsp
  have inH : K.In sh.heap := e0.mod.kin.keeps fun _ _ got => (e0.bs _ _ got).1
  have free : sh.heap.NoLimit := e0.mod.nolimit.keeps fun _ _ got => (e0.bs _ _ got).1
  have kinds : ∀ q ∈ ps.zip us, (defScope st).names.lookup q.1 = some .local ∨ ((defScope st).names.lookup q.1 = some .cell ∧ ((cellsFrom (sh.heap.objs.size + 1) (defScope st).names []).lookup q.1).isSome = true) := by
    rintro ⟨nm, val⟩ hq
    cases S.par nm (List.of_mem_zip hq).1 with
    | inl z => exact .inl z
    | inr z => exact .inr ⟨z, PySem.W.cellsFrom_some _ _ _ (.inl z)⟩
  refine codeAny_call_function room.depth (inH _ _ look) rfl S.co S.gen rfl (PySem.W.codeRec_of inH hc) (hb _ _ _ _ (wpAny_newFunctionEnv_cells S.kind kinds fun env he sh1 made => ?_))
  subst he
  refine ⟨free.keeps made.toInCall.keep, codeAny_func ?_⟩
  obtain ⟨t, run, want⟩ := inner code around out sh Hx xs Qx Ex calm (room.deeper _) hsp
  have I := inv_start (CX := CX0) (E := Ex) S room.hd e0 few r made
  refine wpAny_mono (run.nox.run [] sh1 (start N xs) Hx _ I want) (fun how sh2 got => ?_) fun _ _ got => got
  cases how with
  | brk =>
    obtain ⟨_, _, _, z⟩ := got
    exact z.elim
  | cont =>
    obtain ⟨_, _, _, z⟩ := got
    exact z.elim
  | next =>
    obtain ⟨σ2, H2, J, q⟩ := got
    exact ⟨V.non, H2, J.os, J.bare, J.base, J.hok, rfl, q⟩
  | ret u =>
    obtain ⟨v, σ2, H2, J, rv, q⟩ := got
    exact ⟨v, H2, J.os, J.bare, J.base, J.hok, rv, q⟩
end
section
variable {X : Cx} {k : Nat} {f : Addr} {fd : FuncData} {ps : List Str} {sp : Sp} {x : Str} {p pos : Pos} {e : Expr} {es : List Expr} {t : TA}
/-- f(e, ..) of such a def -/
theorem pe_callCalm (F : Calm X.prog X.w X.K X.mg X.base k f fd ps sp) (calm : X.A.guards = some []) (room : Room k X.A) (hg : Gl X x) (hm : X.mg x = some (.ref f)) (kept : PySem.W.keepIn X.K (.ref f) = true) (hb : Binds X.K fd ps [])
    (ha : PA X (e :: es) t) (hdb : (x == ("__debug__" : Str)) = false := by decide) (he : starEach (e :: es) X.env = (false, eval e X.env) :: starEach es X.env := by rfl) (hpl : (backTo pos (starEach es X.env)).any (·.1) = false := by rfl) :
    PE X (.Call (.Name x p) (e :: es) [] pos) (tCall sp [] E0 t) := by
  refine ⟨fun pins sh σ H Q I want => wpAny_Call_Name_kw (ld_glob I hg hm (PySem.W.callWith_K (h₀ := X.base) I.ok.mod.kin kept (thn (ha.run pos pins sh σ H _ I want) fun us sh1 ⟨vs, H1, I1, r, q⟩ => ⟨I1.kIn, ?_⟩) he hpl) hdb)⟩
  have r2 : Vals (vs ++ []) (us ++ []) := r.append .nil
  have few : (us ++ []).length = ps.length := (r2.length).symm.trans (F.many _ _ _ _ q)
  show wpAny _ _ (call (.ref f) us) _ _ sh1
  refine wpAny_call (codeAny_mono (F.go X.A X.stack sh1 H1 ⟨us, []⟩ (us ++ []) (vs ++ []) Q E0 calm room I1.env0 (hb sh1 us I1.kIn few) r2 q) fun how sh2 got => ?_)
  cases how with
  | error z => exact got.elim
  | ok fl => cases fl with
    | ret u => exact I1.after got
    | next => exact got.elim
    | brk => exact got.elim
    | cont => exact got.elim
/-- f(k = v, ..): names only -/
theorem pe_callNames {kws : List Keyword} {tk : TA} {ks : List Str} {g : List Value → List Value → List Value} {gV : List V → List V → List V} (F : FnOk X.prog X.w X.K X.mg X.base CX0 k f fd ps sp) (room : Room k X.A) (hg : Gl X x) (hm : X.mg x = some (.ref f)) (kept : PySem.W.keepIn X.K (.ref f) = true) (hb : KBinds X.K fd ps ks g gV)
    (hkw : PK X kws tk) (hall : (backToKw pos (keywordEach kws X.env)).all (·.1.isSome) = true := by rfl) (hks : (backToKw pos (keywordEach kws X.env)).filterMap (·.1) = ks := by rfl)
    (hdb : (x == ("__debug__" : Str)) = false := by decide) (hpl : ((backTo pos (starEach [] X.env)).any (·.1) || (backToKw pos (keywordEach kws X.env)).any (·.1.isNone)) = false := by rfl) :
    PE X (.Call (.Name x p) [] kws pos) (fun σ H Q => tk σ H fun zs H2 => sp (gV [] zs) H2 Q E0) := by
  refine ⟨fun pins sh σ H Q I want => wpAny_Call_Name_kw (ld_glob I hg hm (PySem.W.callWith_KW0 (h₀ := X.base) I.ok.mod.kin kept hall (thn (hkw.run pos pins sh σ H _ I want) fun ws sh2 ⟨zs, H2, I2, rz, q2⟩ => ⟨I2.kIn, ?_⟩) hpl) hdb)⟩
  rw [hks]
  exact run_fnk (us := []) F room hb pass0 I2 .nil rz q2
end

/-- a def that draws, called where no repr is under way -/
theorem calm_g {P : Program} {w : World} {K : PySem.W.Frag} {mg : Str → Option Value} {base : Heap} {x qual : Str} {st : Stmt} {f : Addr} {fd : FuncData} {N ps : List Str} {k : Nat} {Pre : List Int → List PyData → Prop} {Φ : List Int → List PyData → PyData → List Int → Prop} (F : Fun K x qual st f fd) (S : FnScope N ps (defScope st)) (many : ∀ gs ds, Pre gs ds → ds.length + 1 = ps.length)
    (inner : ∀ (code : Value) (around : Around) (out : List Env) (sh : Shared) (Hx : Hp) (Ex : XK) (g : Addr) (gs : List Int) (ds : List PyData), around.guards = some [] → Room k (around.deeper (PyProof.Rows.envOfC qual (defScope st) sh.heap.objs.size f code)) → Pre gs ds →
      GSs (cxOf CX0 P w K mg base N qual (defScope st) f code around out sh Hx Ex).nox (some g) 0 (entryG N ds) gs (defBody st) (fun _ gs' => Φ gs ds .none gs') (fun d' gs' => Φ gs ds d' gs')) : Calm P w K mg base (k + 1) f fd ps (spG Pre Φ) :=
  calm_def F S (fun xs Hx Qx Ex ⟨R, g, us, gs, ds, e, _, _, _, q, pre, _⟩ => by rw [e, List.length_cons, q.len]; exact many gs ds pre) fun code around out sh Hx xs Qx Ex calm room ⟨R, g, us, gs, ds, e, sm, rg, hg, q, pre, kk⟩ => by
    subst e
    exact ⟨_, inner code around out sh Hx Ex g gs ds calm room pre, g_start sm rg hg q kk⟩
section
variable {X : Cx} {γ : Option Addr} {i0 : Nat} {ρ : List Ent} {gs : List Int} {es : List Expr} {P : PyData → List Int → Prop} {k : Nat} {f : Addr} {fd : FuncData} {ps : List Str} {Pre : List Int → List PyData → Prop} {Φ : List Int → List PyData → PyData → List Int → Prop} {x y : Str} {py p pos : Pos}
theorem gn_callCalm (F : Calm X.prog X.w X.K X.mg X.base k f fd ps (spG Pre Φ)) (calm : X.A.guards = some []) (room : Room k X.A) (hm : X.mg x = some (.ref f)) (kept : PySem.W.keepIn X.K (.ref f) = true) (hb : Binds X.K fd ps []) (ha : GEs X γ i0 ρ gs es fun ds gs1 => Pre gs1 ds ∧ ∀ d gs2, Φ gs1 ds d gs2 → P d gs2)
    (hN : X.N[i0]? = some y := by rfl) (hv : Vis X.env.scope y := by first | exact Or.inl rfl | exact Or.inr (Or.inl rfl) | exact Or.inr (Or.inr rfl)) (h1 : (y == ("__debug__" : Str)) = false := by decide) (h2 : (y == ("__classdict__" : Str)) = false := by decide)
    (hg : Gl X x := by rfl) (hdb : (x == ("__debug__" : Str)) = false := by decide) (he : starEach (.Name y py :: es) X.env = (false, eval (.Name y py) X.env) :: starEach es X.env := by rfl) (hpl : (backTo pos (starEach es X.env)).any (·.1) = false := by rfl) :
    GN X γ i0 ρ gs (.Call (.Name x p) (.Name y py :: es) [] pos) P :=
  pe_weak (pe_callCalm F calm room hg hm kept hb (pa_cons (pe_var hN hv h1 h2) ha he) hdb he hpl) fun σ H Q ⟨H0, R0, R, s, q⟩ => by
    obtain ⟨g, e1, _, _, _⟩ := s.list
    refine ⟨_, e1, H0, R0, R, s, fun vs ds gs1 H2 R2 ⟨pre, post⟩ s2 m w => ?_⟩
    obtain ⟨g', k1, k2, k3, k4⟩ := s2.list
    rw [e1] at k1
    cases k1
    refine ⟨R2, g, vs, gs1, ds, by rw [List.append_nil], s2.st.sl.sub, k2, k3, w, pre, fun v d gs2 H3 R3 ph m3 keep h3 n => ?_⟩
    exact q v d gs2 H3 R3 (post d gs2 ph) (s2.drawn e1 m3 keep h3) (m.trans m3) (n.backM m)
end
/-! ### repr -/
def rRepr (K : PySem.W.Frag) : List V → Hp → VK → Prop := fun xs H Q => ∃ v d, xs = [v] ∧ Dp K H v d ∧ d.canLay0 = true ∧ d.showable = true ∧ d.depth ≤ 60 ∧ d.shown.length ≤ sizeLine ∧ (d = .none ∨ ∃ ds, d = .list ds) ∧ Q (.str d.shown) H
theorem cr_repr {X : Cx} (calm : X.A.guards = some []) (hu : X.A.units + 65 < cLine) : CallR X (.builtin "repr") (rRepr X.K) := by
  intro pins s σ H xs us Q I r ⟨v, d, e, hd, lay, show_, dep, len, kind, q⟩
  subst e
  cases r with
  | cons rv rt =>
    cases rt
    rcases kind with rfl | ⟨ds, rfl⟩
    · cases hd
      cases rv
      exact PySem.P.repr_of_none ⟨.str _, H, I.tok _, ⟨_, rfl⟩, q⟩
    · obtain ⟨as, rd⟩ := Dp.reads I _ _ _ hd rv
      cases hd with
      | lst _ _ =>
        cases rv
        exact repr_of_reads' rd show_ (PyData.noDict_hsm (PyData.hasDict_of_canLay _ lay)) calm (by omega) (fun _ _ z => z) (fun h' u tk kp => ⟨.str _, H, I.kept kp, ⟨_, rfl⟩, q⟩) len
end KR
namespace KR
open PySem L2
def topS (i : Nat) : Stmt := PySem.Challenge.pw_keyroads_k20_whole_exact_counts.main.body.getD i (.Pass ⟨0, 0, 0, 0⟩)
abbrev st_is_whole : Stmt := topS 6
abbrev N_is_whole : List Str := ["value"]
abbrev P_is_whole : List Str := ["value"]
theorem sc_is_whole : FnScope N_is_whole P_is_whole (defScope st_is_whole) := ⟨rfl, rfl, rfl, by decide +kernel, rfl, by decide +kernel, by decide +kernel⟩
abbrev st_is_between : Stmt := topS 7
abbrev N_is_between : List Str := ["value", "low", "high"]
abbrev P_is_between : List Str := ["value", "low", "high"]
theorem sc_is_between : FnScope N_is_between P_is_between (defScope st_is_between) := ⟨rfl, rfl, rfl, by decide +kernel, rfl, by decide +kernel, by decide +kernel⟩
abbrev st_is_road : Stmt := topS 8
abbrev N_is_road : List Str := ["houses", "value"]
abbrev P_is_road : List Str := ["houses", "value"]
theorem sc_is_road : FnScope N_is_road P_is_road (defScope st_is_road) := ⟨rfl, rfl, rfl, by decide +kernel, rfl, by decide +kernel, by decide +kernel⟩
abbrev st_is_net : Stmt := topS 9
abbrev N_is_net : List Str := ["value", "houses", "roads", "at", "road"]
abbrev P_is_net : List Str := ["value"]
theorem sc_is_net : FnScope N_is_net P_is_net (defScope st_is_net) := ⟨rfl, rfl, rfl, by decide +kernel, rfl, by decide +kernel, by decide +kernel⟩
abbrev st_check_net : Stmt := topS 10
abbrev N_check_net : List Str := ["net"]
abbrev P_check_net : List Str := ["net"]
theorem sc_check_net : FnScope N_check_net P_check_net (defScope st_check_net) := ⟨rfl, rfl, rfl, by decide +kernel, rfl, by decide +kernel, by decide +kernel⟩
abbrev st_is_standing : Stmt := topS 11
abbrev N_is_standing : List Str := ["net", "value", "item", "road"]
abbrev P_is_standing : List Str := ["net", "value"]
theorem sc_is_standing : FnScope N_is_standing P_is_standing (defScope st_is_standing) := ⟨rfl, rfl, rfl, by decide +kernel, rfl, by decide +kernel, by decide +kernel⟩
abbrev st_check_standing : Stmt := topS 12
abbrev N_check_standing : List Str := ["net", "standing"]
abbrev P_check_standing : List Str := ["net", "standing"]
theorem sc_check_standing : FnScope N_check_standing P_check_standing (defScope st_check_standing) := ⟨rfl, rfl, rfl, by decide +kernel, rfl, by decide +kernel, by decide +kernel⟩
abbrev st_is_house : Stmt := topS 13
abbrev N_is_house : List Str := ["net", "value"]
abbrev P_is_house : List Str := ["net", "value"]
theorem sc_is_house : FnScope N_is_house P_is_house (defScope st_is_house) := ⟨rfl, rfl, rfl, by decide +kernel, rfl, by decide +kernel, by decide +kernel⟩
abbrev st_are_houses : Stmt := topS 14
abbrev N_are_houses : List Str := ["net", "value", "at", "item"]
abbrev P_are_houses : List Str := ["net", "value"]
theorem sc_are_houses : FnScope N_are_houses P_are_houses (defScope st_are_houses) := ⟨rfl, rfl, rfl, by decide +kernel, rfl, by decide +kernel, by decide +kernel⟩
abbrev st_check_houses : Stmt := topS 15
abbrev N_check_houses : List Str := ["net", "houses"]
abbrev P_check_houses : List Str := ["net", "houses"]
theorem sc_check_houses : FnScope N_check_houses P_check_houses (defScope st_check_houses) := ⟨rfl, rfl, rfl, by decide +kernel, rfl, by decide +kernel, by decide +kernel⟩
abbrev st_neighbours_of : Stmt := topS 16
abbrev N_neighbours_of : List Str := ["net", "house", "found", "low", "high", "many"]
abbrev P_neighbours_of : List Str := ["net", "house"]
theorem sc_neighbours_of : FnScope N_neighbours_of P_neighbours_of (defScope st_neighbours_of) := ⟨rfl, rfl, rfl, by decide +kernel, rfl, by decide +kernel, by decide +kernel⟩
abbrev st_directions_of : Stmt := topS 17
abbrev N_directions_of : List Str := ["net", "low", "high", "many"]
abbrev P_directions_of : List Str := ["net"]
theorem sc_directions_of : FnScope N_directions_of P_directions_of (defScope st_directions_of) := ⟨rfl, rfl, rfl, by decide +kernel, rfl, by decide +kernel, by decide +kernel⟩
abbrev st_road_at : Stmt := topS 18
abbrev N_road_at : List Str := ["net", "one", "other", "road"]
abbrev P_road_at : List Str := ["net", "one", "other"]
theorem sc_road_at : FnScope N_road_at P_road_at (defScope st_road_at) := ⟨rfl, rfl, rfl, by decide +kernel, rfl, by decide +kernel, by decide +kernel⟩
abbrev st_keys_in : Stmt := topS 19
abbrev N_keys_in : List Str := ["net", "standing", "one", "other", "at"]
abbrev P_keys_in : List Str := ["net", "standing", "one", "other"]
theorem sc_keys_in : FnScope N_keys_in P_keys_in (defScope st_keys_in) := ⟨rfl, rfl, rfl, by decide +kernel, rfl, by decide +kernel, by decide +kernel⟩
abbrev st_with_works : Stmt := topS 20
abbrev N_with_works : List Str := ["net", "standing", "works", "item", "road"]
abbrev P_with_works : List Str := ["net", "standing", "works"]
theorem sc_with_works : FnScope N_with_works P_with_works (defScope st_with_works) := ⟨rfl, rfl, rfl, by decide +kernel, rfl, by decide +kernel, by decide +kernel⟩
abbrev st_lengths_from : Stmt := topS 21
abbrev N_lengths_from : List Str := ["net", "standing", "sources", "found", "turn", "one", "other", "length", "house"]
abbrev P_lengths_from : List Str := ["net", "standing", "sources"]
theorem sc_lengths_from : FnScope N_lengths_from P_lengths_from (defScope st_lengths_from) := ⟨rfl, rfl, rfl, by decide +kernel, rfl, by decide +kernel, by decide +kernel⟩
abbrev st_free_ahead : Stmt := topS 22
abbrev N_free_ahead : List Str := ["net", "standing", "houses", "found", "one", "mate"]
abbrev P_free_ahead : List Str := ["net", "standing", "houses"]
theorem sc_free_ahead : FnScope N_free_ahead P_free_ahead (defScope st_free_ahead) := ⟨rfl, rfl, rfl, by decide +kernel, rfl, by decide +kernel, by decide +kernel⟩
abbrev st_stuck_houses : Stmt := topS 23
abbrev N_stuck_houses : List Str := ["net", "standing", "found", "houses", "house", "reached", "turn", "mate", "low", "high", "many"]
abbrev P_stuck_houses : List Str := ["net", "standing"]
theorem sc_stuck_houses : FnScope N_stuck_houses P_stuck_houses (defScope st_stuck_houses) := ⟨rfl, rfl, rfl, by decide +kernel, rfl, by decide +kernel, by decide +kernel⟩
abbrev st_ends_of : Stmt := topS 25
abbrev N_ends_of : List Str := ["net", "standing", "resting"]
abbrev P_ends_of : List Str := ["net", "standing", "resting"]
theorem sc_ends_of : FnScope N_ends_of P_ends_of (defScope st_ends_of) := ⟨rfl, rfl, rfl, by decide +kernel, rfl, by decide +kernel, by decide +kernel⟩
abbrev st_counts_in : Stmt := topS 26
abbrev N_counts_in : List Str := ["net", "standing", "resting"]
abbrev P_counts_in : List Str := ["net", "standing", "resting"]
theorem sc_counts_in : FnScope N_counts_in P_counts_in (defScope st_counts_in) := ⟨rfl, rfl, rfl, by decide +kernel, rfl, by decide +kernel, by decide +kernel⟩
abbrev st_check_resting : Stmt := topS 27
abbrev N_check_resting : List Str := ["net", "standing", "resting"]
abbrev P_check_resting : List Str := ["net", "standing", "resting"]
theorem sc_check_resting : FnScope N_check_resting P_check_resting (defScope st_check_resting) := ⟨rfl, rfl, rfl, by decide +kernel, rfl, by decide +kernel, by decide +kernel⟩
abbrev st_counts : Stmt := topS 28
abbrev N_counts : List Str := ["net", "standing", "resting"]
abbrev P_counts : List Str := ["net", "standing", "resting"]
theorem sc_counts : FnScope N_counts P_counts (defScope st_counts) := ⟨rfl, rfl, rfl, by decide +kernel, rfl, by decide +kernel, by decide +kernel⟩
abbrev st_last_standing : Stmt := topS 29
abbrev N_last_standing : List Str := ["net", "standing", "resting", "found"]
abbrev P_last_standing : List Str := ["net", "standing", "resting"]
theorem sc_last_standing : FnScope N_last_standing P_last_standing (defScope st_last_standing) := ⟨rfl, rfl, rfl, by decide +kernel, rfl, by decide +kernel, by decide +kernel⟩
abbrev st_L_cell : Stmt := topS 31
abbrev N_L_cell : List Str := ["_law_script", "_law_index"]
abbrev P_L_cell : List Str := ["_law_script", "_law_index"]
theorem sc_L_cell : FnScope N_L_cell P_L_cell (defScope st_L_cell) := ⟨rfl, rfl, rfl, by decide +kernel, rfl, by decide +kernel, by decide +kernel⟩
abbrev st_L_hash : Stmt := topS 32
abbrev N_L_hash : List Str := ["_law_seed", "_law_index", "_law_mixed"]
abbrev P_L_hash : List Str := ["_law_seed", "_law_index"]
theorem sc_L_hash : FnScope N_L_hash P_L_hash (defScope st_L_hash) := ⟨rfl, rfl, rfl, by decide +kernel, rfl, by decide +kernel, by decide +kernel⟩
abbrev st_L_generator : Stmt := topS 33
abbrev N_L_generator : List Str := ["_law_script", "_law_index", "_law_seed"]
abbrev P_L_generator : List Str := ["_law_script", "_law_index"]
theorem sc_L_generator : FnScope N_L_generator P_L_generator (defScope st_L_generator) := ⟨rfl, rfl, rfl, by decide +kernel, rfl, by decide +kernel, by decide +kernel⟩
abbrev st_L_random : Stmt := topS 34
abbrev N_L_random : List Str := ["_law_generator_here", "_law_limit", "_law_drawn", "_law_turn"]
abbrev P_L_random : List Str := ["_law_generator_here", "_law_limit"]
theorem sc_L_random : FnScope N_L_random P_L_random (defScope st_L_random) := ⟨rfl, rfl, rfl, by decide +kernel, rfl, by decide +kernel, by decide +kernel⟩
abbrev st_L_net : Stmt := topS 35
abbrev N_L_net : List Str := ["_law_generator_here", "_law_most", "_law_keys_here", "_law_houses_here", "_law_pairs_here", "_law_house", "_law_turn", "_law_low", "_law_high"]
abbrev P_L_net : List Str := ["_law_generator_here", "_law_most", "_law_keys_here"]
theorem sc_L_net : FnScope N_L_net P_L_net (defScope st_L_net) := ⟨rfl, rfl, rfl, by decide +kernel, rfl, by decide +kernel, by decide +kernel⟩
abbrev st_L_standing : Stmt := topS 36
abbrev N_L_standing : List Str := ["_law_generator_here", "_law_net_here", "_law_low", "_law_high", "_law_many"]
abbrev P_L_standing : List Str := ["_law_generator_here", "_law_net_here"]
theorem sc_L_standing : FnScope N_L_standing P_L_standing (defScope st_L_standing) := ⟨rfl, rfl, rfl, by decide +kernel, rfl, by decide +kernel, by decide +kernel⟩
abbrev st_L_houses : Stmt := topS 37
abbrev N_L_houses : List Str := ["_law_generator_here", "_law_net_here", "_law_part", "_law_house"]
abbrev P_L_houses : List Str := ["_law_generator_here", "_law_net_here", "_law_part"]
theorem sc_L_houses : FnScope N_L_houses P_L_houses (defScope st_L_houses) := ⟨rfl, rfl, rfl, by decide +kernel, rfl, by decide +kernel, by decide +kernel⟩
abbrev st_L_mates : Stmt := topS 38
abbrev N_L_mates : List Str := ["_law_net_here", "_law_house", "_law_found", "_law_low", "_law_high", "_law_many"]
abbrev P_L_mates : List Str := ["_law_net_here", "_law_house"]
theorem sc_L_mates : FnScope N_L_mates P_L_mates (defScope st_L_mates) := ⟨rfl, rfl, rfl, by decide +kernel, rfl, by decide +kernel, by decide +kernel⟩
abbrev st_L_keys : Stmt := topS 39
abbrev N_L_keys : List Str := ["_law_net_here", "_law_standing_here", "_law_one", "_law_other", "_law_at", "_law_low", "_law_high", "_law_many"]
abbrev P_L_keys : List Str := ["_law_net_here", "_law_standing_here", "_law_one", "_law_other"]
theorem sc_L_keys : FnScope N_L_keys P_L_keys (defScope st_L_keys) := ⟨rfl, rfl, rfl, by decide +kernel, rfl, by decide +kernel, by decide +kernel⟩
abbrev st_L_pairs : Stmt := topS 40
abbrev N_L_pairs : List Str := ["_law_net_here", "_law_found", "_law_low", "_law_high", "_law_many"]
abbrev P_L_pairs : List Str := ["_law_net_here"]
theorem sc_L_pairs : FnScope N_L_pairs P_L_pairs (defScope st_L_pairs) := ⟨rfl, rfl, rfl, by decide +kernel, rfl, by decide +kernel, by decide +kernel⟩
abbrev st_L_lengths : Stmt := topS 41
abbrev N_L_lengths : List Str := ["_law_net_here", "_law_standing_here", "_law_sources", "_law_found", "_law_turn", "_law_one", "_law_other", "_law_length", "_law_house"]
abbrev P_L_lengths : List Str := ["_law_net_here", "_law_standing_here", "_law_sources"]
theorem sc_L_lengths : FnScope N_L_lengths P_L_lengths (defScope st_L_lengths) := ⟨rfl, rfl, rfl, by decide +kernel, rfl, by decide +kernel, by decide +kernel⟩
abbrev st_L_stuck : Stmt := topS 42
abbrev N_L_stuck : List Str := ["_law_net_here", "_law_standing_here", "_law_steps", "_law_found", "_law_house", "_law_reached", "_law_turn", "_law_pair", "_law_one", "_law_other"]
abbrev P_L_stuck : List Str := ["_law_net_here", "_law_standing_here"]
theorem sc_L_stuck : FnScope N_L_stuck P_L_stuck (defScope st_L_stuck) := ⟨rfl, rfl, rfl, by decide +kernel, rfl, by decide +kernel, by decide +kernel⟩
abbrev st_L_ends : Stmt := topS 43
abbrev N_L_ends : List Str := ["_law_net_here", "_law_standing_here", "_law_resting"]
abbrev P_L_ends : List Str := ["_law_net_here", "_law_standing_here", "_law_resting"]
theorem sc_L_ends : FnScope N_L_ends P_L_ends (defScope st_L_ends) := ⟨rfl, rfl, rfl, by decide +kernel, rfl, by decide +kernel, by decide +kernel⟩
abbrev st_L_counts : Stmt := topS 44
abbrev N_L_counts : List Str := ["_law_net_here", "_law_standing_here", "_law_resting"]
abbrev P_L_counts : List Str := ["_law_net_here", "_law_standing_here", "_law_resting"]
theorem sc_L_counts : FnScope N_L_counts P_L_counts (defScope st_L_counts) := ⟨rfl, rfl, rfl, by decide +kernel, rfl, by decide +kernel, by decide +kernel⟩
abbrev st_L_can : Stmt := topS 45
abbrev N_L_can : List Str := ["_law_net_here", "_law_standing_here", "_law_house", "_law_mate"]
abbrev P_L_can : List Str := ["_law_net_here", "_law_standing_here", "_law_house"]
theorem sc_L_can : FnScope N_L_can P_L_can (defScope st_L_can) := ⟨rfl, rfl, rfl, by decide +kernel, rfl, by decide +kernel, by decide +kernel⟩
abbrev st_L_worked : Stmt := topS 46
abbrev N_L_worked : List Str := ["_law_net_here", "_law_standing_here", "_law_house", "_law_item", "_law_low", "_law_high", "_law_many"]
abbrev P_L_worked : List Str := ["_law_net_here", "_law_standing_here", "_law_house"]
theorem sc_L_worked : FnScope N_L_worked P_L_worked (defScope st_L_worked) := ⟨rfl, rfl, rfl, by decide +kernel, rfl, by decide +kernel, by decide +kernel⟩
abbrev st_L_meant : Stmt := topS 47
abbrev N_L_meant : List Str := ["_law_net_here", "_law_standing_here", "_law_works", "_law_item", "_law_low", "_law_high", "_law_many"]
abbrev P_L_meant : List Str := ["_law_net_here", "_law_standing_here", "_law_works"]
theorem sc_L_meant : FnScope N_L_meant P_L_meant (defScope st_L_meant) := ⟨rfl, rfl, rfl, by decide +kernel, rfl, by decide +kernel, by decide +kernel⟩
abbrev st_L_able : Stmt := topS 48
abbrev N_L_able : List Str := ["_law_net_here", "_law_standing_here", "_law_resting", "_law_house"]
abbrev P_L_able : List Str := ["_law_net_here", "_law_standing_here", "_law_resting"]
theorem sc_L_able : FnScope N_L_able P_L_able (defScope st_L_able) := ⟨rfl, rfl, rfl, by decide +kernel, rfl, by decide +kernel, by decide +kernel⟩
abbrev st_L_run : Stmt := topS 49
abbrev N_L_run : List Str := ["_law_generator_here", "_law_net_here", "_law_standing_here", "_law_resting", "_law_most", "_law_run_here", "_law_there", "_law_turn", "_law_houses_here"]
abbrev P_L_run : List Str := ["_law_generator_here", "_law_net_here", "_law_standing_here", "_law_resting", "_law_most"]
theorem sc_L_run : FnScope N_L_run P_L_run (defScope st_L_run) := ⟨rfl, rfl, rfl, by decide +kernel, rfl, by decide +kernel, by decide +kernel⟩
abbrev st_L_tally : Stmt := topS 50
abbrev N_L_tally : List Str := ["_law_net_here", "_law_run_here", "_law_mate", "_law_house"]
abbrev P_L_tally : List Str := ["_law_net_here", "_law_run_here"]
theorem sc_L_tally : FnScope N_L_tally P_L_tally (defScope st_L_tally) := ⟨rfl, rfl, rfl, by decide +kernel, rfl, by decide +kernel, by decide +kernel⟩
abbrev st_L_gone_on : Stmt := topS 51
abbrev N_L_gone_on : List Str := ["_law_net_here", "_law_standing_here", "_law_resting", "_law_run_here", "_law_most", "_law_there", "_law_works", "_law_house", "_law_turn", "_law_mate", "_law_many"]
abbrev P_L_gone_on : List Str := ["_law_net_here", "_law_standing_here", "_law_resting", "_law_run_here", "_law_most"]
theorem sc_L_gone_on : FnScope N_L_gone_on P_L_gone_on (defScope st_L_gone_on) := ⟨rfl, rfl, rfl, by decide +kernel, rfl, by decide +kernel, by decide +kernel⟩
abbrev st_L_right : Stmt := topS 52
abbrev N_L_right : List Str := ["_law_generator_here", "_law_net_here", "_law_standing_here", "_law_resting", "_law_kept", "_law_due", "_law_told", "_law_run_here", "_law_there", "_law_most", "_law_works", "_law_ended", "_law_last", "_law_idle", "_law_house", "_law_many", "_law_number"]
abbrev P_L_right : List Str := ["_law_generator_here", "_law_net_here", "_law_standing_here", "_law_resting"]
theorem sc_L_right : FnScope N_L_right P_L_right (defScope st_L_right) := ⟨rfl, rfl, rfl, by decide +kernel, rfl, by decide +kernel, by decide +kernel⟩
abbrev st_L_seven : Stmt := topS 53
abbrev N_L_seven : List Str := ["_law_generator_here", "_law_roads", "_law_triples", "_law_standing_here"]
abbrev P_L_seven : List Str := ["_law_generator_here"]
theorem sc_L_seven : FnScope N_L_seven P_L_seven (defScope st_L_seven) := ⟨rfl, rfl, rfl, by decide +kernel, rfl, by decide +kernel, by decide +kernel⟩
abbrev st_law : Stmt := topS 54
abbrev N_law : List Str := ["_law_script", "_law_index", "_law_generator_here", "_law_net_here", "_law_standing_here", "_law_tails", "_law_single", "_law_held", "_law_low", "_law_row", "_law_tail", "_law_long", "_law_house", "_law_high"]
abbrev P_law : List Str := ["_law_script"]
theorem sc_law : FnScope N_law P_law (defScope st_law) := ⟨rfl, rfl, rfl, by decide +kernel, rfl, by decide +kernel, by decide +kernel⟩
/-- the built-ins' names are nobody's -/
structure Bt (mg : Str → Option Value) : Prop where
  isinstance : mg "isinstance" = none
  int : mg "int" = none
  bool : mg "bool" = none
  tuple : mg "tuple" = none
  list : mg "list" = none
  len : mg "len" = none
  sorted : mg "sorted" = none
  range : mg "range" = none
  min : mg "min" = none
  max : mg "max" = none
  zip : mg "zip" = none
  enumerate : mg "enumerate" = none
  set : mg "set" = none
  sum : mg "sum" = none
  repr : mg "repr" = none
/-- a def of the text: where it stands, how its arguments come -/
structure At (K : PySem.W.Frag) (mg : Str → Option Value) (x : Str) (st : Stmt) (ps : List Str) (f : Addr) (fd : FuncData) : Prop where
  F : Fun K x x st f fd
  b : Binds K fd ps []
  g : mg x = some (.ref f)
/-- the text's defs where they stand -/
structure Txt (K : PySem.W.Frag) (mg : Str → Option Value) (fs : Nat → Addr) (fds : Nat → FuncData) : Prop where
  B : Bt mg
  is_whole : At K mg "is_whole" st_is_whole P_is_whole (fs 6) (fds 6)
  is_between : At K mg "is_between" st_is_between P_is_between (fs 7) (fds 7)
  is_road : At K mg "is_road" st_is_road P_is_road (fs 8) (fds 8)
  is_net : At K mg "is_net" st_is_net P_is_net (fs 9) (fds 9)
  check_net : At K mg "check_net" st_check_net P_check_net (fs 10) (fds 10)
  is_standing : At K mg "is_standing" st_is_standing P_is_standing (fs 11) (fds 11)
  check_standing : At K mg "check_standing" st_check_standing P_check_standing (fs 12) (fds 12)
  is_house : At K mg "is_house" st_is_house P_is_house (fs 13) (fds 13)
  are_houses : At K mg "are_houses" st_are_houses P_are_houses (fs 14) (fds 14)
  check_houses : At K mg "check_houses" st_check_houses P_check_houses (fs 15) (fds 15)
  neighbours_of : At K mg "neighbours_of" st_neighbours_of P_neighbours_of (fs 16) (fds 16)
  directions_of : At K mg "directions_of" st_directions_of P_directions_of (fs 17) (fds 17)
  road_at : At K mg "road_at" st_road_at P_road_at (fs 18) (fds 18)
  keys_in : At K mg "keys_in" st_keys_in P_keys_in (fs 19) (fds 19)
  with_works : At K mg "with_works" st_with_works P_with_works (fs 20) (fds 20)
  lengths_from : At K mg "lengths_from" st_lengths_from P_lengths_from (fs 21) (fds 21)
  free_ahead : At K mg "free_ahead" st_free_ahead P_free_ahead (fs 22) (fds 22)
  stuck_houses : At K mg "stuck_houses" st_stuck_houses P_stuck_houses (fs 23) (fds 23)
  ends_of : At K mg "ends_of" st_ends_of P_ends_of (fs 25) (fds 25)
  counts_in : At K mg "counts_in" st_counts_in P_counts_in (fs 26) (fds 26)
  check_resting : At K mg "check_resting" st_check_resting P_check_resting (fs 27) (fds 27)
  counts : At K mg "counts" st_counts P_counts (fs 28) (fds 28)
  last_standing : At K mg "last_standing" st_last_standing P_last_standing (fs 29) (fds 29)
  L_cell : At K mg "_law_cell" st_L_cell P_L_cell (fs 31) (fds 31)
  L_hash : At K mg "_law_hash" st_L_hash P_L_hash (fs 32) (fds 32)
  L_generator : At K mg "_law_generator" st_L_generator P_L_generator (fs 33) (fds 33)
  L_random : At K mg "_law_random" st_L_random P_L_random (fs 34) (fds 34)
  L_net : At K mg "_law_net" st_L_net P_L_net (fs 35) (fds 35)
  L_standing : At K mg "_law_standing" st_L_standing P_L_standing (fs 36) (fds 36)
  L_houses : At K mg "_law_houses" st_L_houses P_L_houses (fs 37) (fds 37)
  L_mates : At K mg "_law_mates" st_L_mates P_L_mates (fs 38) (fds 38)
  L_keys : At K mg "_law_keys" st_L_keys P_L_keys (fs 39) (fds 39)
  L_pairs : At K mg "_law_pairs" st_L_pairs P_L_pairs (fs 40) (fds 40)
  L_lengths : At K mg "_law_lengths" st_L_lengths P_L_lengths (fs 41) (fds 41)
  L_stuck : At K mg "_law_stuck" st_L_stuck P_L_stuck (fs 42) (fds 42)
  L_ends : At K mg "_law_ends" st_L_ends P_L_ends (fs 43) (fds 43)
  L_counts : At K mg "_law_counts" st_L_counts P_L_counts (fs 44) (fds 44)
  L_can : At K mg "_law_can" st_L_can P_L_can (fs 45) (fds 45)
  L_worked : At K mg "_law_worked" st_L_worked P_L_worked (fs 46) (fds 46)
  L_meant : At K mg "_law_meant" st_L_meant P_L_meant (fs 47) (fds 47)
  L_able : At K mg "_law_able" st_L_able P_L_able (fs 48) (fds 48)
  L_run : At K mg "_law_run" st_L_run P_L_run (fs 49) (fds 49)
  L_tally : At K mg "_law_tally" st_L_tally P_L_tally (fs 50) (fds 50)
  L_gone_on : At K mg "_law_gone_on" st_L_gone_on P_L_gone_on (fs 51) (fds 51)
  L_right : At K mg "_law_right" st_L_right P_L_right (fs 52) (fds 52)
  L_seven : At K mg "_law_seven" st_L_seven P_L_seven (fs 53) (fds 53)
  law : At K mg "law" st_law P_law (fs 54) (fds 54)

end KR
namespace KR
open PySem L2
/-! ### data of the program -/
def encO : Option Int → PyData
  | none => .none
  | some i => .int i
abbrev dI (ns : List Int) : PyData := .list (ns.map PyData.int)
abbrev Road := Int × Int × Int
abbrev encR (r : Road) : PyData := .tuple [.int r.1, .int r.2.1, .int r.2.2]
structure Net where
  n : Int
  rs : List Road
abbrev encN (N : Net) : PyData := .tuple [.int N.n, .list (N.rs.map encR)]
structure RoadOk (n : Int) (r : Road) : Prop where
  lo : 0 ≤ r.1
  lt : r.1 < r.2.1
  hi : r.2.1 < n
  m1 : 1 ≤ r.2.2
  m9 : r.2.2 ≤ 9
def lexR (a b : Road) : Prop := a.1 < b.1 ∨ (a.1 = b.1 ∧ a.2.1 < b.2.1)
structure NetOk (N : Net) : Prop where
  n1 : 1 ≤ N.n
  n12 : N.n ≤ 12
  few : N.rs.length ≤ 28
  road : ∀ r ∈ N.rs, RoadOk N.n r
  asc : N.rs.Pairwise lexR
structure StOk (N : Net) (s : List Int) : Prop where
  len : s.length = N.rs.length
  bd : ∀ p ∈ s.zip N.rs, 0 ≤ p.1 ∧ p.1 ≤ p.2.2.2
structure HsOk (N : Net) (hs : List Int) : Prop where
  bd : ∀ h ∈ hs, 0 ≤ h ∧ h < N.n
  asc : hs.Pairwise (· < ·)

/-! ### data that == and repr take -/
def Sh (n : Nat) (d : PyData) : Prop := d.canLay0 = true ∧ d.depth ≤ n
theorem sh_int (i : Int) : Sh 0 (.int i) := ⟨rfl, Nat.le_refl _⟩
theorem sh_none : Sh 0 .none := ⟨rfl, Nat.le_refl _⟩
theorem sh_bool (b : Bool) : Sh 0 (.bool b) := ⟨rfl, Nat.le_refl _⟩
theorem sh_all {n : Nat} : ∀ {ds : List PyData}, (∀ x ∈ ds, Sh n x) → PyData.canLayAll0 ds = true ∧ PyData.depthAll ds ≤ n
  | [], _ => ⟨rfl, Nat.zero_le _⟩
  | d :: ds, h => by
    have h1 := h d List.mem_cons_self
    have h2 := sh_all (ds := ds) fun x hx => h x (List.mem_cons_of_mem _ hx)
    refine ⟨?_, ?_⟩
    · rw [PyData.canLayAll0, h1.1, h2.1]; rfl
    · rw [PyData.depthAll]; exact Nat.max_le.mpr ⟨h1.2, h2.2⟩
theorem sh_list {n : Nat} {ds : List PyData} (h : ∀ x ∈ ds, Sh n x) : Sh (n + 1) (.list ds) := ⟨by rw [PyData.canLay0]; exact (sh_all h).1, by rw [PyData.depth]; exact Nat.succ_le_succ (sh_all h).2⟩
theorem sh_tuple {n : Nat} {ds : List PyData} (h : ∀ x ∈ ds, Sh n x) : Sh (n + 1) (.tuple ds) := ⟨by rw [PyData.canLay0]; exact (sh_all h).1, by rw [PyData.depth]; exact Nat.succ_le_succ (sh_all h).2⟩
theorem Sh.mono {n m : Nat} {d : PyData} (h : Sh n d) (e : n ≤ m) : Sh m d := ⟨h.1, Nat.le_trans h.2 e⟩
theorem Sh.ok {n : Nat} {d : PyData} (h : Sh n d) (e : n ≤ 64 := by decide) : SeqAt.shaped d = true := by
  unfold SeqAt.shaped
  rw [h.1, decide_eq_true (Nat.le_trans h.2 e)]; rfl
theorem sh_dI (ns : List Int) : Sh 1 (dI ns) := sh_list fun x hx => by
  obtain ⟨i, _, rfl⟩ := List.mem_map.mp hx
  exact sh_int i
theorem sh_encO (o : Option Int) : Sh 0 (encO o) := by
  cases o with
  | none => exact sh_none
  | some i => exact sh_int i
theorem sh_encT (ns : List Int) : Sh 1 (encT ns) := sh_tuple fun x hx => by
  obtain ⟨i, _, rfl⟩ := List.mem_map.mp hx
  exact sh_int i
theorem sh_encR (r : Road) : Sh 1 (encR r) := sh_encT [r.1, r.2.1, r.2.2]
theorem sh_map {α : Type} {n : Nat} {enc : α → PyData} (xs : List α) (h : ∀ x, Sh n (enc x)) : Sh (n + 1) (.list (xs.map enc)) := sh_list fun x hx => by
  obtain ⟨y, _, rfl⟩ := List.mem_map.mp hx
  exact h y
theorem sh_nil : Sh 1 (.list []) := sh_list fun x hx => by cases hx
theorem eqv_nil {ds : List PyData} : PyData.eqv (.list ds) (.list []) = ds.isEmpty := by
  cases ds <;> rfl
theorem eqv_int (i j : Int) : PyData.eqv (.int i) (.int j) = (i == j) := rfl
theorem eqv_encT : ∀ (ns ms : List Int), PyData.eqv (encT ns) (encT ms) = decide (ns = ms) := by
  intro ns
  induction ns with
  | nil => intro ms; cases ms <;> simp [encT, PyData.eqv, PyData.eqvAll]
  | cons n ns ih =>
    intro ms
    cases ms with
    | nil => simp [encT, PyData.eqv, PyData.eqvAll]
    | cons m ms =>
      have h := ih ms
      simp only [encT, PyData.eqv] at h ⊢
      simp only [List.map_cons, PyData.eqvAll, h, eqv_int, dec_beq]
      by_cases e1 : n = m <;> by_cases e2 : ns = ms <;> simp [e1, e2]
theorem inD_ints (i : Int) (ns : List Int) : inD (.int i) (ns.map PyData.int) = decide (i ∈ ns) := by
  unfold inD
  induction ns with
  | nil => rfl
  | cons n ns ih =>
    rw [List.map_cons, List.any_cons, ih, eqv_int, dec_beq]
    by_cases h : n = i
    · subst h; simp
    · have h' : ¬ i = n := fun z => h z.symm
      simp [h, h']

section
variable {P : Program} {w : World} {K : PySem.W.Frag} {mg : Str → Option Value} {base : Heap} {fs : Nat → Addr} {fds : Nat → FuncData}
abbrev Ok (P : Program) (w : World) (K : PySem.W.Frag) (mg : Str → Option Value) (base : Heap) (k : Nat) (f : Addr) (fd : FuncData) (ps : List Str) (Φ : List PyData → PyData → Prop) : Prop := FnOk P w K mg base CX0 k f fd ps (spD Φ)
theorem _root_.L2.Room.u {j : Nat} {A : Around} (r : Room j A) : A.units + 65 < cLine := by have := r.un; omega
theorem _root_.L2.Room.u4 {j : Nat} {A : Around} (r : Room j A) : A.units + 64 < cLine := by have := r.un; omega
theorem _root_.L2.Room.u0 {j : Nat} {A : Around} (r : Room j A) : A.units < cLine := by have := r.un; omega

def Φ_is_whole : List PyData → PyData → Prop := fun ds d => ∃ i, ds = [.int i] ∧ d = .bool true
theorem ok_is_whole (T : Txt K mg fs fds) : Ok P w K mg base 1 (fs 6) (fds 6) P_is_whole Φ_is_whole := by
  refine fn_d T.is_whole.F sc_is_whole (fun _ _ ⟨i, e, _⟩ => by rw [e]; rfl) fun cdv A outer s H E ds d hr ⟨i, e1, e2⟩ => ?_
  subst e1 e2
  exact dss_one (ds_ret (en_and (en_isi (U := "int") (k := true) (ec_a (ec_var 0)) (.int i) (by decide +kernel) T.B.isinstance T.B.int) (fun _ => en_one (en_not (en_isi (U := "bool") (k := false) (ec_a (ec_var 0)) (.int i) (by decide +kernel) T.B.isinstance T.B.bool)))) rfl)

def geO (i : Int) : Option Int → Bool
  | none => true
  | some l => decide (l ≤ i)
def leO (i : Int) : Option Int → Bool
  | none => true
  | some l => decide (i ≤ l)
def betw (i : Int) (lo hi : Option Int) : Bool := geO i lo && leO i hi
def Φ_is_between : List PyData → PyData → Prop := fun ds d => ∃ i lo hi, ds = [.int i, encO lo, encO hi] ∧ d = .bool (betw i lo hi)
theorem ok_is_between (T : Txt K mg fs fds) : Ok P w K mg base 2 (fs 7) (fds 7) P_is_between Φ_is_between := by
  refine fn_d T.is_between.F sc_is_between (fun _ _ ⟨i, lo, hi, e, _⟩ => by rw [e]; rfl) fun cdv A outer s H E ds d hr ⟨i, lo, hi, e1, e2⟩ => ?_
  subst e1 e2
  refine dss_seq (ds_if (et_not (et_val (en_call ((ok_is_whole T).mono (by decide)) hr T.is_whole.g T.is_whole.F.kp T.is_whole.b (ecs_cons ((ec_var 0)) ecs_nil) (⟨i, rfl, rfl⟩)))) (fun h => nomatch h) (fun _ => dss_nil ?_))
  refine dss_one (ds_ret (d := .bool (betw i lo hi)) ?_ rfl)
  refine en_and (k := geO i lo) (l := leO i hi) ?_ fun _ => en_one ?_
  · cases lo with
    | none => exact en_is (en_or (l := true) (en_isN (ec_a (ec_var 1))) (fun h => by cases h)) rfl
    | some l => exact en_is (en_or (en_isN (ec_a (ec_var 1))) (fun _ => en_one (en_ge (ec_a (ec_var 0)) (ec_a (ec_var 1))))) rfl
  · cases hi with
    | none => exact en_is (en_or (l := true) (en_isN (ec_a (ec_var 2))) (fun h => by cases h)) rfl
    | some l => exact en_is (en_or (en_isN (ec_a (ec_var 2))) (fun _ => en_one (en_le (ec_a (ec_var 0)) (ec_a (ec_var 2))))) rfl

def Φ_is_road : List PyData → PyData → Prop := fun ds d => ∃ n r, ds = [.int n, encR r] ∧ RoadOk n r ∧ d = .bool true
theorem ok_is_road (T : Txt K mg fs fds) : Ok P w K mg base 3 (fs 8) (fds 8) P_is_road Φ_is_road := by
  refine fn_d T.is_road.F sc_is_road (fun _ _ ⟨i, r, e, _⟩ => by rw [e]; rfl) fun cdv A outer s H E ds d hr ⟨n, r, e1, hok, e2⟩ => ?_
  subst e1 e2
  have h1 : betw r.1 (some 0) (some (n - 1)) = true := by have := hok.lo; have := hok.lt; have := hok.hi; simp [betw, geO, leO]; omega
  have h2 : betw r.2.1 (some (r.1 + 1)) (some (n - 1)) = true := by have := hok.lo; have := hok.lt; have := hok.hi; simp [betw, geO, leO]; omega
  have h3 : betw r.2.2 (some 1) none = true := by have := hok.m1; simp [betw, geO, leO]; omega
  refine dss_seq (ds_if (et_w (ew_or (et_not (et_val (en_isi (U := "tuple") (k := true) (ec_a (ec_var 1)) (.tuple _) (by decide +kernel) T.B.isinstance T.B.tuple))) fun _ =>
    ew_or (et_neI (en_a (en_callB (call_len_seq) (cl_lenT) T.B.len (eas_cons ((ec_a (ec_var 1))) eas_nil))) (en_a en_int)) fun _ =>
    ew_or1 (et_not (et_val (en_call ((ok_is_between T).mono (by decide)) hr T.is_between.g T.is_between.F.kp T.is_between.b (ecs_cons (ec_ixT (ec_var 1) (en_a en_int) rfl) (ecs_cons (en_c en_int) (ecs_cons (en_c (en_sub (ec_a (ec_var 0)) (en_a en_int))) ecs_nil))) (⟨r.1, some 0, some (n - 1), rfl, rfl⟩)))))) (fun h => ?_) (fun _ => dss_nil ?_))
  · rw [h1] at h; simp at h
  · refine dss_one (ds_ret (en_and (en_is (en_call ((ok_is_between T).mono (by decide)) hr T.is_between.g T.is_between.F.kp T.is_between.b (ecs_cons (ec_ixT (ec_var 1) (en_a en_int) rfl) (ecs_cons (en_c (en_add (en_a (en_ixT (ec_var 1) (en_a en_int) rfl)) (en_a en_int))) (ecs_cons (en_c (en_sub (ec_a (ec_var 0)) (en_a en_int))) ecs_nil))) (⟨r.2.1, some (r.1 + 1), some (n - 1), rfl, rfl⟩)) rfl) fun _ =>
      en_one (en_call ((ok_is_between T).mono (by decide)) hr T.is_between.g T.is_between.F.kp T.is_between.b (ecs_cons (ec_ixT (ec_var 1) (en_a en_int) rfl) (ecs_cons (en_c en_int) (ecs_cons (en_c en_none) ecs_nil))) (⟨r.2.2, some 1, none, rfl, rfl⟩))) ?_)
    rw [h2, h3]; rfl
end
end KR
namespace KR
open PySem L2
/-! ### small things about the data -/
theorem at_map {α : Type} {enc : α → PyData} {xs : List α} {i : Int} (d0 : α) (h0 : 0 ≤ i) (h1 : i < xs.length) : atI (xs.map enc) i = some (enc (xs.getD i.toNat d0)) := by
  obtain ⟨j, rfl⟩ := Int.eq_ofNat_of_zero_le h0
  have hj : j < xs.length := by omega
  refine atI_nat ?_
  rw [List.getElem?_map, List.getElem?_eq_getElem hj, Int.toNat_natCast, List.getD_eq_getElem?_getD, List.getElem?_eq_getElem hj]
  rfl
theorem at_get {α : Type} {enc : α → PyData} {xs : List α} {i : Int} (h0 : 0 ≤ i) (h1 : i.toNat < xs.length) : atI (xs.map enc) i = some (enc (xs[i.toNat])) := by
  rw [at_map xs[i.toNat] h0 (by omega), List.getD_eq_getElem?_getD, List.getElem?_eq_getElem h1]
  rfl
theorem zipD_map {α β : Type} {ea : α → PyData} {eb : β → PyData} : ∀ (xs : List α) (ys : List β), zipD (xs.map ea) (ys.map eb) = (xs.zip ys).map fun p => PyData.tuple [ea p.1, eb p.2]
  | [], _ => by simp [zipD]
  | _ :: _, [] => by simp [zipD]
  | x :: xs, y :: ys => by
    have h := zipD_map (ea := ea) (eb := eb) xs ys
    unfold zipD at h ⊢
    simp only [List.map_cons, List.zipWith_cons_cons, List.zip_cons_cons, h]
theorem enumD_map {α : Type} {ea : α → PyData} (xs : List α) : enumD (xs.map ea) = (xs.zipIdx).map fun p => PyData.tuple [.int (p.2 : Int), ea p.1] := by
  unfold enumD
  refine List.ext_getElem? fun i => ?_
  rw [List.getElem?_mapIdx, List.getElem?_map, List.getElem?_map, List.getElem?_zipIdx]
  cases xs[i]? <;> simp
theorem filter_none {α : Type} {c : α → Bool} {xs : List α} (h : ∀ x ∈ xs, c x = false) : xs.filter c = [] := by
  rw [List.filter_eq_nil_iff]
  intro x hx
  rw [h x hx]
  decide
theorem mem_rgI {lo hi x : Int} : x ∈ rgI lo hi ↔ lo ≤ x ∧ x < hi := by
  unfold rgI
  rw [List.mem_map]
  constructor
  · rintro ⟨i, hi', rfl⟩
    have := List.mem_range.mp hi'
    omega
  · rintro ⟨h1, h2⟩
    exact ⟨(x - lo).toNat, List.mem_range.mpr (by omega), by omega⟩
theorem geI2 (a b c d : Int) : geI [a, b] [c, d] = if a = c then (if b = d then true else decide (d ≤ b)) else decide (c ≤ a) := by
  unfold geI
  show Ob.lexAt _ _ _ 0 2 = _
  rw [Ob.lexAt_succ, Ob.lexAt_succ, Ob.lexAt_zero]
  simp
section
variable {X : Cx} {ρ : List Ent} {a b : Expr} {p pos tpos : Pos} {elts : List Expr} {kk : Nat} {α β : Type} {ea : α → PyData} {eb : β → PyData} {xs : List α} {ys : List β}
theorem ei_is {tg : Expr} {ds es : List PyData} (h : EI X tg ρ a ds) (e : ds = es) : EI X tg ρ a es := e ▸ h
theorem ei_zipM (h : EC X ρ a (.list (xs.map ea))) (h' : EC X ρ b (.list (ys.map eb))) (hm : X.mg "zip" = none) (hg : Gl X "zip" := by rfl) (s1 : starEach [a, b] X.env = (false, eval a X.env) :: starEach [b] X.env := by rfl) (s2 : starEach [b] X.env = (false, eval b X.env) :: starEach [] X.env := by rfl)
    (s3 : (backTo pos (starEach [b] X.env)).any (·.1) = false := by rfl) : EI X (.Tuple elts kk tpos) ρ (.Call (.Name "zip" p) [a, b] [] pos) ((xs.zip ys).map fun q => PyData.tuple [ea q.1, eb q.2]) := ei_is (ei_zip h h' hm hg s1 s2 s3) (zipD_map xs ys)
theorem ei_enumM (h : EC X ρ a (.list (xs.map ea))) (hm : X.mg "enumerate" = none) (hg : Gl X "enumerate" := by rfl) (s1 : starEach [a] X.env = (false, eval a X.env) :: starEach [] X.env := by rfl) (s2 : starEach [a] X.env = [(false, eval a X.env)] := by rfl) :
    EI X (.Tuple elts kk tpos) ρ (.Call (.Name "enumerate" p) [a] [] pos) ((xs.zipIdx).map fun q => PyData.tuple [.int (q.2 : Int), ea q.1]) := ei_is (ei_enum h hm hg s1 s2) (enumD_map xs)
end

section
theorem ets_is {X : Cx} {ρ : List Ent} {e : Expr} {b b' : Bool} (h : ET X ρ e b) (q : b = b') : ETs X ρ [e] b' := ets_one (q ▸ h)
variable {P : Program} {w : World} {K : PySem.W.Frag} {mg : Str → Option Value} {base : Heap} {fs : Nat → Addr} {fds : Nat → FuncData}
/-! ### is_net, check_net -/
def Φ_is_net : List PyData → PyData → Prop := fun ds d => ∃ N, ds = [encN N] ∧ NetOk N ∧ d = .bool true
theorem ok_is_net (T : Txt K mg fs fds) : Ok P w K mg base 4 (fs 9) (fds 9) P_is_net Φ_is_net := by
  refine fn_d T.is_net.F sc_is_net (fun _ _ ⟨N, e, _⟩ => by rw [e]; rfl) fun cdv A outer s H E ds d hr ⟨N, e1, hok, e2⟩ => ?_
  subst e1 e2
  have h1 : betw N.n (some 1) none = true := by have := hok.n1; simp [betw, geO, leO]; omega
  refine dss_seq (ds_if (et_w (ew_or (et_not (et_val (en_isi (U := "tuple") (k := true) (ec_a (ec_var 0)) (.tuple _) (by decide +kernel) T.B.isinstance T.B.tuple))) fun _ =>
    ew_or (et_neI (en_a (en_callB (call_len_seq) (cl_lenT) T.B.len (eas_cons ((ec_a (ec_var 0))) eas_nil))) (en_a en_int)) fun _ =>
    ew_or1 (et_not (et_val (en_call ((ok_is_between T).mono (by decide)) hr T.is_between.g T.is_between.F.kp T.is_between.b (ecs_cons (ec_ixT (ec_var 0) (en_a en_int) rfl) (ecs_cons (en_c en_int) (ecs_cons (en_c en_none) ecs_nil))) (⟨N.n, some 1, none, rfl, rfl⟩)))))) (fun h => ?_) (fun _ => dss_nil ?_))
  · rw [h1] at h; simp at h
  refine dss_seq (ds_tgt (ec_var 0) (at_tup (ats_cons (at_name 1 sc_is_net.nd) (ats_cons (at_name 2 sc_is_net.nd) ats_nil))) ?_)
  refine dss_seq (ds_if (et_w (ew_or (et_not (et_val (en_isi (U := "list") (k := true) (ec_a (ec_var 2)) (.list _) (by decide +kernel) T.B.isinstance T.B.list))) fun _ =>
    ew_or1 (et_ne hr.u4 (en_a (en_lc (own := [("road", 4)]) (xs := N.rs) (enc := encR) (c := fun _ => false) (f := encR) (ei_list (ec_var 2)) (fun r hm =>
      ⟨_, _, fun s_ H_ C_ cl_ fp_ => at_name 4 sc_is_net.nd, by decide, fun s_ H_ C_ cl_ fp_ => ets_is (et_not (et_val (en_call ((ok_is_road T).mono (by decide)) hr T.is_road.g T.is_road.F.kp T.is_road.b (ecs_cons ((ec_var 1)) (ecs_cons ((ec_var 4)) ecs_nil)) (⟨N.n, r, rfl, hok.road r hm, rfl⟩)))) rfl, fun _ => fun s_ H_ C_ cl_ fp_ => (ec_var 4)⟩)
      (blkOk_by (N := N_is_net) (sc := defScope st_is_net) (by decide +kernel)) sc_is_net.nd (by have := hok.few; omega))) (en_a (en_lst ecs_nil)) (sh_list (n := 1) fun x hx => ?_).ok sh_nil.ok))) (fun h => ?_) (fun _ => dss_nil ?_))
  · rw [filter_none fun _ _ => rfl] at hx; cases hx
  · rw [filter_none fun _ _ => rfl] at h; cases h
  refine dss_one (ds_ret (en_eq hr.u4 (en_a (en_lc (own := [("at", 3)]) (xs := rgI 1 N.rs.length) (enc := PyData.int) (c := fun _ => false) (f := PyData.int) (ei_range2 (en_a en_int) (en_a (en_is (en_callB (call_len_seq) (cl_len) T.B.len (eas_cons ((ec_a (ec_var 2))) eas_nil)) (congrArg (fun z : Nat => PyData.int (z : Int)) (List.length_map _)))) T.B.range (by have := hok.few; omega)) (fun i hm => ?_)
      (blkOk_by (N := N_is_net) (sc := defScope st_is_net) (by decide +kernel)) sc_is_net.nd (by rw [rgI_len]; have := hok.few; omega))) (en_a (en_lst ecs_nil)) (sh_list (n := 0) fun x hx => ?_).ok sh_nil.ok) ?_)
  · obtain ⟨l1, l2⟩ := mem_rgI.mp hm
    have j1 : (i - 1).toNat < N.rs.length := by omega
    have j2 : i.toNat < N.rs.length := by omega
    have lx := List.pairwise_iff_getElem.mp hok.asc _ _ j1 j2 (by omega)
    have a1 := at_get (enc := encR) (i := i - 1) (by omega) j1
    have a2 := at_get (enc := encR) (i := i) (by omega) j2
    refine ⟨_, _, fun s_ H_ C_ cl_ fp_ => at_name 3 sc_is_net.nd, by decide, fun s_ H_ C_ cl_ fp_ => ets_is (et_geT (ns := [(N.rs[(i - 1).toNat]).1, (N.rs[(i - 1).toNat]).2.1]) (ms := [(N.rs[i.toNat]).1, (N.rs[i.toNat]).2.1]) hr.u0
      (en_a (en_is (en_slT (ec_ixL (ec_var 2) (en_a (en_sub (ec_a (ec_var 3)) (en_a en_int))) a1) eo_none (eo_some (en_a en_int)) (fun z => absurd (show HT.sIx 3 3 (some 2) = 3 from z.2) (by decide))) rfl))
      (en_a (en_is (en_slT (ec_ixL (ec_var 2) (ec_a (ec_var 3)) a2) eo_none (eo_some (en_a en_int)) (fun z => absurd (show HT.sIx 3 3 (some 2) = 3 from z.2) (by decide))) rfl))) ?_, fun _ => fun s_ H_ C_ cl_ fp_ => (ec_var 3)⟩
    · rw [geI2]
      unfold lexR at lx
      rcases lx with h | ⟨h, h'⟩
      · rw [if_neg (by omega)]; exact decide_eq_false (by omega)
      · rw [if_pos h, if_neg (by omega)]; exact decide_eq_false (by omega)
  · rw [filter_none fun _ _ => rfl] at hx; cases hx
  · rw [filter_none fun _ _ => rfl]; rfl
def Φ_check_net : List PyData → PyData → Prop := fun ds d => ∃ N, ds = [encN N] ∧ NetOk N ∧ d = .none
theorem ok_check_net (T : Txt K mg fs fds) : Ok P w K mg base 5 (fs 10) (fds 10) P_check_net Φ_check_net := by
  refine fn_d T.check_net.F sc_check_net (fun _ _ ⟨N, e, _⟩ => by rw [e]; rfl) fun cdv A outer s H E ds d hr ⟨N, e1, hok, e2⟩ => ?_
  subst e1 e2
  exact dss_one (ds_if (et_not (et_val (en_call ((ok_is_net T).mono (by decide)) hr T.is_net.g T.is_net.F.kp T.is_net.b (ecs_cons ((ec_var 0)) ecs_nil) (⟨N, rfl, hok, rfl⟩)))) (fun h => nomatch h) (fun _ => dss_nil rfl))
/-! ### is_standing, check_standing -/
def Φ_is_standing : List PyData → PyData → Prop := fun ds d => ∃ N s, ds = [encN N, dI s] ∧ NetOk N ∧ StOk N s ∧ d = .bool true
theorem ok_is_standing (T : Txt K mg fs fds) : Ok P w K mg base 3 (fs 11) (fds 11) P_is_standing Φ_is_standing := by
  refine fn_d T.is_standing.F sc_is_standing (fun _ _ ⟨N, s, e, _⟩ => by rw [e]; rfl) fun cdv A outer s0 H E ds d hr ⟨N, s, e1, hok, sok, e2⟩ => ?_
  subst e1 e2
  refine dss_seq (ds_if (et_w (ew_or (et_not (et_val (en_isi (U := "list") (k := true) (ec_a (ec_var 1)) (.list _) (by decide +kernel) T.B.isinstance T.B.list))) fun _ =>
    ew_or1 (et_neI (en_a (en_callB (call_len_seq) (cl_len) T.B.len (eas_cons ((ec_a (ec_var 1))) eas_nil))) (en_a (en_callB (call_len_seq) (cl_len) T.B.len (eas_cons (ec_a (ec_ixT (ec_var 0) (en_a en_int) rfl)) eas_nil)))))) (fun h => ?_) (fun _ => dss_nil ?_))
  · rw [List.length_map, List.length_map, sok.len] at h; simp at h
  refine dss_one (ds_ret (en_eq hr.u4 (en_a (en_lc (own := [("item", 2), ("road", 3)]) (c := fun _ => false) (f := fun p : Int × Road => PyData.int p.1) (ei_zipM (ec_var 1) (ec_ixT (ec_var 0) (en_a en_int) rfl) T.B.zip) (fun p hm => ?_)
      (blkOk_by (N := N_is_standing) (sc := defScope st_is_standing) (by decide +kernel)) sc_is_standing.nd (by rw [List.length_zip]; have := hok.few; omega))) (en_a (en_lst ecs_nil)) (sh_list (n := 0) fun x hx => ?_).ok sh_nil.ok) ?_)
  · have b := sok.bd p hm
    have h1 : betw p.1 (some 0) (some p.2.2.2) = true := by simp [betw, geO, leO]; omega
    exact ⟨_, _, fun s_ H_ C_ cl_ fp_ => (at_tup (ats_cons (at_name 2 sc_is_standing.nd) (ats_cons (at_name 3 sc_is_standing.nd) ats_nil))), by decide, fun s_ H_ C_ cl_ fp_ => ets_is (et_not (et_val (en_call ((ok_is_between T).mono (by decide)) hr T.is_between.g T.is_between.F.kp T.is_between.b (ecs_cons ((ec_var 2)) (ecs_cons (en_c en_int) (ecs_cons (ec_ixT (ec_var 3) (en_a en_int) rfl) ecs_nil))) (⟨p.1, some 0, some p.2.2.2, rfl, rfl⟩)))) (by rw [h1]; rfl), fun _ => fun s_ H_ C_ cl_ fp_ => (ec_var 2)⟩
  · rw [filter_none fun _ _ => rfl] at hx; cases hx
  · rw [filter_none fun _ _ => rfl]; rfl
def Φ_check_standing : List PyData → PyData → Prop := fun ds d => ∃ N s, ds = [encN N, dI s] ∧ NetOk N ∧ StOk N s ∧ d = .none
theorem ok_check_standing (T : Txt K mg fs fds) : Ok P w K mg base 6 (fs 12) (fds 12) P_check_standing Φ_check_standing := by
  refine fn_d T.check_standing.F sc_check_standing (fun _ _ ⟨N, s, e, _⟩ => by rw [e]; rfl) fun cdv A outer s0 H E ds d hr ⟨N, s, e1, hok, sok, e2⟩ => ?_
  subst e1 e2
  refine dss_seq (ds_expr (en_a (en_call ((ok_check_net T).mono (by decide)) hr T.check_net.g T.check_net.F.kp T.check_net.b (ecs_cons ((ec_var 0)) ecs_nil) (⟨N, rfl, hok, rfl⟩))) ?_)
  exact dss_one (ds_if (et_not (et_val (en_call ((ok_is_standing T).mono (by decide)) hr T.is_standing.g T.is_standing.F.kp T.is_standing.b (ecs_cons ((ec_var 0)) (ecs_cons ((ec_var 1)) ecs_nil)) (⟨N, s, rfl, hok, sok, rfl⟩)))) (fun h => nomatch h) (fun _ => dss_nil rfl))
/-! ### is_house, are_houses, check_houses -/
def Φ_is_house : List PyData → PyData → Prop := fun ds d => ∃ N h, ds = [encN N, .int h] ∧ d = .bool (betw h (some 0) (some (N.n - 1)))
theorem ok_is_house (T : Txt K mg fs fds) : Ok P w K mg base 3 (fs 13) (fds 13) P_is_house Φ_is_house := by
  refine fn_d T.is_house.F sc_is_house (fun _ _ ⟨N, s, e, _⟩ => by rw [e]; rfl) fun cdv A outer s0 H E ds d hr ⟨N, h, e1, e2⟩ => ?_
  subst e1 e2
  exact dss_one (ds_ret (en_call ((ok_is_between T).mono (by decide)) hr T.is_between.g T.is_between.F.kp T.is_between.b (ecs_cons ((ec_var 1)) (ecs_cons (en_c en_int) (ecs_cons (en_c (en_sub (en_a (en_ixT (ec_var 0) (en_a en_int) rfl)) (en_a en_int))) ecs_nil))) (⟨h, some 0, some (N.n - 1), rfl, rfl⟩)) rfl)
def Φ_are_houses : List PyData → PyData → Prop := fun ds d => ∃ N hs, ds = [encN N, dI hs] ∧ HsOk N hs ∧ N.n ≤ 12 ∧ d = .bool true
theorem len_strict : ∀ {hs : List Int} {lo hi : Int}, hs.Pairwise (· < ·) → (∀ h ∈ hs, lo ≤ h ∧ h < hi) → hs.length ≤ (hi - lo).toNat
  | [], _, _, _, _ => Nat.zero_le _
  | h :: hs, lo, hi, p, b => by
    have p' := List.pairwise_cons.mp p
    have bh := b h List.mem_cons_self
    have ih := len_strict (hs := hs) (lo := lo + 1) (hi := hi) p'.2 fun z hz => by
      have := p'.1 z hz
      have := b z (List.mem_cons_of_mem _ hz)
      omega
    rw [List.length_cons]
    omega
theorem HsOk.few {N : Net} {hs : List Int} (h : HsOk N hs) (n12 : N.n ≤ 12) : hs.length ≤ 12 := by
  have := len_strict (lo := 0) (hi := N.n) h.asc h.bd
  omega
theorem ok_are_houses (T : Txt K mg fs fds) : Ok P w K mg base 4 (fs 14) (fds 14) P_are_houses Φ_are_houses := by
  refine fn_d T.are_houses.F sc_are_houses (fun _ _ ⟨N, s, e, _⟩ => by rw [e]; rfl) fun cdv A outer s0 H E ds d hr ⟨N, hs, e1, hok, n12, e2⟩ => ?_
  subst e1 e2
  have few := hok.few n12
  refine dss_seq (ds_if (et_w (ew_or (et_not (et_val (en_isi (U := "list") (k := true) (ec_a (ec_var 1)) (.list _) (by decide +kernel) T.B.isinstance T.B.list))) fun _ =>
    ew_or1 (et_ne hr.u4 (en_a (en_lc (own := [("item", 3)]) (xs := hs) (enc := PyData.int) (c := fun _ => false) (f := PyData.int) (ei_list (ec_var 1)) (fun h hm => ?_)
      (blkOk_by (N := N_are_houses) (sc := defScope st_are_houses) (by decide +kernel)) sc_are_houses.nd (by omega))) (en_a (en_lst ecs_nil)) (sh_list (n := 0) fun x hx => ?_).ok sh_nil.ok))) (fun h => ?_) (fun _ => dss_nil ?_))
  · have b := hok.bd h hm
    have h1 : betw h (some 0) (some (N.n - 1)) = true := by simp [betw, geO, leO]; omega
    exact ⟨_, _, fun s_ H_ C_ cl_ fp_ => at_name 3 sc_are_houses.nd, by decide, fun s_ H_ C_ cl_ fp_ => ets_is (et_not (et_val (en_call ((ok_is_house T).mono (by decide)) hr T.is_house.g T.is_house.F.kp T.is_house.b (ecs_cons ((ec_var 0)) (ecs_cons ((ec_var 3)) ecs_nil)) (⟨N, h, rfl, rfl⟩)))) (by rw [h1]; rfl), fun _ => fun s_ H_ C_ cl_ fp_ => (ec_var 3)⟩
  · rw [filter_none fun _ _ => rfl] at hx; cases hx
  · rw [filter_none fun _ _ => rfl] at h; cases h
  refine dss_one (ds_ret (en_eq hr.u4 (en_a (en_lc (own := [("at", 2)]) (xs := rgI 1 hs.length) (enc := PyData.int) (c := fun _ => false) (f := PyData.int) (ei_range2 (en_a en_int) (en_a (en_is (en_callB (call_len_seq) (cl_len) T.B.len (eas_cons ((ec_a (ec_var 1))) eas_nil)) (congrArg (fun z : Nat => PyData.int (z : Int)) (List.length_map _)))) T.B.range (by omega)) (fun i hm => ?_)
      (blkOk_by (N := N_are_houses) (sc := defScope st_are_houses) (by decide +kernel)) sc_are_houses.nd (by rw [rgI_len]; omega))) (en_a (en_lst ecs_nil)) (sh_list (n := 0) fun x hx => ?_).ok sh_nil.ok) ?_)
  · obtain ⟨l1, l2⟩ := mem_rgI.mp hm
    have j1 : (i - 1).toNat < hs.length := by omega
    have j2 : i.toNat < hs.length := by omega
    have lx := List.pairwise_iff_getElem.mp hok.asc _ _ j1 j2 (by omega)
    have a1 := at_get (enc := PyData.int) (i := i - 1) (by omega) j1
    have a2 := at_get (enc := PyData.int) (i := i) (by omega) j2
    refine ⟨_, _, fun s_ H_ C_ cl_ fp_ => at_name 2 sc_are_houses.nd, by decide, fun s_ H_ C_ cl_ fp_ => ets_is (et_ge (ea_ixL (ec_a (ec_var 1)) (en_a (en_sub (ec_a (ec_var 2)) (en_a en_int))) a1) (ea_ixL (ec_a (ec_var 1)) (ec_a (ec_var 2)) a2)) ?_, fun _ => fun s_ H_ C_ cl_ fp_ => (ec_var 2)⟩
    exact decide_eq_false (by show ¬ hs[i.toNat] ≤ hs[(i - 1).toNat]; omega)
  · rw [filter_none fun _ _ => rfl] at hx; cases hx
  · rw [filter_none fun _ _ => rfl]; rfl
def Φ_check_houses : List PyData → PyData → Prop := fun ds d => ∃ N hs, ds = [encN N, dI hs] ∧ HsOk N hs ∧ N.n ≤ 12 ∧ d = .none
theorem ok_check_houses (T : Txt K mg fs fds) : Ok P w K mg base 5 (fs 15) (fds 15) P_check_houses Φ_check_houses := by
  refine fn_d T.check_houses.F sc_check_houses (fun _ _ ⟨N, s, e, _⟩ => by rw [e]; rfl) fun cdv A outer s0 H E ds d hr ⟨N, hs, e1, hok, n12, e2⟩ => ?_
  subst e1 e2
  exact dss_one (ds_if (et_not (et_val (en_call ((ok_are_houses T).mono (by decide)) hr T.are_houses.g T.are_houses.F.kp T.are_houses.b (ecs_cons ((ec_var 0)) (ecs_cons ((ec_var 1)) ecs_nil)) (⟨N, hs, rfl, hok, n12, rfl⟩)))) (fun h => nomatch h) (fun _ => dss_nil rfl))
end
end KR
namespace KR
open PySem L2
/-! ### what the words of the net are -/
def nb (N : Net) (h : Int) : List Int := srt ((N.rs.filter fun r => decide (r.2.1 = h)).map (fun r => r.1) ++ (N.rs.filter fun r => decide (r.1 = h)).map (fun r => r.2.1))
def dirs (N : Net) : List (List Int) := srtT (N.rs.map (fun r => [r.1, r.2.1]) ++ N.rs.map (fun r => [r.2.1, r.1]))
/-- the road of two houses -/
def onR (u v : Int) (r : Road) : Prop := (r.1 = u ∧ r.2.1 = v) ∨ (r.1 = v ∧ r.2.1 = u)
instance (u v : Int) (r : Road) : Decidable (onR u v r) := inferInstanceAs (Decidable (_ ∨ _))
def Joined (N : Net) (u v : Int) : Prop := ∃ r ∈ N.rs, onR u v r
def key (N : Net) (s : List Int) (u v : Int) : Int :=
  match (s.zip N.rs).find? (fun p => decide (onR u v p.2)) with
  | some p => if u < v then p.1 else p.2.2.2 - p.1
  | none => 0
def gI (xs : List Int) (i : Int) : Int := xs.getD i.toNat 0
def behind (N : Net) (s x : List Int) : List Int := (s.zip N.rs).map fun p => p.1 + gI x p.2.1 - gI x p.2.2.1
theorem Joined.at {N : Net} {u v : Int} (h : Joined N u v) : ∃ (j : Nat) (r : Road), N.rs[j]? = some r ∧ onR u v r := by
  obtain ⟨r, hr, o⟩ := h
  obtain ⟨j, hj⟩ := List.getElem?_of_mem hr
  exact ⟨j, r, hj, o⟩
theorem lexR_ne {a b : Road} {u v : Int} {n : Int} (ha : RoadOk n a) (hb : RoadOk n b) (h : lexR a b) : ¬ (onR u v a ∧ onR u v b) := by
  intro ⟨h1, h2⟩
  have := ha.lt
  have := hb.lt
  unfold lexR at h
  unfold onR at h1 h2
  omega
theorem NetOk.uniq {N : Net} (ok : NetOk N) {u v : Int} {i j : Nat} {a b : Road} (hi : N.rs[i]? = some a) (hj : N.rs[j]? = some b) (oa : onR u v a) (ob : onR u v b) : i = j := by
  obtain ⟨li, ei⟩ := List.getElem?_eq_some_iff.mp hi
  obtain ⟨lj, ej⟩ := List.getElem?_eq_some_iff.mp hj
  have p := List.pairwise_iff_getElem.mp ok.asc
  have ka := ok.road a (List.mem_of_getElem? hi)
  have kb := ok.road b (List.mem_of_getElem? hj)
  rcases Nat.lt_trichotomy i j with h | h | h
  · have l := p i j li lj h
    rw [ei, ej] at l
    exact absurd ⟨oa, ob⟩ (lexR_ne ka kb l)
  · exact h
  · have l := p j i lj li h
    rw [ei, ej] at l
    exact absurd ⟨ob, oa⟩ (lexR_ne kb ka l)
theorem find_at {α : Type} {q : α → Bool} : ∀ {l : List α} {j : Nat} {x : α}, l[j]? = some x → q x = true → (∀ i y, i < j → l[i]? = some y → q y = false) → l.find? q = some x
  | [], _, _, h, _, _ => by simp at h
  | y :: l, 0, x, h, hx, _ => by
    have e : y = x := Option.some.inj h
    subst e
    rw [List.find?_cons, hx]
  | y :: l, j + 1, x, h, hx, hn => by
    rw [List.find?_cons, hn 0 y (Nat.succ_pos j) rfl]
    exact find_at (l := l) (j := j) (by simpa using h) hx fun i z hi hz => hn (i + 1) z (by omega) (by simpa using hz)
theorem key_at {N : Net} (ok : NetOk N) {s : List Int} (len : s.length = N.rs.length) {u v : Int} {j : Nat} {r : Road} (hj : N.rs[j]? = some r) (o : onR u v r) : key N s u v = if u < v then s.getD j 0 else r.2.2 - s.getD j 0 := by
  have lj := (List.getElem?_eq_some_iff.mp hj).1
  have es : s[j]? = some (s.getD j 0) := by
    rw [List.getD_eq_getElem?_getD, List.getElem?_eq_getElem (by omega)]; rfl
  have ez : (s.zip N.rs)[j]? = some (s.getD j 0, r) := by
    rw [List.getElem?_zip_eq_some]; exact ⟨es, hj⟩
  unfold key
  rw [find_at ez (decide_eq_true o) fun i y hi hy => ?_]
  refine decide_eq_false fun o' => ?_
  have h2 := (List.getElem?_zip_eq_some.mp hy).2
  have := ok.uniq h2 hj o' o
  omega
theorem len_dirs {N : Net} (ok : NetOk N) : (N.rs.map (fun r => [r.1, r.2.1]) ++ N.rs.map (fun r => [r.2.1, r.1])).length < 64 := by
  rw [List.length_append, List.length_map, List.length_map]
  have := ok.few
  omega
theorem bd2 {a b : Int} (h1 : 0 ≤ a ∧ a < 100) (h2 : 0 ≤ b ∧ b < 100) : TS.Bd 100 [a, b] := fun m hm => by
  rcases List.mem_cons.mp hm with e | hm
  · rw [e]; exact h1
  · rw [List.mem_singleton.mp hm]; exact h2
theorem dirs_bd {N : Net} (ok : NetOk N) : ∀ n ∈ N.rs.map (fun r => [r.1, r.2.1]) ++ N.rs.map (fun r => [r.2.1, r.1]), n.length = 2 ∧ TS.Bd 100 n := fun n hn => by
  rcases List.mem_append.mp hn with h | h
  · obtain ⟨r, hr, rfl⟩ := List.mem_map.mp h
    have k := ok.road r hr
    have := ok.n12; have := k.lo; have := k.lt; have := k.hi
    exact ⟨rfl, bd2 (by omega) (by omega)⟩
  · obtain ⟨r, hr, rfl⟩ := List.mem_map.mp h
    have k := ok.road r hr
    have := ok.n12; have := k.lo; have := k.lt; have := k.hi
    exact ⟨rfl, bd2 (by omega) (by omega)⟩
theorem filter_true {α : Type} (xs : List α) : xs.filter (fun _ => true) = xs := by simp
section
variable {P : Program} {w : World} {K : PySem.W.Frag} {mg : Str → Option Value} {base : Heap} {fs : Nat → Addr} {fds : Nat → FuncData}
def Φ_neighbours_of : List PyData → PyData → Prop := fun ds d => ∃ N h, ds = [encN N, .int h] ∧ NetOk N ∧ d = dI (nb N h)
theorem ok_neighbours_of (T : Txt K mg fs fds) : Ok P w K mg base 1 (fs 16) (fds 16) P_neighbours_of Φ_neighbours_of := by
  refine fn_d T.neighbours_of.F sc_neighbours_of (fun _ _ ⟨N, s, e, _⟩ => by rw [e]; rfl) fun cdv A outer s0 H E ds d hr ⟨N, h, e1, hok, e2⟩ => ?_
  subst e1 e2
  have few := hok.few
  refine dss_seq (ds_lc 2 (own := [("low", 3), ("high", 4), ("many", 5)]) (xs := N.rs) (enc := encR) (c := fun r => decide (r.2.1 = h)) (f := fun r => .int r.1) (ei_list (ec_ixT (ec_var 0) (en_a en_int) rfl))
    (fun r hm => ⟨_, _, fun s_ H_ C_ cl_ fp_ => (at_tup (ats_cons (at_name 3 sc_neighbours_of.nd) (ats_cons (at_name 4 sc_neighbours_of.nd) (ats_cons (at_name 5 sc_neighbours_of.nd) ats_nil)))), by decide, fun s_ H_ C_ cl_ fp_ => ets_one (et_eqI (ec_a (ec_var 4)) (ec_a (ec_var 1))), fun _ => fun s_ H_ C_ cl_ fp_ => (ec_var 3)⟩) ?_ (blkOk_by (N := N_neighbours_of) (sc := defScope st_neighbours_of) (by decide +kernel)) sc_neighbours_of.nd (by omega) (sw_true rfl rfl rfl (by decide +kernel)))
  refine dss_one (ds_ret (en_is (en_callB (cr_sortedI) (cl_sorted) T.B.sorted (eas_cons (en_a (en_is (en_cat (ec_var 2) (en_c (en_lc (own := [("low", 3), ("high", 4), ("many", 5)]) (xs := N.rs) (enc := encR) (c := fun r => decide (r.1 = h)) (f := fun r => .int r.2.1) (ei_list (ec_ixT (ec_var 0) (en_a en_int) rfl))
    (fun r hm => ⟨_, _, fun s_ H_ C_ cl_ fp_ => (at_tup (ats_cons (at_name 3 sc_neighbours_of.nd) (ats_cons (at_name 4 sc_neighbours_of.nd) (ats_cons (at_name 5 sc_neighbours_of.nd) ats_nil)))), by decide, fun s_ H_ C_ cl_ fp_ => ets_one (et_eqI (ec_a (ec_var 3)) (ec_a (ec_var 1))), fun _ => fun s_ H_ C_ cl_ fp_ => (ec_var 4)⟩) (blkOk_by (N := N_neighbours_of) (sc := defScope st_neighbours_of) (by decide +kernel)) sc_neighbours_of.nd (by omega))) ?_) ?_)) eas_nil)) rfl) rfl)
  · rw [List.length_map, List.length_map, sizeLine_eq]
    have := List.length_filter_le (fun r : Road => decide (r.2.1 = h)) N.rs
    have := List.length_filter_le (fun r : Road => decide (r.1 = h)) N.rs
    omega
  · rw [List.map_append, List.map_map, List.map_map]; rfl
def Φ_directions_of : List PyData → PyData → Prop := fun ds d => ∃ N, ds = [encN N] ∧ NetOk N ∧ d = .list ((dirs N).map encT)
theorem ok_directions_of (T : Txt K mg fs fds) : Ok P w K mg base 1 (fs 17) (fds 17) P_directions_of Φ_directions_of := by
  refine fn_d T.directions_of.F sc_directions_of (fun _ _ ⟨N, e, _⟩ => by rw [e]; rfl) fun cdv A outer s0 H E ds d hr ⟨N, e1, hok, e2⟩ => ?_
  subst e1 e2
  have few := hok.few
  refine dss_one (ds_ret (en_callBC (cr_sortT (by decide)) (cl_sortT (dlen := 2) (dirs_bd hok) (len_dirs hok)) T.B.sorted (ecs_cons (en_c (en_is (en_cat
    (en_c (en_lc (own := [("low", 1), ("high", 2), ("many", 3)]) (xs := N.rs) (enc := encR) (c := fun _ => true) (f := fun r => encT [r.1, r.2.1]) (ei_list (ec_ixT (ec_var 0) (en_a en_int) rfl)) (fun r hm => ⟨_, _, fun s_ H_ C_ cl_ fp_ => (at_tup (ats_cons (at_name 1 sc_directions_of.nd) (ats_cons (at_name 2 sc_directions_of.nd) (ats_cons (at_name 3 sc_directions_of.nd) ats_nil)))), by decide, fun s_ H_ C_ cl_ fp_ => ets_nil, fun _ => fun s_ H_ C_ cl_ fp_ => en_c (en_tup (ecs_cons ((ec_var 1)) (ecs_cons ((ec_var 2)) ecs_nil)))⟩)
      (blkOk_by (N := N_directions_of) (sc := defScope st_directions_of) (by decide +kernel)) sc_directions_of.nd (by omega)))
    (en_c (en_lc (own := [("low", 1), ("high", 2), ("many", 3)]) (xs := N.rs) (enc := encR) (c := fun _ => true) (f := fun r => encT [r.2.1, r.1]) (ei_list (ec_ixT (ec_var 0) (en_a en_int) rfl)) (fun r hm => ⟨_, _, fun s_ H_ C_ cl_ fp_ => (at_tup (ats_cons (at_name 1 sc_directions_of.nd) (ats_cons (at_name 2 sc_directions_of.nd) (ats_cons (at_name 3 sc_directions_of.nd) ats_nil)))), by decide, fun s_ H_ C_ cl_ fp_ => ets_nil, fun _ => fun s_ H_ C_ cl_ fp_ => en_c (en_tup (ecs_cons ((ec_var 2)) (ecs_cons ((ec_var 1)) ecs_nil)))⟩)
      (blkOk_by (N := N_directions_of) (sc := defScope st_directions_of) (by decide +kernel)) sc_directions_of.nd (by omega))) ?_) ?_)) ecs_nil)) rfl)
  · rw [filter_true, List.length_map, List.length_map, sizeLine_eq]; omega
  · rw [filter_true, List.map_append, List.map_map, List.map_map]; rfl
def Φ_road_at : List PyData → PyData → Prop := fun ds d => ∃ (N : Net) (u v : Int) (j : Nat) (r : Road), ds = [encN N, .int u, .int v] ∧ NetOk N ∧ N.rs[j]? = some r ∧ onR u v r ∧ d = .int (j : Int)
theorem ok_road_at (T : Txt K mg fs fds) : Ok P w K mg base 1 (fs 18) (fds 18) P_road_at Φ_road_at := by
  refine fn_d T.road_at.F sc_road_at (fun _ _ ⟨N, u, v, j, r, e, _⟩ => by rw [e]; rfl) fun cdv A outer s0 H E ds d hr ⟨N, u, v, j, r, e1, hok, hj, ho, e2⟩ => ?_
  subst e1 e2
  have few := hok.few
  have kr := hok.road r (List.mem_of_getElem? hj)
  refine dss_one (ds_ret (en_index (z := encT [r.1, r.2.1]) hr.u (en_a (en_is (en_lc (own := [("road", 3)]) (xs := N.rs) (enc := encR) (c := fun _ => true) (f := fun r => encT [r.1, r.2.1]) (ei_list (ec_ixT (ec_var 0) (en_a en_int) rfl))
    (fun r hm => ⟨_, _, fun s_ H_ C_ cl_ fp_ => at_name 3 sc_road_at.nd, by decide, fun s_ H_ C_ cl_ fp_ => ets_nil, fun _ => fun s_ H_ C_ cl_ fp_ => en_c (en_is (en_slT (ds := [.int r.1, .int r.2.1, .int r.2.2]) (ec_var 3) eo_none (eo_some (en_a en_int)) (fun z => absurd (show HT.sIx 3 3 (some 2) = 3 from z.2) (by decide))) rfl)⟩)
    (blkOk_by (N := N_road_at) (sc := defScope st_road_at) (by decide +kernel)) sc_road_at.nd (by omega)) (congrArg (fun l : List Road => PyData.list (l.map fun r => encT [r.1, r.2.1])) (filter_true N.rs))))
    (en_a (en_is (d' := encT [if v < u then v else u, if v > u then v else u]) (en_tup (ecs_cons (en_c (en_callB (call_min2 rfl) (cl_min2) T.B.min (eas_cons ((ec_a (ec_var 1))) (eas_cons ((ec_a (ec_var 2))) eas_nil)))) (ecs_cons (en_c (en_callB (call_max2 rfl) (cl_max2) T.B.max (eas_cons ((ec_a (ec_var 1))) (eas_cons ((ec_a (ec_var 2))) eas_nil)))) ecs_nil))) rfl))
    ((sh_map N.rs fun r => sh_encT _).ok) (sh_encT _).ok ?_ ?_ ?_) rfl)
  · rw [List.getElem?_map, hj]; rfl
  · rw [eqv_encT]
    refine decide_eq_true ?_
    have := kr.lt
    rcases ho with ⟨a, b⟩ | ⟨a, b⟩
    · rw [if_neg (by omega), if_pos (by omega), a, b]
    · rw [if_pos (by omega), if_neg (by omega), a, b]
  · intro m z hm hz
    rw [List.getElem?_map] at hz
    cases e : N.rs[m]? with
    | none => rw [e] at hz; cases hz
    | some q =>
      rw [e] at hz
      cases hz
      rw [eqv_encT]
      refine decide_eq_false fun h => ?_
      have kq := hok.road q (List.mem_of_getElem? e)
      have h1 : q.1 = if v < u then v else u := by injection h
      have h2 : q.2.1 = if v > u then v else u := by injection h with _ h; injection h
      have o : onR u v q := by
        unfold onR
        rcases Int.lt_trichotomy u v with l | l | l
        · rw [if_neg (by omega)] at h1; rw [if_pos l] at h2; exact .inl ⟨h1, h2⟩
        · rw [if_neg (by omega)] at h1; rw [if_neg (by omega)] at h2; have := kq.lt; omega
        · rw [if_pos l] at h1; rw [if_neg (by omega)] at h2; exact .inr ⟨h1, h2⟩
      have := hok.uniq e hj o ho
      omega
def Φ_keys_in : List PyData → PyData → Prop := fun ds d => ∃ N s u v, ds = [encN N, dI s, .int u, .int v] ∧ NetOk N ∧ s.length = N.rs.length ∧ Joined N u v ∧ d = .int (key N s u v)
theorem ok_keys_in (T : Txt K mg fs fds) : Ok P w K mg base 2 (fs 19) (fds 19) P_keys_in Φ_keys_in := by
  refine fn_d T.keys_in.F sc_keys_in (fun _ _ ⟨N, s, u, v, e, _⟩ => by rw [e]; rfl) fun cdv A outer s0 H E ds d hr ⟨N, s, u, v, e1, hok, hl, hj, e2⟩ => ?_
  subst e1 e2
  obtain ⟨j, r, hj, ho⟩ := hj.at
  rw [key_at hok hl hj ho]
  obtain ⟨lj, ej⟩ := List.getElem?_eq_some_iff.mp hj
  have a1 := at_get (enc := PyData.int) (xs := s) (i := (j : Int)) (by omega) (by omega)
  have a2 := at_get (enc := encR) (xs := N.rs) (i := (j : Int)) (by omega) (by omega)
  have g1 : s.getD j 0 = s[((j : Int)).toNat]'(by omega) := by
    rw [List.getD_eq_getElem?_getD, List.getElem?_eq_getElem (by omega)]; rfl
  have g2 : N.rs[((j : Int)).toNat]'(by omega) = r := ej
  rw [g2] at a2
  refine dss_seq (ds_set 4 (en_c (en_call ((ok_road_at T).mono (by decide)) hr T.road_at.g T.road_at.F.kp T.road_at.b (ecs_cons ((ec_var 0)) (ecs_cons ((ec_var 2)) (ecs_cons ((ec_var 3)) ecs_nil))) (⟨N, u, v, j, r, rfl, hok, hj, ho, rfl⟩))) ?_ sc_keys_in.nd)
  refine dss_one (ds_ret (d := .int (if u < v then s.getD j 0 else r.2.2 - s.getD j 0)) (en_if (et_gt (ec_a (ec_var 3)) (ec_a (ec_var 2))) (fun h => ?_) (fun h => ?_)) rfl)
  · rw [if_pos (of_decide_eq_true h), g1]
    exact en_ixL (ec_a (ec_var 1)) (ec_a (ec_var 4)) a1
  · rw [if_neg (of_decide_eq_false h), g1]
    exact en_sub (en_a (en_ixT (ec_ixL (ec_ixT (ec_var 0) (en_a en_int) rfl) (ec_a (ec_var 4)) a2) (en_a en_int) rfl)) (en_a (en_ixL (ec_a (ec_var 1)) (ec_a (ec_var 4)) a1))
def Φ_with_works : List PyData → PyData → Prop := fun ds d => ∃ N s x, ds = [encN N, dI s, dI x] ∧ NetOk N ∧ s.length = N.rs.length ∧ (x.length : Int) = N.n ∧ d = dI (behind N s x)
theorem ok_with_works (T : Txt K mg fs fds) : Ok P w K mg base 1 (fs 20) (fds 20) P_with_works Φ_with_works := by
  refine fn_d T.with_works.F sc_with_works (fun _ _ ⟨N, s, x, e, _⟩ => by rw [e]; rfl) fun cdv A outer s0 H E ds d hr ⟨N, s, x, e1, hok, hl, hx, e2⟩ => ?_
  subst e1 e2
  have few := hok.few
  refine dss_one (ds_ret (en_is (en_lc (own := [("item", 3), ("road", 4)]) (c := fun _ => true) (f := fun p : Int × Road => PyData.int (p.1 + gI x p.2.1 - gI x p.2.2.1)) (ei_zipM (ec_var 1) (ec_ixT (ec_var 0) (en_a en_int) rfl) T.B.zip) (fun p hm => ?_)
      (blkOk_by (N := N_with_works) (sc := defScope st_with_works) (by decide +kernel)) sc_with_works.nd (by rw [List.length_zip]; omega)) (by rw [filter_true]; unfold behind dI; rw [List.map_map]; rfl)) rfl)
  have kr := hok.road p.2 (List.of_mem_zip hm).2
  have := kr.lo; have := kr.lt; have := kr.hi
  exact ⟨_, _, fun s_ H_ C_ cl_ fp_ => (at_tup (ats_cons (at_name 3 sc_with_works.nd) (ats_cons (at_name 4 sc_with_works.nd) ats_nil))), by decide, fun s_ H_ C_ cl_ fp_ => ets_nil, fun _ => fun s_ H_ C_ cl_ fp_ => en_c (en_sub (en_a (en_add (ec_a (ec_var 3)) (en_a (en_ixL (ec_a (ec_var 2)) (en_a (en_ixT (ec_var 4) (en_a en_int) rfl)) (at_map 0 (by omega) (by omega)))))) (en_a (en_ixL (ec_a (ec_var 2)) (en_a (en_ixT (ec_var 4) (en_a en_int) rfl)) (at_map 0 (by omega) (by omega)))))⟩
end
end KR
namespace KR
open PySem L2
/-! ### lengths by rounds -/
abbrev Ct := List (Option Int)
abbrev dC (f : Ct) : PyData := .list (f.map encO)
def gC (f : Ct) (i : Int) : Option Int := f.getD i.toNat none
def better (l : Int) : Option Int → Bool
  | none => true
  | some b => decide (l < b)
def relax1 (N : Net) (s : List Int) (f : Ct) (p : List Int) : Ct :=
  match gC f (p.getD 0 0) with
  | none => f
  | some a => if better (a + key N s (p.getD 0 0) (p.getD 1 0)) (gC f (p.getD 1 0)) then f.set (p.getD 1 0).toNat (some (a + key N s (p.getD 0 0) (p.getD 1 0))) else f
def init0 (N : Net) (hs : List Int) : Ct := (rgI 0 N.n).map fun h => if h ∈ hs then some 0 else none
def lenN (N : Net) (s : List Int) (hs : List Int) : Nat → Ct
  | 0 => init0 N hs
  | k + 1 => (dirs N).foldl (relax1 N s) (lenN N s hs k)
theorem relax1_len (N : Net) (s : List Int) (f : Ct) (p : List Int) : (relax1 N s f p).length = f.length := by
  unfold relax1
  split
  · rfl
  · split
    · exact List.length_set
    · rfl
theorem foldl_len (N : Net) (s : List Int) : ∀ (ps : List (List Int)) (f : Ct), (ps.foldl (relax1 N s) f).length = f.length
  | [], _ => rfl
  | p :: ps, f => by
    rw [List.foldl_cons, foldl_len N s ps, relax1_len]
theorem init0_len {N : Net} {hs : List Int} : (init0 N hs).length = N.n.toNat := by
  unfold init0
  rw [List.length_map, rgI_len, Int.sub_zero]
theorem lenN_len (N : Net) (s : List Int) (hs : List Int) : ∀ k, (lenN N s hs k).length = N.n.toNat
  | 0 => init0_len
  | k + 1 => by
    show ((dirs N).foldl (relax1 N s) (lenN N s hs k)).length = _
    rw [foldl_len, lenN_len N s hs k]
theorem mem_dirs {N : Net} {p : List Int} : p ∈ dirs N ↔ ∃ r ∈ N.rs, p = [r.1, r.2.1] ∨ p = [r.2.1, r.1] := by
  unfold dirs
  rw [(srtT_perm _).mem_iff, List.mem_append, List.mem_map, List.mem_map]
  constructor
  · rintro (⟨r, hr, rfl⟩ | ⟨r, hr, rfl⟩)
    · exact ⟨r, hr, .inl rfl⟩
    · exact ⟨r, hr, .inr rfl⟩
  · rintro ⟨r, hr, h | h⟩
    · exact .inl ⟨r, hr, h.symm⟩
    · exact .inr ⟨r, hr, h.symm⟩
theorem Joined.bd {N : Net} (ok : NetOk N) {u v : Int} (h : Joined N u v) : 0 ≤ u ∧ u < N.n ∧ 0 ≤ v ∧ v < N.n ∧ u ≠ v := by
  obtain ⟨r, hr, o⟩ := h
  have k := ok.road r hr
  have := k.lo; have := k.lt; have := k.hi
  unfold onR at o
  omega
theorem dir_of {N : Net} (ok : NetOk N) {p : List Int} (h : p ∈ dirs N) : ∃ u v, p = [u, v] ∧ Joined N u v := by
  obtain ⟨r, hr, e | e⟩ := mem_dirs.mp h
  · exact ⟨_, _, e, r, hr, .inl ⟨rfl, rfl⟩⟩
  · exact ⟨_, _, e, r, hr, .inr ⟨rfl, rfl⟩⟩
theorem at_mapC {f : Ct} {i : Int} (h0 : 0 ≤ i) (h1 : i.toNat < f.length) : atI (f.map encO) i = some (encO (gC f i)) := at_map none h0 (by omega)
theorem isN_encO (o : Option Int) : isN (encO o) = o.isNone := by cases o <;> rfl
section
variable {P : Program} {w : World} {K : PySem.W.Frag} {mg : Str → Option Value} {base : Heap} {fs : Nat → Addr} {fds : Nat → FuncData}
def Φ_lengths_from : List PyData → PyData → Prop := fun ds d => ∃ N s hs, ds = [encN N, dI s, dI hs] ∧ NetOk N ∧ s.length = N.rs.length ∧ d = dC (lenN N s hs N.n.toNat)
theorem ok_lengths_from (T : Txt K mg fs fds) : Ok P w K mg base 3 (fs 21) (fds 21) P_lengths_from Φ_lengths_from := by
  refine fn_d T.lengths_from.F sc_lengths_from (fun _ _ ⟨N, s, hs, e, _⟩ => by rw [e]; rfl) fun cdv A outer s0 H E ds d hr ⟨N, s, hs, e1, hok, hl, e2⟩ => ?_
  subst e1 e2
  have few := hok.few
  have n1 := hok.n1
  have n12 := hok.n12
  refine dss_seq (ds_lcO 3 (own := [("house", 8)]) (xs := rgI 0 N.n) (enc := PyData.int) (c := fun _ => true) (f := fun h => encO (if h ∈ hs then some 0 else none)) (ei_range1 (en_a (en_ixT (ec_var 0) (en_a en_int) rfl)) T.B.range (by omega) (by omega)) (fun h hm =>
    ⟨_, _, fun s_ H_ C_ cl_ fp_ => at_name 8 sc_lengths_from.nd, by decide, fun s_ H_ C_ cl_ fp_ => ets_nil, fun _ => fun s_ H_ C_ cl_ fp_ => en_c (en_if (k := decide (h ∈ hs)) (et_is (et_in hr.u (ec_a (ec_var 8)) (ec_a (ec_var 2)) (sh_int _).ok (sh_dI _).ok) (inD_ints _ _)) (fun z => ?_) (fun z => ?_))⟩)
    ?_ (blkOk_by (N := N_lengths_from) (sc := defScope st_lengths_from) (by decide +kernel)) sc_lengths_from.nd (by rw [rgI_len]; omega) (sw_true rfl rfl rfl (by decide +kernel)))
  · rw [if_pos (of_decide_eq_true z)]; exact en_int
  · rw [if_neg (of_decide_eq_false z)]; exact en_none
  rw [filter_true, show ((rgI 0 N.n).map fun h => encO (if h ∈ hs then some 0 else none)) = (lenN N s hs 0).map encO by unfold lenN init0; rw [List.map_map]; rfl]
  refine dss_seq (ds_for (ei_range1 (en_a (en_ixT (ec_var 0) (en_a en_int) rfl)) T.B.range (by omega) (by omega)) (fun i ρ => ∃ e4 e5 e6 e7 e8, ρ = [.val (encN N), .val (dI s), .val (dI hs), .own ((lenN N s hs i).map encO), e4, e5, e6, e7, e8]) ⟨_, _, _, _, _, rfl⟩ ?_ ?_)
  · rintro i d ρ' hd ⟨e4, e5, e6, e7, e8, rfl⟩
    refine ⟨_, _, at_name 4 sc_lengths_from.nd, ?_⟩
    refine dss_one (ds_for (ei_list (en_c (en_call ((ok_directions_of T).mono (by decide)) hr T.directions_of.g T.directions_of.F.kp T.directions_of.b (ecs_cons ((ec_var 0)) ecs_nil) (⟨N, rfl, hok, rfl⟩)))) (fun j ρ => ∃ e4 e5 e6 e7 e8, ρ = [.val (encN N), .val (dI s), .val (dI hs), .own ((((dirs N).take j).foldl (relax1 N s) (lenN N s hs i)).map encO), e4, e5, e6, e7, e8]) ⟨_, _, _, _, _, rfl⟩ ?_ ?_)
    · rintro j d ρ' hd ⟨e4, e5, e6, e7, e8, rfl⟩
      rw [List.getElem?_map] at hd
      cases hp : (dirs N)[j]? with
      | none => rw [hp] at hd; cases hd
      | some p =>
        rw [hp] at hd
        cases hd
        obtain ⟨u, v, rfl, hj⟩ := dir_of hok (List.mem_of_getElem? hp)
        have bd := hj.bd hok
        refine ⟨_, _, (at_tup (ats_cons (at_name 5 sc_lengths_from.nd) (ats_cons (at_name 6 sc_lengths_from.nd) ats_nil))), ?_⟩
        have tk : ((dirs N).take (j + 1)).foldl (relax1 N s) (lenN N s hs i) = relax1 N s (((dirs N).take j).foldl (relax1 N s) (lenN N s hs i)) [u, v] := by
          rw [List.take_add_one, hp, List.foldl_append]; rfl
        generalize hf : ((dirs N).take j).foldl (relax1 N s) (lenN N s hs i) = f at tk ⊢
        have lf : f.length = N.n.toNat := by rw [← hf, foldl_len, lenN_len]
        rw [tk]
        have hu : u.toNat < f.length := by omega
        have hv : v.toNat < f.length := by omega
        refine dss_one (ds_if (et_notN (ea_ixL (ea_own 3) (ec_a (ec_var 5)) (at_mapC (by omega) hu))) (fun h => ?_) (fun h => ?_))
        · rw [isN_encO] at h
          obtain ⟨a, ha⟩ : ∃ a, gC f u = some a := by
            cases q : gC f u with
            | none => rw [q] at h; cases h
            | some a => exact ⟨a, rfl⟩
          have h1 := at_mapC (f := f) (i := u) (by omega) hu
          rw [ha] at h1
          refine dss_seq (ds_set 7 (en_c (en_add (en_a (en_ixL (ea_own 3) (ec_a (ec_var 5)) h1)) (en_a (en_call ((ok_keys_in T).mono (by decide)) hr T.keys_in.g T.keys_in.F.kp T.keys_in.b (ecs_cons ((ec_var 0)) (ecs_cons ((ec_var 1)) (ecs_cons ((ec_var 5)) (ecs_cons ((ec_var 6)) ecs_nil)))) (⟨N, s, u, v, rfl, hok, hl, hj, rfl⟩))))) ?_ sc_lengths_from.nd)
          have er : relax1 N s f [u, v] = if better (a + key N s u v) (gC f v) then f.set v.toNat (some (a + key N s u v)) else f := by
            show (match gC f u with | none => f | some a => _) = _
            rw [ha]; rfl
          rw [er]
          have h2 := at_mapC (f := f) (i := v) (by omega) hv
          refine dss_one (ds_if (k := better (a + key N s u v) (gC f v)) ?_ (fun z => ?_) (fun z => ?_))
          · cases q : gC f v with
            | none =>
              rw [q] at h2
              exact et_is (et_w (ew_or (l := true) (et_isN (ea_ixL (ea_own 3) (ec_a (ec_var 6)) h2)) (fun z => by cases z))) rfl
            | some b =>
              rw [q] at h2
              exact et_is (et_w (ew_or (et_isN (ea_ixL (ea_own 3) (ec_a (ec_var 6)) h2)) (fun _ => ew_or1 (et_lt (ec_a (ec_var 7)) (ea_ixL (ea_own 3) (ec_a (ec_var 6)) h2))))) rfl
          · rw [if_pos z]
            refine dss_one (ds_setIx 3 (ds := f.map encO) (j := v.toNat) (d := .int (a + key N s u v)) (ec_var 7) (ea_is (ec_a (ec_var 6)) (by rw [Int.toNat_of_nonneg (by omega)])) (by rw [List.length_map]; omega) ?_)
            have em : (f.set v.toNat (some (a + key N s u v))).map encO = (f.map encO).set v.toNat (.int (a + key N s u v)) := List.map_set
            rw [em]
            exact ⟨_, _, _, _, _, rfl⟩
          · rw [if_neg (by rw [z]; decide)]
            exact dss_nil ⟨_, _, _, _, _, rfl⟩
        · rw [isN_encO] at h
          have ha : gC f u = none := by
            cases q : gC f u with
            | none => rfl
            | some a => rw [q] at h; cases h
          have er : relax1 N s f [u, v] = f := by
            show (match gC f u with | none => f | some a => _) = _
            rw [ha]
          rw [er]
          exact dss_nil ⟨_, _, _, _, _, rfl⟩
    · rintro ρ' ⟨e4, e5, e6, e7, e8, rfl⟩
      rw [List.length_map, List.take_length]
      exact ⟨_, _, _, _, _, rfl⟩
  · rintro ρ' ⟨e4, e5, e6, e7, e8, rfl⟩
    rw [List.length_map, rgI_len, Int.sub_zero]
    exact dss_one (ds_retO 3 rfl)
end
end KR
namespace KR
open PySem L2
/-! ### neighbours -/
def nbA (N : Net) (h : Int) : List Int := (N.rs.filter fun r => decide (r.2.1 = h)).map (fun r => r.1) ++ (N.rs.filter fun r => decide (r.1 = h)).map (fun r => r.2.1)
theorem pw_mapf {α : Type} {R : α → α → Prop} {S : Int → Int → Prop} {q : α → Bool} {g : α → Int} (h : ∀ a b, R a b → q a = true → q b = true → S (g a) (g b)) : ∀ {l : List α}, l.Pairwise R → ((l.filter q).map g).Pairwise S
  | [], _ => .nil
  | a :: l, p => by
    have p' := List.pairwise_cons.mp p
    have ih := pw_mapf h p'.2
    cases hq : q a with
    | true =>
      rw [List.filter_cons, if_pos hq, List.map_cons]
      refine List.pairwise_cons.mpr ⟨fun z hz => ?_, ih⟩
      obtain ⟨b, hb, rfl⟩ := List.mem_map.mp hz
      have hb' := List.mem_filter.mp hb
      exact h a b (p'.1 b hb'.1) hq hb'.2
    | false =>
      rw [List.filter_cons, if_neg (by rw [hq]; decide)]
      exact ih
theorem nbA_mem {N : Net} (ok : NetOk N) {h v : Int} : v ∈ nbA N h ↔ Joined N h v := by
  unfold nbA
  rw [List.mem_append, List.mem_map, List.mem_map]
  constructor
  · rintro (⟨r, hr, rfl⟩ | ⟨r, hr, rfl⟩)
    · have := List.mem_filter.mp hr
      exact ⟨r, this.1, .inr ⟨rfl, of_decide_eq_true this.2⟩⟩
    · have := List.mem_filter.mp hr
      exact ⟨r, this.1, .inl ⟨of_decide_eq_true this.2, rfl⟩⟩
  · rintro ⟨r, hr, ⟨a, b⟩ | ⟨a, b⟩⟩
    · exact .inr ⟨r, List.mem_filter.mpr ⟨hr, decide_eq_true a⟩, b⟩
    · exact .inl ⟨r, List.mem_filter.mpr ⟨hr, decide_eq_true b⟩, a⟩
theorem nbA_lt {N : Net} (ok : NetOk N) (h : Int) : (nbA N h).Pairwise (· < ·) := by
  unfold nbA
  rw [List.pairwise_append]
  refine ⟨pw_mapf (R := lexR) (fun a b l qa qb => ?_) ok.asc, pw_mapf (R := lexR) (fun a b l qa qb => ?_) ok.asc, fun x hx y hy => ?_⟩
  · have := of_decide_eq_true qa
    have := of_decide_eq_true qb
    unfold lexR at l
    omega
  · have := of_decide_eq_true qa
    have := of_decide_eq_true qb
    unfold lexR at l
    omega
  · obtain ⟨a, ha, rfl⟩ := List.mem_map.mp hx
    obtain ⟨b, hb, rfl⟩ := List.mem_map.mp hy
    have ha' := List.mem_filter.mp ha
    have hb' := List.mem_filter.mp hb
    have k1 := (ok.road a ha'.1).lt
    have k2 := (ok.road b hb'.1).lt
    have e1 : a.2.1 = h := of_decide_eq_true ha'.2
    have e2 : b.1 = h := of_decide_eq_true hb'.2
    omega
theorem lt_le {l : List Int} (h : l.Pairwise (· < ·)) : l.Pairwise (· ≤ ·) := h.imp fun h => Int.le_of_lt h
theorem nb_eq {N : Net} (ok : NetOk N) (h : Int) : nb N h = nbA N h := (srt_of (.refl _) (lt_le (nbA_lt ok h))).symm
theorem nb_mem {N : Net} (ok : NetOk N) {h v : Int} : v ∈ nb N h ↔ Joined N h v := by
  unfold nb
  rw [(srt_perm _).mem_iff]
  exact nbA_mem ok
theorem nb_few {N : Net} (ok : NetOk N) (h : Int) : (nb N h).length ≤ 12 := by
  have n12 := ok.n12
  have e : (nb N h).length = (nbA N h).length := (srt_perm _).length_eq
  rw [e]
  have := len_strict (lo := 0) (hi := N.n) (nbA_lt ok h) fun v hv => by
    have := ((nbA_mem ok).mp hv).bd ok
    omega
  omega
def out (N : Net) (s : List Int) (u : Int) : List Int := (nb N u).filter fun v => decide (key N s u v = 0)
def freeA (N : Net) (s hs : List Int) : List Int := srtU (hs.flatMap (out N s))
theorem out_mem {N : Net} (ok : NetOk N) {s : List Int} {u v : Int} : v ∈ out N s u ↔ Joined N u v ∧ key N s u v = 0 := by
  unfold out
  rw [List.mem_filter, nb_mem ok, decide_eq_true_iff]
theorem out_few {N : Net} (ok : NetOk N) {s : List Int} {u : Int} : (out N s u).length ≤ 12 := Nat.le_trans (List.length_filter_le _ _) (nb_few ok u)
theorem flat_few {N : Net} (ok : NetOk N) {s : List Int} : ∀ hs : List Int, (hs.flatMap (out N s)).length ≤ hs.length * 12
  | [] => Nat.zero_le _
  | h :: hs => by
    rw [List.flatMap_cons, List.length_append, List.length_cons]
    have := out_few ok (s := s) (u := h)
    have := flat_few ok (s := s) hs
    omega
theorem freeA_mem {N : Net} (ok : NetOk N) {s hs : List Int} {v : Int} : v ∈ freeA N s hs ↔ ∃ u ∈ hs, Joined N u v ∧ key N s u v = 0 := by
  unfold freeA
  rw [srtU_mem, List.mem_flatMap]
  constructor
  · rintro ⟨u, hu, h⟩; exact ⟨u, hu, (out_mem ok).mp h⟩
  · rintro ⟨u, hu, h⟩; exact ⟨u, hu, (out_mem ok).mpr h⟩
/-- unlike whole numbers of a stretch -/
theorem nodup_few : ∀ (n : Nat) {lo : Int} {zs : List Int}, zs.Nodup → (∀ z ∈ zs, lo ≤ z ∧ z < lo + n) → zs.length ≤ n
  | 0, lo, zs, _, h => by
    cases zs with
    | nil => exact Nat.le_refl _
    | cons z zs => have := h z List.mem_cons_self; omega
  | n + 1, lo, zs, d, h => by
    have ih := nodup_few n (lo := lo) (zs := zs.erase (lo + n)) (d.erase _) fun z hz => by
      have a := (d.mem_erase_iff.mp hz)
      have b := h z a.2
      have := a.1
      omega
    rw [List.length_erase] at ih
    split at ih <;> omega
theorem freeA_few {N : Net} (ok : NetOk N) {s hs : List Int} : (freeA N s hs).length ≤ 12 := by
  have n12 := ok.n12
  have := len_strict (lo := 0) (hi := N.n) (srtU_srt (hs.flatMap (out N s))) fun v hv => by
    obtain ⟨u, _, j, _⟩ := (freeA_mem ok).mp hv
    have := j.bd ok
    omega
  show (srtU _).length ≤ 12
  omega
def hsR (N : Net) : List Int := srtU (N.rs.map (fun r => r.1) ++ N.rs.map (fun r => r.2.1))
def rch (N : Net) (s : List Int) (h : Int) : Nat → List Int
  | 0 => out N s h
  | k + 1 => rch N s h k ++ (freeA N s (rch N s h k)).filter fun v => decide (¬ v ∈ rch N s h k)
def stk (N : Net) (s : List Int) : List Int := (hsR N).filter fun h => decide (h ∈ rch N s h (hsR N).length)
theorem hsR_mem {N : Net} {h : Int} : h ∈ hsR N ↔ ∃ r ∈ N.rs, h = r.1 ∨ h = r.2.1 := by
  unfold hsR
  rw [srtU_mem, List.mem_append, List.mem_map, List.mem_map]
  constructor
  · rintro (⟨r, hr, rfl⟩ | ⟨r, hr, rfl⟩)
    · exact ⟨r, hr, .inl rfl⟩
    · exact ⟨r, hr, .inr rfl⟩
  · rintro ⟨r, hr, h | h⟩
    · exact .inl ⟨r, hr, h.symm⟩
    · exact .inr ⟨r, hr, h.symm⟩
theorem hsR_bd {N : Net} (ok : NetOk N) {h : Int} (hh : h ∈ hsR N) : 0 ≤ h ∧ h < N.n := by
  obtain ⟨r, hr, e⟩ := hsR_mem.mp hh
  have k := ok.road r hr
  have := k.lo; have := k.lt; have := k.hi
  omega
theorem hsR_few {N : Net} (ok : NetOk N) : (hsR N).length ≤ 12 := by
  have n12 := ok.n12
  have := len_strict (lo := 0) (hi := N.n) (srtU_srt (N.rs.map (fun r => r.1) ++ N.rs.map (fun r => r.2.1))) fun v hv => hsR_bd ok hv
  show (srtU _).length ≤ 12
  omega
theorem rch_few {N : Net} (ok : NetOk N) {s : List Int} {h : Int} : ∀ k, (rch N s h k).length ≤ 12 + k * 12
  | 0 => by
    have := out_few ok (s := s) (u := h)
    show (out N s h).length ≤ _
    omega
  | k + 1 => by
    show (rch N s h k ++ _).length ≤ _
    rw [List.length_append]
    have := rch_few ok (s := s) (h := h) k
    have := freeA_few ok (s := s) (hs := rch N s h k)
    have := List.length_filter_le (fun v => decide (¬ v ∈ rch N s h k)) (freeA N s (rch N s h k))
    omega
theorem rch_bd {N : Net} (ok : NetOk N) {s : List Int} {h : Int} : ∀ k, ∀ v ∈ rch N s h k, 0 ≤ v ∧ v < N.n
  | 0, v, hv => by
    have := ((out_mem ok).mp hv).1.bd ok
    omega
  | k + 1, v, hv => by
    rcases List.mem_append.mp hv with hv | hv
    · exact rch_bd ok k v hv
    · obtain ⟨u, _, j, _⟩ := (freeA_mem ok).mp (List.mem_filter.mp hv).1
      have := j.bd ok
      omega
section
variable {P : Program} {w : World} {K : PySem.W.Frag} {mg : Str → Option Value} {base : Heap} {fs : Nat → Addr} {fds : Nat → FuncData}
def Φ_free_ahead : List PyData → PyData → Prop := fun ds d => ∃ N s hs, ds = [encN N, dI s, dI hs] ∧ NetOk N ∧ s.length = N.rs.length ∧ hs.length ≤ 160 ∧ d = dI (freeA N s hs)
theorem ok_free_ahead (T : Txt K mg fs fds) : Ok P w K mg base 3 (fs 22) (fds 22) P_free_ahead Φ_free_ahead := by
  refine fn_d T.free_ahead.F sc_free_ahead (fun _ _ ⟨N, s, hs, e, _⟩ => by rw [e]; rfl) fun cdv A outer s0 H E ds d hr ⟨N, s, hs, e1, hok, hl, hz, e2⟩ => ?_
  subst e1 e2
  have n12 := hok.n12
  have n1 := hok.n1
  refine dss_seq (ds_set 3 (en_c (en_lst ecs_nil)) ?_ sc_free_ahead.nd)
  refine dss_seq (ds_for (ei_list (ec_var 2)) (fun i ρ => ∃ e4 e5, ρ = [.val (encN N), .val (dI s), .val (dI hs), .val (dI ((hs.take i).flatMap (out N s))), e4, e5]) ⟨_, _, rfl⟩ ?_ ?_)
  · rintro i d ρ' hd ⟨e4, e5, rfl⟩
    rw [List.getElem?_map] at hd
    cases hp : hs[i]? with
    | none => rw [hp] at hd; cases hd
    | some h =>
      rw [hp] at hd
      cases hd
      refine ⟨_, _, at_name 4 sc_free_ahead.nd, ?_⟩
      refine dss_one (ds_set 3 (en_c (en_cat (ec_var 3) (en_c (en_lc (own := [("mate", 5)]) (xs := nb N h) (enc := PyData.int) (c := fun v => decide (key N s h v = 0)) (f := PyData.int) (ei_list (en_c (en_call ((ok_neighbours_of T).mono (by decide)) hr T.neighbours_of.g T.neighbours_of.F.kp T.neighbours_of.b (ecs_cons ((ec_var 0)) (ecs_cons ((ec_var 4)) ecs_nil)) (⟨N, h, rfl, hok, rfl⟩))))
        (fun v hm => ⟨_, _, fun s_ H_ C_ cl_ fp_ => at_name 5 sc_free_ahead.nd, by decide, fun s_ H_ C_ cl_ fp_ => ets_is (et_eqI (en_a (en_call ((ok_keys_in T).mono (by decide)) hr T.keys_in.g T.keys_in.F.kp T.keys_in.b (ecs_cons ((ec_var 0)) (ecs_cons ((ec_var 1)) (ecs_cons ((ec_var 4)) (ecs_cons ((ec_var 5)) ecs_nil)))) (⟨N, s, h, v, rfl, hok, hl, (nb_mem hok).mp hm, rfl⟩))) (en_a en_int)) rfl, fun _ => fun s_ H_ C_ cl_ fp_ => (ec_var 5)⟩)
        (blkOk_by (N := N_free_ahead) (sc := defScope st_free_ahead) (by decide +kernel)) sc_free_ahead.nd (by have := nb_few hok h; omega))) ?_)) ?_ sc_free_ahead.nd)
      · rw [List.length_map, List.length_map, sizeLine_eq]
        have := flat_few hok (s := s) (hs.take i)
        have : (hs.take i).length ≤ hs.length := by rw [List.length_take]; omega
        have := nb_few hok h
        have := List.length_filter_le (fun v => decide (key N s h v = 0)) (nb N h)
        omega
      · have tk : dI ((hs.take (i + 1)).flatMap (out N s)) = .list (((hs.take i).flatMap (out N s)).map PyData.int ++ ((nb N h).filter fun v => decide (key N s h v = 0)).map PyData.int) := by
          rw [List.take_add_one, hp, List.flatMap_append, ← List.map_append]
          show dI (_ ++ (out N s h ++ [])) = _
          rw [List.append_nil]; rfl
        rw [tk]
        exact ⟨_, _, rfl⟩
  · rintro ρ' ⟨e4, e5, rfl⟩
    rw [List.length_map, List.take_length]
    refine dss_one (ds_ret (en_srtSet (ec_a (ec_var 3)) ?_ ?_ T.B.sorted T.B.set) rfl)
    · have := flat_few hok (s := s) hs
      omega
    · intro zs nd hz
      have := nodup_few N.n.toNat (lo := 0) nd fun z hz' => by
        obtain ⟨u, _, hu⟩ := List.mem_flatMap.mp (hz z hz')
        have := ((out_mem hok).mp hu).1.bd hok
        omega
      omega
def Φ_stuck_houses : List PyData → PyData → Prop := fun ds d => ∃ N s, ds = [encN N, dI s] ∧ NetOk N ∧ s.length = N.rs.length ∧ d = dI (stk N s)
theorem ok_stuck_houses (T : Txt K mg fs fds) : Ok P w K mg base 4 (fs 23) (fds 23) P_stuck_houses Φ_stuck_houses := by
  refine fn_d T.stuck_houses.F sc_stuck_houses (fun _ _ ⟨N, s, e, _⟩ => by rw [e]; rfl) fun cdv A outer s0 H E ds d hr ⟨N, s, e1, hok, hl, e2⟩ => ?_
  subst e1 e2
  have n12 := hok.n12
  have n1 := hok.n1
  have few := hok.few
  have hfew := hsR_few hok
  refine dss_seq (ds_parOV 2 3 (en_lst ecs_nil) (en_c (en_srtSet (ns := N.rs.map (fun r => r.1) ++ N.rs.map (fun r => r.2.1)) (en_a (en_is (en_cat
    (en_c (en_lc (own := [("low", 8), ("high", 9), ("many", 10)]) (xs := N.rs) (enc := encR) (c := fun _ => true) (f := fun r => .int r.1) (ei_list (ec_ixT (ec_var 0) (en_a en_int) rfl)) (fun r hm => ⟨_, _, fun s_ H_ C_ cl_ fp_ => (at_tup (ats_cons (at_name 8 sc_stuck_houses.nd) (ats_cons (at_name 9 sc_stuck_houses.nd) (ats_cons (at_name 10 sc_stuck_houses.nd) ats_nil)))), by decide, fun s_ H_ C_ cl_ fp_ => ets_nil, fun _ => fun s_ H_ C_ cl_ fp_ => (ec_var 8)⟩)
      (blkOk_by (N := N_stuck_houses) (sc := defScope st_stuck_houses) (by decide +kernel)) sc_stuck_houses.nd (by omega)))
    (en_c (en_lc (own := [("low", 8), ("high", 9), ("many", 10)]) (xs := N.rs) (enc := encR) (c := fun _ => true) (f := fun r => .int r.2.1) (ei_list (ec_ixT (ec_var 0) (en_a en_int) rfl)) (fun r hm => ⟨_, _, fun s_ H_ C_ cl_ fp_ => (at_tup (ats_cons (at_name 8 sc_stuck_houses.nd) (ats_cons (at_name 9 sc_stuck_houses.nd) (ats_cons (at_name 10 sc_stuck_houses.nd) ats_nil)))), by decide, fun s_ H_ C_ cl_ fp_ => ets_nil, fun _ => fun s_ H_ C_ cl_ fp_ => (ec_var 9)⟩)
      (blkOk_by (N := N_stuck_houses) (sc := defScope st_stuck_houses) (by decide +kernel)) sc_stuck_houses.nd (by omega))) ?_) ?_)) ?_ ?_ T.B.sorted T.B.set)) ?_ sc_stuck_houses.nd)
  · rw [filter_true, List.length_map, List.length_map, sizeLine_eq]; omega
  · rw [filter_true, List.map_append, List.map_map, List.map_map]; rfl
  · rw [List.length_append, List.length_map, List.length_map]; omega
  · intro zs nd hz
    have := nodup_few N.n.toNat (lo := 0) nd fun z hz' => by
      have := hsR_bd hok (srtU_mem.mpr (hz z hz'))
      omega
    omega
  rw [show srtU (N.rs.map (fun r => r.1) ++ N.rs.map (fun r => r.2.1)) = hsR N from rfl]
  refine dss_seq (ds_for (ei_list (ec_var 3)) (fun i ρ => ∃ e4 e5 e6 e7 e8 e9 e10, ρ = [.val (encN N), .val (dI s), .own ((((hsR N).take i).filter fun h => decide (h ∈ rch N s h (hsR N).length)).map PyData.int), .val (dI (hsR N)), e4, e5, e6, e7, e8, e9, e10]) ⟨_, _, _, _, _, _, _, rfl⟩ ?_ ?_)
  · rintro i d ρ' hd ⟨e4, e5, e6, e7, e8, e9, e10, rfl⟩
    rw [List.getElem?_map] at hd
    cases hp : (hsR N)[i]? with
    | none => rw [hp] at hd; cases hd
    | some h =>
      rw [hp] at hd
      cases hd
      refine ⟨_, _, at_name 4 sc_stuck_houses.nd, ?_⟩
      refine dss_seq (ds_set 5 (en_c (en_lc (own := [("mate", 7)]) (xs := nb N h) (enc := PyData.int) (c := fun v => decide (key N s h v = 0)) (f := PyData.int) (ei_list (en_c (en_call ((ok_neighbours_of T).mono (by decide)) hr T.neighbours_of.g T.neighbours_of.F.kp T.neighbours_of.b (ecs_cons ((ec_var 0)) (ecs_cons ((ec_var 4)) ecs_nil)) (⟨N, h, rfl, hok, rfl⟩))))
        (fun v hm => ⟨_, _, fun s_ H_ C_ cl_ fp_ => at_name 7 sc_stuck_houses.nd, by decide, fun s_ H_ C_ cl_ fp_ => ets_is (et_eqI (en_a (en_call ((ok_keys_in T).mono (by decide)) hr T.keys_in.g T.keys_in.F.kp T.keys_in.b (ecs_cons ((ec_var 0)) (ecs_cons ((ec_var 1)) (ecs_cons ((ec_var 4)) (ecs_cons ((ec_var 7)) ecs_nil)))) (⟨N, s, h, v, rfl, hok, hl, (nb_mem hok).mp hm, rfl⟩))) (en_a en_int)) rfl, fun _ => fun s_ H_ C_ cl_ fp_ => (ec_var 7)⟩)
        (blkOk_by (N := N_stuck_houses) (sc := defScope st_stuck_houses) (by decide +kernel)) sc_stuck_houses.nd (by have := nb_few hok h; omega))) ?_ sc_stuck_houses.nd)
      refine dss_seq (ds_for (ei_range1 (en_a (en_callB (call_len_seq) (cl_len) T.B.len (eas_cons ((ec_a (ec_var 3))) eas_nil))) T.B.range (by rw [List.length_map]; omega) (by omega)) (fun j ρ => ∃ e6 e7 e8 e9 e10, ρ = [.val (encN N), .val (dI s), .own ((((hsR N).take i).filter fun h => decide (h ∈ rch N s h (hsR N).length)).map PyData.int), .val (dI (hsR N)), .val (.int h), .val (dI (rch N s h j)), e6, e7, e8, e9, e10]) ⟨_, _, _, _, _, rfl⟩ ?_ ?_)
      · rintro j d ρ' hd ⟨e6, e7, e8, e9, e10, rfl⟩
        have hj : j < (hsR N).length := by
          have := (List.getElem?_eq_some_iff.mp hd).1
          rw [List.length_map, rgI_len, List.length_map] at this
          omega
        have rf := rch_few hok (s := s) (h := h) j
        have ff := freeA_few hok (s := s) (hs := rch N s h j)
        refine ⟨_, _, at_name 6 sc_stuck_houses.nd, ?_⟩
        refine dss_one (ds_set 5 (en_c (en_cat (ec_var 5) (en_c (en_lc (own := [("mate", 7)]) (xs := freeA N s (rch N s h j)) (enc := PyData.int) (c := fun v => decide (¬ v ∈ rch N s h j)) (f := PyData.int) (ei_list (en_c (en_call ((ok_free_ahead T).mono (by decide)) hr T.free_ahead.g T.free_ahead.F.kp T.free_ahead.b (ecs_cons ((ec_var 0)) (ecs_cons ((ec_var 1)) (ecs_cons ((ec_var 5)) ecs_nil))) (⟨N, s, rch N s h j, rfl, hok, hl, by omega, rfl⟩))))
          (fun v hm => ⟨_, _, fun s_ H_ C_ cl_ fp_ => at_name 7 sc_stuck_houses.nd, by decide, fun s_ H_ C_ cl_ fp_ => ets_is (et_notin hr.u (ec_a (ec_var 7)) (ec_a (ec_var 5)) (sh_int _).ok (sh_dI _).ok) (by rw [inD_ints, decide_not]), fun _ => fun s_ H_ C_ cl_ fp_ => (ec_var 7)⟩)
          (blkOk_by (N := N_stuck_houses) (sc := defScope st_stuck_houses) (by decide +kernel)) sc_stuck_houses.nd (by omega))) ?_)) ?_ sc_stuck_houses.nd)
        · rw [List.length_map, List.length_map, sizeLine_eq]
          have := List.length_filter_le (fun v => decide (¬ v ∈ rch N s h j)) (freeA N s (rch N s h j))
          omega
        · have tk : dI (rch N s h (j + 1)) = .list ((rch N s h j).map PyData.int ++ ((freeA N s (rch N s h j)).filter fun v => decide (¬ v ∈ rch N s h j)).map PyData.int) := by
            rw [← List.map_append]; rfl
          rw [tk]
          exact ⟨_, _, _, _, _, rfl⟩
      · rintro ρ' ⟨e6, e7, e8, e9, e10, rfl⟩
        rw [List.length_map, rgI_len, List.length_map, show (((hsR N).length : Int) - 0).toNat = (hsR N).length by omega]
        have tk : ((hsR N).take (i + 1)).filter (fun h => decide (h ∈ rch N s h (hsR N).length)) = ((hsR N).take i).filter (fun h => decide (h ∈ rch N s h (hsR N).length)) ++ [h].filter (fun h => decide (h ∈ rch N s h (hsR N).length)) := by
          rw [List.take_add_one, hp, List.filter_append]; rfl
        rw [tk]
        refine dss_one (ds_if (k := decide (h ∈ rch N s h (hsR N).length)) (et_is (et_in hr.u (ec_a (ec_var 4)) (ec_a (ec_var 5)) (sh_int _).ok (sh_dI _).ok) (inD_ints _ _)) (fun z => ?_) (fun z => ?_))
        · refine dss_one (ds_app 2 (ec_var 4) ?_ ?_)
          · rw [List.filter_cons, if_pos z, List.map_append]
            exact ⟨_, _, _, _, _, _, _, rfl⟩
          · rw [List.length_map]
            have := List.length_filter_le (fun h => decide (h ∈ rch N s h (hsR N).length)) ((hsR N).take i)
            have : ((hsR N).take i).length ≤ (hsR N).length := by rw [List.length_take]; omega
            omega
        · rw [List.filter_cons, if_neg (by rw [z]; decide), List.filter_nil, List.append_nil]
          exact dss_nil ⟨_, _, _, _, _, _, _, rfl⟩
  · rintro ρ' ⟨e4, e5, e6, e7, e8, e9, e10, rfl⟩
    rw [List.length_map, List.take_length]
    exact dss_one (ds_retO 2 rfl)
end
end KR
namespace KR
open PySem L2
def ends (N : Net) (s rest : List Int) : List Int := srtU (rest ++ stk N s)
def cnt (N : Net) (s rest : List Int) : Ct := lenN N s (ends N s rest) N.n.toNat
def allC (f : Ct) : Bool := !f.any Option.isNone
def numC (f : Ct) : List Int := f.map fun o => o.getD 0
def last (N : Net) (s rest : List Int) : PyData := if allC (cnt N s rest) = true then dI (behind N s (numC (cnt N s rest))) else .none
theorem stk_bd {N : Net} (ok : NetOk N) {s : List Int} {h : Int} (hh : h ∈ stk N s) : 0 ≤ h ∧ h < N.n := hsR_bd ok (List.mem_filter.mp hh).1
theorem stk_few {N : Net} (ok : NetOk N) {s : List Int} : (stk N s).length ≤ 12 := Nat.le_trans (List.length_filter_le _ _) (hsR_few ok)
theorem inD_none (f : Ct) : inD .none (f.map encO) = f.any Option.isNone := by
  unfold inD
  rw [List.any_map]
  congr 1
  funext o
  cases o <;> rfl
theorem sh_dC (f : Ct) : Sh 1 (dC f) := sh_map f sh_encO
theorem allC_num : ∀ {f : Ct}, f.any Option.isNone = false → f.map encO = (numC f).map PyData.int
  | [], _ => rfl
  | o :: f, h => by
    rw [List.any_cons, Bool.or_eq_false_iff] at h
    cases o with
    | none => cases h.1
    | some i =>
      have ih := allC_num (f := f) h.2
      unfold numC at ih ⊢
      rw [List.map_cons, ih]; rfl
theorem ends_few {N : Net} (ok : NetOk N) {s rest : List Int} (hr : HsOk N rest) : ∀ zs : List Int, zs.Nodup → (∀ z ∈ zs, z ∈ rest ++ stk N s) → zs.length < 64 := fun zs nd hz => by
  have n12 := ok.n12
  have n1 := ok.n1
  have := nodup_few N.n.toNat (lo := 0) nd fun z hz' => by
    rcases List.mem_append.mp (hz z hz') with h | h
    · have := hr.bd z h
      omega
    · have := stk_bd ok h
      omega
  omega
section
variable {P : Program} {w : World} {K : PySem.W.Frag} {mg : Str → Option Value} {base : Heap} {fs : Nat → Addr} {fds : Nat → FuncData}
def Φ_ends_of : List PyData → PyData → Prop := fun ds d => ∃ N s rest, ds = [encN N, dI s, dI rest] ∧ NetOk N ∧ s.length = N.rs.length ∧ HsOk N rest ∧ d = dI (ends N s rest)
theorem ok_ends_of (T : Txt K mg fs fds) : Ok P w K mg base 5 (fs 25) (fds 25) P_ends_of Φ_ends_of := by
  refine fn_d T.ends_of.F sc_ends_of (fun _ _ ⟨N, s, rest, e, _⟩ => by rw [e]; rfl) fun cdv A outer s0 H E ds d hr ⟨N, s, rest, e1, hok, hl, hs, e2⟩ => ?_
  subst e1 e2
  have rf := hs.few hok.n12
  have sf := stk_few hok (s := s)
  exact dss_one (ds_ret (en_srtSet (en_a (en_is (en_cat (ec_var 2) (en_c (en_call ((ok_stuck_houses T).mono (by decide)) hr T.stuck_houses.g T.stuck_houses.F.kp T.stuck_houses.b (ecs_cons ((ec_var 0)) (ecs_cons ((ec_var 1)) ecs_nil)) (⟨N, s, rfl, hok, hl, rfl⟩))) (by rw [List.length_map, List.length_map, sizeLine_eq]; omega)) (by rw [← List.map_append])))
    (by rw [List.length_append]; omega) (ends_few hok hs) T.B.sorted T.B.set) rfl)
def Φ_counts_in : List PyData → PyData → Prop := fun ds d => ∃ N s rest, ds = [encN N, dI s, dI rest] ∧ NetOk N ∧ s.length = N.rs.length ∧ HsOk N rest ∧ d = dC (cnt N s rest)
theorem ok_counts_in (T : Txt K mg fs fds) : Ok P w K mg base 6 (fs 26) (fds 26) P_counts_in Φ_counts_in := by
  refine fn_d T.counts_in.F sc_counts_in (fun _ _ ⟨N, s, rest, e, _⟩ => by rw [e]; rfl) fun cdv A outer s0 H E ds d hr ⟨N, s, rest, e1, hok, hl, hs, e2⟩ => ?_
  subst e1 e2
  exact dss_one (ds_ret (en_call ((ok_lengths_from T).mono (by decide)) hr T.lengths_from.g T.lengths_from.F.kp T.lengths_from.b (ecs_cons ((ec_var 0)) (ecs_cons ((ec_var 1)) (ecs_cons (en_c (en_call ((ok_ends_of T).mono (by decide)) hr T.ends_of.g T.ends_of.F.kp T.ends_of.b (ecs_cons ((ec_var 0)) (ecs_cons ((ec_var 1)) (ecs_cons ((ec_var 2)) ecs_nil))) (⟨N, s, rest, rfl, hok, hl, hs, rfl⟩))) ecs_nil))) (⟨N, s, ends N s rest, rfl, hok, hl, rfl⟩)) rfl)
def Φ_check_resting : List PyData → PyData → Prop := fun ds d => ∃ N s rest, ds = [encN N, dI s, dI rest] ∧ NetOk N ∧ StOk N s ∧ HsOk N rest ∧ d = .none
theorem ok_check_resting (T : Txt K mg fs fds) : Ok P w K mg base 7 (fs 27) (fds 27) P_check_resting Φ_check_resting := by
  refine fn_d T.check_resting.F sc_check_resting (fun _ _ ⟨N, s, rest, e, _⟩ => by rw [e]; rfl) fun cdv A outer s0 H E ds d hr ⟨N, s, rest, e1, hok, hl, hs, e2⟩ => ?_
  subst e1 e2
  exact dss_seq (ds_expr (en_a (en_call ((ok_check_standing T).mono (by decide)) hr T.check_standing.g T.check_standing.F.kp T.check_standing.b (ecs_cons ((ec_var 0)) (ecs_cons ((ec_var 1)) ecs_nil)) (⟨N, s, rfl, hok, hl, rfl⟩))) (dss_one (ds_expr (en_a (en_call ((ok_check_houses T).mono (by decide)) hr T.check_houses.g T.check_houses.F.kp T.check_houses.b (ecs_cons ((ec_var 0)) (ecs_cons ((ec_var 2)) ecs_nil)) (⟨N, rest, rfl, hs, hok.n12, rfl⟩))) rfl)))
def Φ_counts : List PyData → PyData → Prop := fun ds d => ∃ N s rest, ds = [encN N, dI s, dI rest] ∧ NetOk N ∧ StOk N s ∧ HsOk N rest ∧ d = dC (cnt N s rest)
theorem ok_counts (T : Txt K mg fs fds) : Ok P w K mg base 8 (fs 28) (fds 28) P_counts Φ_counts := by
  refine fn_d T.counts.F sc_counts (fun _ _ ⟨N, s, rest, e, _⟩ => by rw [e]; rfl) fun cdv A outer s0 H E ds d hr ⟨N, s, rest, e1, hok, hl, hs, e2⟩ => ?_
  subst e1 e2
  exact dss_seq (ds_expr (en_a (en_call ((ok_check_resting T).mono (by decide)) hr T.check_resting.g T.check_resting.F.kp T.check_resting.b (ecs_cons ((ec_var 0)) (ecs_cons ((ec_var 1)) (ecs_cons ((ec_var 2)) ecs_nil))) (⟨N, s, rest, rfl, hok, hl, hs, rfl⟩))) (dss_one (ds_ret (en_call ((ok_counts_in T).mono (by decide)) hr T.counts_in.g T.counts_in.F.kp T.counts_in.b (ecs_cons ((ec_var 0)) (ecs_cons ((ec_var 1)) (ecs_cons ((ec_var 2)) ecs_nil))) (⟨N, s, rest, rfl, hok, hl.len, hs, rfl⟩)) rfl)))
def Φ_last_standing : List PyData → PyData → Prop := fun ds d => ∃ N s rest, ds = [encN N, dI s, dI rest] ∧ NetOk N ∧ StOk N s ∧ HsOk N rest ∧ d = last N s rest
theorem ok_last_standing (T : Txt K mg fs fds) : Ok P w K mg base 8 (fs 29) (fds 29) P_last_standing Φ_last_standing := by
  refine fn_d T.last_standing.F sc_last_standing (fun _ _ ⟨N, s, rest, e, _⟩ => by rw [e]; rfl) fun cdv A outer s0 H E ds d hr ⟨N, s, rest, e1, hok, hl, hs, e2⟩ => ?_
  subst e1 e2
  refine dss_seq (ds_expr (en_a (en_call ((ok_check_resting T).mono (by decide)) hr T.check_resting.g T.check_resting.F.kp T.check_resting.b (ecs_cons ((ec_var 0)) (ecs_cons ((ec_var 1)) (ecs_cons ((ec_var 2)) ecs_nil))) (⟨N, s, rest, rfl, hok, hl, hs, rfl⟩))) ?_)
  refine dss_seq (ds_set 3 (en_c (en_call ((ok_counts_in T).mono (by decide)) hr T.counts_in.g T.counts_in.F.kp T.counts_in.b (ecs_cons ((ec_var 0)) (ecs_cons ((ec_var 1)) (ecs_cons ((ec_var 2)) ecs_nil))) (⟨N, s, rest, rfl, hok, hl.len, hs, rfl⟩))) ?_ sc_last_standing.nd)
  refine dss_one (ds_ret (d := last N s rest) (en_if (k := (cnt N s rest).any Option.isNone) (et_is (et_in hr.u (en_a en_none) (ec_a (ec_var 3)) sh_none.ok (sh_dC _).ok) (inD_none _)) (fun h => ?_) (fun h => ?_)) rfl)
  · rw [show last N s rest = .none by unfold last allC; rw [h]; rfl]
    exact en_none
  · rw [show last N s rest = dI (behind N s (numC (cnt N s rest))) by unfold last allC; rw [h]; rfl]
    exact (en_call ((ok_with_works T).mono (by decide)) hr T.with_works.g T.with_works.F.kp T.with_works.b (ecs_cons ((ec_var 0)) (ecs_cons ((ec_var 1)) (ecs_cons (ec_is (ec_var 3) (congrArg PyData.list (allC_num h))) ecs_nil))) (⟨N, s, numC (cnt N s rest), rfl, hok, hl.len, by unfold numC cnt; rw [List.length_map, lenN_len]; have := hok.n1; omega, rfl⟩))
end
end KR
namespace KR
open PySem L2
/-! ### the law's own words -/
theorem srtT_perm_eq {L M : List (List Int)} (p : L.Perm M) (hL : ∀ n ∈ L, n.length = 2 ∧ TS.Bd 100 n) : srtT L = srtT M := by
  refine map_code_inj (fun n hn => hL n ((srtT_perm L).mem_iff.mp hn)) (fun n hn => hL n (p.mem_iff.mpr ((srtT_perm M).mem_iff.mp hn))) ?_
  rw [srtT_map, srtT_map]
  exact perm_srt_eq ((srt_perm _).trans ((p.map _).trans (srt_perm _).symm)) (srt_srt _) (srt_srt _)
theorem perm_pairs : ∀ rs : List Road, (rs.flatMap fun r => [[r.1, r.2.1], [r.2.1, r.1]]).Perm (rs.map (fun r => [r.1, r.2.1]) ++ rs.map (fun r => [r.2.1, r.1]))
  | [] => .refl _
  | r :: rs => by
    rw [List.flatMap_cons, List.map_cons, List.map_cons]
    have ih := perm_pairs rs
    refine (ih.append_left _).trans ?_
    show ([r.1, r.2.1] :: [r.2.1, r.1] :: (_ ++ _)).Perm ([r.1, r.2.1] :: (_ ++ [r.2.1, r.1] :: _))
    exact List.Perm.cons _ (show ([r.2.1, r.1] :: (rs.map (fun r => [r.1, r.2.1]) ++ rs.map (fun r => [r.2.1, r.1]))).Perm _ from List.perm_middle.symm)
theorem perm_mates (h : Int) : ∀ rs : List Road, (∀ r ∈ rs, r.1 < r.2.1) → ((rs.filter fun r => decide (h = r.1 ∨ h = r.2.1)).map fun r => r.1 + r.2.1 - h).Perm ((rs.filter fun r => decide (r.2.1 = h)).map (fun r => r.1) ++ (rs.filter fun r => decide (r.1 = h)).map (fun r => r.2.1))
  | [], _ => .refl _
  | r :: rs, hr => by
    have ih := perm_mates h rs fun x hx => hr x (List.mem_cons_of_mem _ hx)
    have lt := hr r List.mem_cons_self
    by_cases h1 : r.2.1 = h
    · have n1 : ¬ r.1 = h := by omega
      rw [List.filter_cons, if_pos (by exact decide_eq_true (.inr h1.symm)), List.filter_cons, if_pos (decide_eq_true h1), List.filter_cons, if_neg (by rw [decide_eq_false n1]; decide), List.map_cons, List.map_cons, List.cons_append]
      rw [show r.1 + r.2.1 - h = r.1 by omega]
      exact ih.cons _
    · by_cases h2 : r.1 = h
      · rw [List.filter_cons, if_pos (by exact decide_eq_true (.inl h2.symm)), List.filter_cons, if_neg (by rw [decide_eq_false h1]; decide), List.filter_cons, if_pos (decide_eq_true h2), List.map_cons, List.map_cons]
        rw [show r.1 + r.2.1 - h = r.2.1 by omega]
        exact (ih.cons _).trans List.perm_middle.symm
      · rw [List.filter_cons, if_neg (by rw [decide_eq_false (by omega)]; decide), List.filter_cons, if_neg (by rw [decide_eq_false h1]; decide), List.filter_cons, if_neg (by rw [decide_eq_false h2]; decide)]
        exact ih
theorem mates_nb {N : Net} (ok : NetOk N) (h : Int) : srt ((N.rs.filter fun r => decide (h = r.1 ∨ h = r.2.1)).map fun r => r.1 + r.2.1 - h) = nb N h :=
  perm_srt_eq ((srt_perm _).trans ((perm_mates h N.rs fun r hr => (ok.road r hr).lt).trans (srt_perm _).symm)) (srt_srt _) (srt_srt _)
section
variable {P : Program} {w : World} {K : PySem.W.Frag} {mg : Str → Option Value} {base : Heap} {fs : Nat → Addr} {fds : Nat → FuncData}
def Φ_L_mates : List PyData → PyData → Prop := Φ_neighbours_of
theorem ok_L_mates (T : Txt K mg fs fds) : Ok P w K mg base 1 (fs 38) (fds 38) P_L_mates Φ_L_mates := by
  refine fn_d T.L_mates.F sc_L_mates (fun _ _ ⟨N, s, e, _⟩ => by rw [e]; rfl) fun cdv A outer s0 H E ds d hr ⟨N, h, e1, hok, e2⟩ => ?_
  subst e1 e2
  have few := hok.few
  refine dss_seq (ds_own 2 (en_lst ecs_nil) ?_ sc_L_mates.nd)
  refine dss_seq (ds_for (ei_list (ec_ixT (ec_var 0) (en_a en_int) rfl)) (fun i ρ => ∃ e3 e4 e5, ρ = [.val (encN N), .val (.int h), .own ((((N.rs.take i).filter fun r => decide (h = r.1 ∨ h = r.2.1)).map fun r => r.1 + r.2.1 - h).map PyData.int), e3, e4, e5]) ⟨_, _, _, rfl⟩ ?_ ?_)
  · rintro i d ρ' hd ⟨e3, e4, e5, rfl⟩
    rw [List.getElem?_map] at hd
    cases hp : N.rs[i]? with
    | none => rw [hp] at hd; cases hd
    | some r =>
      rw [hp] at hd
      cases hd
      refine ⟨_, _, (at_tup (ats_cons (at_name 3 sc_L_mates.nd) (ats_cons (at_name 4 sc_L_mates.nd) (ats_cons (at_name 5 sc_L_mates.nd) ats_nil)))), ?_⟩
      rw [show (N.rs.take (i + 1)) = N.rs.take i ++ [r] by rw [List.take_add_one, hp]; rfl, List.filter_append, List.map_append, List.map_append]
      refine dss_one (ds_if (k := decide (h = r.1 ∨ h = r.2.1)) (et_is (et_in hr.u (ec_a (ec_var 1)) (en_a (en_lst (ecs_cons ((ec_var 3)) (ecs_cons ((ec_var 4)) ecs_nil)))) (sh_int _).ok ((sh_dI [r.1, r.2.1]).ok)) ?_) (fun z => ?_) (fun z => ?_))
      · have e := inD_ints h [r.1, r.2.1]
        refine e.trans ?_
        simp
      · rw [List.filter_cons, if_pos z]
        refine dss_one (ds_app 2 (en_c (en_sub (en_a (en_add (ec_a (ec_var 3)) (ec_a (ec_var 4)))) (ec_a (ec_var 1)))) ⟨_, _, _, rfl⟩ ?_)
        rw [List.length_map, List.length_map]
        have := List.length_filter_le (fun r : Road => decide (h = r.1 ∨ h = r.2.1)) (N.rs.take i)
        have : (N.rs.take i).length ≤ N.rs.length := by rw [List.length_take]; omega
        omega
      · rw [List.filter_cons, if_neg (by rw [z]; decide), List.filter_nil, List.map_nil, List.map_nil, List.append_nil]
        exact dss_nil ⟨_, _, _, rfl⟩
  · rintro ρ' ⟨e3, e4, e5, rfl⟩
    rw [List.length_map, List.take_length]
    exact dss_one (ds_ret (en_is (en_callB (cr_sortedI) (cl_sorted) T.B.sorted (eas_cons ((ea_own 2)) eas_nil)) (by rw [mates_nb hok])) rfl)
def Φ_L_keys : List PyData → PyData → Prop := Φ_keys_in
theorem ok_L_keys (T : Txt K mg fs fds) : Ok P w K mg base 1 (fs 39) (fds 39) P_L_keys Φ_L_keys := by
  refine fn_d T.L_keys.F sc_L_keys (fun _ _ ⟨N, s, u, v, e, _⟩ => by rw [e]; rfl) fun cdv A outer s0 H E ds d hr ⟨N, s, u, v, e1, hok, hl, hj, e2⟩ => ?_
  subst e1 e2
  refine dss_cons (mid := fun _ => False) (ds_for (ei_enumM (ec_ixT (ec_var 0) (en_a en_int) rfl) T.B.enumerate) (fun i ρ => (∀ (j : Nat) r, j < i → N.rs[j]? = some r → ¬ onR u v r) ∧ ∃ e4 e5 e6 e7, ρ = [.val (encN N), .val (dI s), .val (.int u), .val (.int v), e4, e5, e6, e7]) ⟨fun j r h => by omega, _, _, _, _, rfl⟩ ?_ ?_) (fun _ z => False.elim z)
  · rintro i d ρ' hd ⟨hn, e4, e5, e6, e7, rfl⟩
    rw [List.getElem?_map, List.getElem?_zipIdx] at hd
    cases hp : N.rs[i]? with
    | none => rw [hp] at hd; cases hd
    | some r =>
      rw [hp] at hd
      cases hd
      have li := (List.getElem?_eq_some_iff.mp hp).1
      have kr := hok.road r (List.mem_of_getElem? hp)
      have a1 := at_get (enc := PyData.int) (xs := s) (i := ((0 + i : Nat) : Int)) (by omega) (by omega)
      have g1 : s.getD i 0 = s[(((0 + i : Nat) : Int)).toNat]'(by omega) := by
        have e : (((0 + i : Nat) : Int)).toNat = i := by omega
        rw [List.getD_eq_getElem?_getD, List.getElem?_eq_getElem (by omega)]
        simp [e]
      rw [← g1] at a1
      have ka := key_at hok hl (u := u) (v := v) hp
      refine ⟨_, _, (at_tup (ats_cons (at_name 4 sc_L_keys.nd) (ats_cons ((at_tup (ats_cons (at_name 5 sc_L_keys.nd) (ats_cons (at_name 6 sc_L_keys.nd) (ats_cons (at_name 7 sc_L_keys.nd) ats_nil))))) ats_nil))), ?_⟩
      refine dss_seq (ds_if (et_is (et_eq hr.u4 (en_a (en_tup (ecs_cons ((ec_var 5)) (ecs_cons ((ec_var 6)) ecs_nil)))) (en_a (en_tup (ecs_cons ((ec_var 2)) (ecs_cons ((ec_var 3)) ecs_nil)))) (sh_encT [r.1, r.2.1]).ok (sh_encT [u, v]).ok) (eqv_encT [r.1, r.2.1] [u, v])) (fun z => ?_) (fun z => dss_nil ?_))
      · have z := of_decide_eq_true z
        injection z with z1 z
        injection z with z2 _
        have lt := kr.lt
        refine dss_one (ds_ret (en_is (en_ixL (ec_a (ec_var 1)) (ec_a (ec_var 4)) a1) ?_) rfl)
        rw [ka (.inl ⟨z1, z2⟩), if_pos (by omega)]
      · have z := of_decide_eq_false z
        refine dss_one (ds_if (et_is (et_eq hr.u4 (en_a (en_tup (ecs_cons ((ec_var 5)) (ecs_cons ((ec_var 6)) ecs_nil)))) (en_a (en_tup (ecs_cons ((ec_var 3)) (ecs_cons ((ec_var 2)) ecs_nil)))) (sh_encT [r.1, r.2.1]).ok (sh_encT [v, u]).ok) (eqv_encT [r.1, r.2.1] [v, u])) (fun z' => ?_) (fun z' => dss_nil ?_))
        · have z' := of_decide_eq_true z'
          injection z' with z1 z'
          injection z' with z2 _
          have lt := kr.lt
          refine dss_one (ds_ret (en_is (en_sub (ec_a (ec_var 7)) (en_a (en_ixL (ec_a (ec_var 1)) (ec_a (ec_var 4)) a1))) ?_) rfl)
          rw [ka (.inr ⟨z1, z2⟩), if_neg (by omega)]
        · have z' := of_decide_eq_false z'
          refine ⟨fun j q hj' hq => ?_, _, _, _, _, rfl⟩
          by_cases e : j = i
          · subst e
            rw [hp] at hq
            cases hq
            rintro (⟨o1, o2⟩ | ⟨o1, o2⟩)
            · exact z (by rw [o1, o2])
            · exact z' (by rw [o1, o2])
          · exact hn j q (by omega) hq
  · rintro ρ' ⟨hn, _⟩
    rw [List.length_map, List.length_zipIdx] at hn
    obtain ⟨j, r, hjr, o⟩ := hj.at
    exact hn j r (List.getElem?_eq_some_iff.mp hjr).1 hjr o
def Φ_L_pairs : List PyData → PyData → Prop := Φ_directions_of
theorem ok_L_pairs (T : Txt K mg fs fds) : Ok P w K mg base 1 (fs 40) (fds 40) P_L_pairs Φ_L_pairs := by
  refine fn_d T.L_pairs.F sc_L_pairs (fun _ _ ⟨N, e, _⟩ => by rw [e]; rfl) fun cdv A outer s0 H E ds d hr ⟨N, e1, hok, e2⟩ => ?_
  subst e1 e2
  have few := hok.few
  refine dss_seq (ds_set 1 (en_c (en_lst ecs_nil)) ?_ sc_L_pairs.nd)
  refine dss_seq (ds_for (ei_list (ec_ixT (ec_var 0) (en_a en_int) rfl)) (fun i ρ => ∃ e2 e3 e4, ρ = [.val (encN N), .val (.list (((N.rs.take i).flatMap fun r => [[r.1, r.2.1], [r.2.1, r.1]]).map encT)), e2, e3, e4]) ⟨_, _, _, rfl⟩ ?_ ?_)
  · rintro i d ρ' hd ⟨e2, e3, e4, rfl⟩
    rw [List.getElem?_map] at hd
    cases hp : N.rs[i]? with
    | none => rw [hp] at hd; cases hd
    | some r =>
      rw [hp] at hd
      cases hd
      refine ⟨_, _, (at_tup (ats_cons (at_name 2 sc_L_pairs.nd) (ats_cons (at_name 3 sc_L_pairs.nd) (ats_cons (at_name 4 sc_L_pairs.nd) ats_nil)))), ?_⟩
      rw [show (N.rs.take (i + 1)) = N.rs.take i ++ [r] by rw [List.take_add_one, hp]; rfl, List.flatMap_append, List.map_append]
      refine dss_one (ds_set 1 (en_c (en_cat (ec_var 1) (en_c (en_lst (ecs_cons (en_c (en_tup (ecs_cons ((ec_var 2)) (ecs_cons ((ec_var 3)) ecs_nil)))) (ecs_cons (en_c (en_tup (ecs_cons ((ec_var 3)) (ecs_cons ((ec_var 2)) ecs_nil)))) ecs_nil)))) ?_)) ⟨_, _, _, rfl⟩ sc_L_pairs.nd)
      rw [List.length_map, (perm_pairs _).length_eq, List.length_append, List.length_map, List.length_map, sizeLine_eq]
      have : (N.rs.take i).length ≤ N.rs.length := by rw [List.length_take]; omega
      show _ + 2 ≤ _
      omega
  · rintro ρ' ⟨e2, e3, e4, rfl⟩
    rw [List.length_map, List.take_length]
    have pp := perm_pairs N.rs
    have bdp : ∀ n ∈ N.rs.flatMap fun r => [[r.1, r.2.1], [r.2.1, r.1]], n.length = 2 ∧ TS.Bd 100 n := fun n hn => dirs_bd hok n (pp.mem_iff.mp hn)
    refine dss_one (ds_ret (en_is (en_callBC (cr_sortT (by decide)) (cl_sortT (dlen := 2) bdp (by rw [pp.length_eq]; exact len_dirs hok)) T.B.sorted (ecs_cons (ec_var 1) ecs_nil)) ?_) rfl)
    rw [srtT_perm_eq pp bdp]
    rfl
end
end KR
namespace KR
open PySem L2
/-! ### the law's lengths, stuck houses, counts -/
def stepsL (N : Net) (s : List Int) : List (List Int) := (dirs N).filter fun p => decide (key N s (p.getD 0 0) (p.getD 1 0) = 0)
def rchL (N : Net) (s : List Int) (h : Int) : Nat → List Int
  | 0 => ((stepsL N s).filter fun p => decide (p.getD 0 0 = h)).map fun p => p.getD 1 0
  | k + 1 => rchL N s h k ++ ((stepsL N s).filter fun p => decide (p.getD 0 0 ∈ rchL N s h k) && decide (¬ p.getD 1 0 ∈ rchL N s h k)).map fun p => p.getD 1 0
def stkL (N : Net) (s : List Int) : List Int := (rgI 0 N.n).filter fun h => decide (h ∈ rchL N s h N.n.toNat)
def endsL (N : Net) (s rest : List Int) : List Int := srtU (rest ++ stkL N s)
def cntL (N : Net) (s rest : List Int) : Ct := lenN N s (endsL N s rest) (N.n.toNat + 1)
theorem dirs_few {N : Net} (ok : NetOk N) : (dirs N).length ≤ 56 := by
  have e : (dirs N).length = _ := (srtT_perm _).length_eq
  rw [e, List.length_append, List.length_map, List.length_map]
  have := ok.few
  omega
theorem steps_few {N : Net} (ok : NetOk N) {s : List Int} : (stepsL N s).length ≤ 56 := Nat.le_trans (List.length_filter_le _ _) (dirs_few ok)
theorem rchL_few {N : Net} (ok : NetOk N) {s : List Int} {h : Int} : ∀ k, (rchL N s h k).length ≤ 56 + k * 56
  | 0 => by
    show (List.map _ (List.filter _ _)).length ≤ _
    rw [List.length_map]
    have := List.length_filter_le (fun p : List Int => decide (p.getD 0 0 = h)) (stepsL N s)
    have := steps_few ok (s := s)
    omega
  | k + 1 => by
    show (rchL N s h k ++ List.map _ (List.filter _ _)).length ≤ _
    rw [List.length_append, List.length_map]
    have := rchL_few ok (s := s) (h := h) k
    have := List.length_filter_le (fun p : List Int => decide (p.getD 0 0 ∈ rchL N s h k) && decide (¬ p.getD 1 0 ∈ rchL N s h k)) (stepsL N s)
    have := steps_few ok (s := s)
    omega
theorem step_of {N : Net} (ok : NetOk N) {s p : List Int} (h : p ∈ stepsL N s) : ∃ u v, p = [u, v] ∧ Joined N u v ∧ key N s u v = 0 := by
  have h' := List.mem_filter.mp h
  obtain ⟨u, v, rfl, j⟩ := dir_of ok h'.1
  exact ⟨u, v, rfl, j, of_decide_eq_true h'.2⟩
section
variable {P : Program} {w : World} {K : PySem.W.Frag} {mg : Str → Option Value} {base : Heap} {fs : Nat → Addr} {fds : Nat → FuncData}
def Φ_L_lengths : List PyData → PyData → Prop := fun ds d => ∃ N s hs, ds = [encN N, dI s, dI hs] ∧ NetOk N ∧ s.length = N.rs.length ∧ d = dC (lenN N s hs (N.n.toNat + 1))
theorem ok_L_lengths (T : Txt K mg fs fds) : Ok P w K mg base 2 (fs 41) (fds 41) P_L_lengths Φ_L_lengths := by
  refine fn_d T.L_lengths.F sc_L_lengths (fun _ _ ⟨N, s, hs, e, _⟩ => by rw [e]; rfl) fun cdv A outer s0 H E ds d hr ⟨N, s, hs, e1, hok, hl, e2⟩ => ?_
  subst e1 e2
  have few := hok.few
  have n1 := hok.n1
  have n12 := hok.n12
  refine dss_seq (ds_lcO 3 (own := [("_law_house", 8)]) (xs := rgI 0 N.n) (enc := PyData.int) (c := fun _ => true) (f := fun h => encO (if h ∈ hs then some 0 else none)) (ei_range1 (en_a (en_ixT (ec_var 0) (en_a en_int) rfl)) T.B.range (by omega) (by omega)) (fun h hm =>
    ⟨_, _, fun s_ H_ C_ cl_ fp_ => at_name 8 sc_L_lengths.nd, by decide, fun s_ H_ C_ cl_ fp_ => ets_nil, fun _ => fun s_ H_ C_ cl_ fp_ => en_c (en_if (k := decide (h ∈ hs)) (et_is (et_in hr.u (ec_a (ec_var 8)) (ec_a (ec_var 2)) (sh_int _).ok (sh_dI _).ok) (inD_ints _ _)) (fun z => ?_) (fun z => ?_))⟩)
    ?_ (blkOk_by (N := N_L_lengths) (sc := defScope st_L_lengths) (by decide +kernel)) sc_L_lengths.nd (by rw [rgI_len]; omega) (sw_true rfl rfl rfl (by decide +kernel)))
  · rw [if_pos (of_decide_eq_true z)]; exact en_int
  · rw [if_neg (of_decide_eq_false z)]; exact en_none
  rw [filter_true, show ((rgI 0 N.n).map fun h => encO (if h ∈ hs then some 0 else none)) = (lenN N s hs 0).map encO by unfold lenN init0; rw [List.map_map]; rfl]
  refine dss_seq (ds_for (ei_range1 (en_a (en_add (en_a (en_ixT (ec_var 0) (en_a en_int) rfl)) (en_a en_int))) T.B.range (by omega) (by omega)) (fun i ρ => ∃ e4 e5 e6 e7 e8, ρ = [.val (encN N), .val (dI s), .val (dI hs), .own ((lenN N s hs i).map encO), e4, e5, e6, e7, e8]) ⟨_, _, _, _, _, rfl⟩ ?_ ?_)
  · rintro i d ρ' hd ⟨e4, e5, e6, e7, e8, rfl⟩
    refine ⟨_, _, at_name 4 sc_L_lengths.nd, ?_⟩
    refine dss_one (ds_for (ei_list (en_c (en_call ((ok_L_pairs T).mono (by decide)) hr T.L_pairs.g T.L_pairs.F.kp T.L_pairs.b (ecs_cons ((ec_var 0)) ecs_nil) (⟨N, rfl, hok, rfl⟩)))) (fun j ρ => ∃ e4 e5 e6 e7 e8, ρ = [.val (encN N), .val (dI s), .val (dI hs), .own ((((dirs N).take j).foldl (relax1 N s) (lenN N s hs i)).map encO), e4, e5, e6, e7, e8]) ⟨_, _, _, _, _, rfl⟩ ?_ ?_)
    · rintro j d ρ' hd ⟨e4, e5, e6, e7, e8, rfl⟩
      rw [List.getElem?_map] at hd
      cases hp : (dirs N)[j]? with
      | none => rw [hp] at hd; cases hd
      | some p =>
        rw [hp] at hd
        cases hd
        obtain ⟨u, v, rfl, hj⟩ := dir_of hok (List.mem_of_getElem? hp)
        have bd := hj.bd hok
        refine ⟨_, _, (at_tup (ats_cons (at_name 5 sc_L_lengths.nd) (ats_cons (at_name 6 sc_L_lengths.nd) ats_nil))), ?_⟩
        have tk : ((dirs N).take (j + 1)).foldl (relax1 N s) (lenN N s hs i) = relax1 N s (((dirs N).take j).foldl (relax1 N s) (lenN N s hs i)) [u, v] := by
          rw [List.take_add_one, hp, List.foldl_append]; rfl
        generalize hf : ((dirs N).take j).foldl (relax1 N s) (lenN N s hs i) = f at tk ⊢
        have lf : f.length = N.n.toNat := by rw [← hf, foldl_len, lenN_len]
        rw [tk]
        have hu : u.toNat < f.length := by omega
        have hv : v.toNat < f.length := by omega
        refine dss_one (ds_if (et_notN (ea_ixL (ea_own 3) (ec_a (ec_var 5)) (at_mapC (by omega) hu))) (fun h => ?_) (fun h => ?_))
        · rw [isN_encO] at h
          obtain ⟨a, ha⟩ : ∃ a, gC f u = some a := by
            cases q : gC f u with
            | none => rw [q] at h; cases h
            | some a => exact ⟨a, rfl⟩
          have h1 := at_mapC (f := f) (i := u) (by omega) hu
          rw [ha] at h1
          refine dss_seq (ds_set 7 (en_c (en_add (en_a (en_ixL (ea_own 3) (ec_a (ec_var 5)) h1)) (en_a (en_call ((ok_L_keys T).mono (by decide)) hr T.L_keys.g T.L_keys.F.kp T.L_keys.b (ecs_cons ((ec_var 0)) (ecs_cons ((ec_var 1)) (ecs_cons ((ec_var 5)) (ecs_cons ((ec_var 6)) ecs_nil)))) (⟨N, s, u, v, rfl, hok, hl, hj, rfl⟩))))) ?_ sc_L_lengths.nd)
          have er : relax1 N s f [u, v] = if better (a + key N s u v) (gC f v) then f.set v.toNat (some (a + key N s u v)) else f := by
            show (match gC f u with | none => f | some a => _) = _
            rw [ha]; rfl
          rw [er]
          have h2 := at_mapC (f := f) (i := v) (by omega) hv
          refine dss_one (ds_if (k := better (a + key N s u v) (gC f v)) ?_ (fun z => ?_) (fun z => ?_))
          · cases q : gC f v with
            | none =>
              rw [q] at h2
              exact et_is (et_w (ew_or (l := true) (et_isN (ea_ixL (ea_own 3) (ec_a (ec_var 6)) h2)) (fun z => by cases z))) rfl
            | some b =>
              rw [q] at h2
              exact et_is (et_w (ew_or (et_isN (ea_ixL (ea_own 3) (ec_a (ec_var 6)) h2)) (fun _ => ew_or1 (et_gt (ea_ixL (ea_own 3) (ec_a (ec_var 6)) h2) (ec_a (ec_var 7)))))) rfl
          · rw [if_pos z]
            refine dss_one (ds_setIx 3 (ds := f.map encO) (j := v.toNat) (d := .int (a + key N s u v)) (ec_var 7) (ea_is (ec_a (ec_var 6)) (by rw [Int.toNat_of_nonneg (by omega)])) (by rw [List.length_map]; omega) ?_)
            have em : (f.set v.toNat (some (a + key N s u v))).map encO = (f.map encO).set v.toNat (.int (a + key N s u v)) := List.map_set
            rw [em]
            exact ⟨_, _, _, _, _, rfl⟩
          · rw [if_neg (by rw [z]; decide)]
            exact dss_nil ⟨_, _, _, _, _, rfl⟩
        · rw [isN_encO] at h
          have ha : gC f u = none := by
            cases q : gC f u with
            | none => rfl
            | some a => rw [q] at h; cases h
          have er : relax1 N s f [u, v] = f := by
            show (match gC f u with | none => f | some a => _) = _
            rw [ha]
          rw [er]
          exact dss_nil ⟨_, _, _, _, _, rfl⟩
    · rintro ρ' ⟨e4, e5, e6, e7, e8, rfl⟩
      rw [List.length_map, List.take_length]
      exact ⟨_, _, _, _, _, rfl⟩
  · rintro ρ' ⟨e4, e5, e6, e7, e8, rfl⟩
    rw [List.length_map, rgI_len, show (N.n + 1 - 0).toNat = N.n.toNat + 1 by omega]
    exact dss_one (ds_retO 3 rfl)
def Φ_L_stuck : List PyData → PyData → Prop := fun ds d => ∃ N s, ds = [encN N, dI s] ∧ NetOk N ∧ s.length = N.rs.length ∧ d = dI (stkL N s)
theorem ok_L_stuck (T : Txt K mg fs fds) : Ok P w K mg base 2 (fs 42) (fds 42) P_L_stuck Φ_L_stuck := by
  refine fn_d T.L_stuck.F sc_L_stuck (fun _ _ ⟨N, s, e, _⟩ => by rw [e]; rfl) fun cdv A outer s0 H E ds d hr ⟨N, s, e1, hok, hl, e2⟩ => ?_
  subst e1 e2
  have n12 := hok.n12
  have n1 := hok.n1
  have few := hok.few
  have dfew := dirs_few hok
  have sfew := steps_few hok (s := s)
  refine dss_seq (ds_lc 2 (own := [("_law_pair", 7)]) (xs := dirs N) (enc := encT) (c := fun p => decide (key N s (p.getD 0 0) (p.getD 1 0) = 0)) (f := encT) (ei_list (en_c (en_call ((ok_L_pairs T).mono (by decide)) hr T.L_pairs.g T.L_pairs.F.kp T.L_pairs.b (ecs_cons ((ec_var 0)) ecs_nil) (⟨N, rfl, hok, rfl⟩))))
    (fun p hm => ?_) ?_ (blkOk_by (N := N_L_stuck) (sc := defScope st_L_stuck) (by decide +kernel)) sc_L_stuck.nd (by omega) (sw_true rfl rfl rfl (by decide +kernel)))
  · obtain ⟨u, v, rfl, hj⟩ := dir_of hok hm
    exact ⟨_, _, fun s_ H_ C_ cl_ fp_ => at_name 7 sc_L_stuck.nd, by decide, fun s_ H_ C_ cl_ fp_ => ets_is (et_eqI (en_a (en_call ((ok_L_keys T).mono (by decide)) hr T.L_keys.g T.L_keys.F.kp T.L_keys.b (ecs_cons ((ec_var 0)) (ecs_cons ((ec_var 1)) (ecs_cons (ec_ixT (ds := [.int u, .int v]) (ec_var 7) (en_a en_int) rfl) (ecs_cons (ec_ixT (ds := [.int u, .int v]) (ec_var 7) (en_a en_int) rfl) ecs_nil)))) (⟨N, s, u, v, rfl, hok, hl, hj, rfl⟩))) (en_a en_int)) rfl, fun _ => fun s_ H_ C_ cl_ fp_ => (ec_var 7)⟩
  rw [show ((dirs N).filter fun p => decide (key N s (p.getD 0 0) (p.getD 1 0) = 0)) = stepsL N s from rfl]
  refine dss_seq (ds_own 3 (en_lst ecs_nil) ?_ sc_L_stuck.nd)
  refine dss_seq (ds_for (ei_range1 (en_a (en_ixT (ec_var 0) (en_a en_int) rfl)) T.B.range (by omega) (by omega)) (fun i ρ => ∃ e4 e5 e6 e7 e8 e9, ρ = [.val (encN N), .val (dI s), .val (.list ((stepsL N s).map encT)), .own ((((rgI 0 N.n).take i).filter fun h => decide (h ∈ rchL N s h N.n.toNat)).map PyData.int), e4, e5, e6, e7, e8, e9]) ⟨_, _, _, _, _, _, rfl⟩ ?_ ?_)
  · rintro i d ρ' hd ⟨e4, e5, e6, e7, e8, e9, rfl⟩
    rw [List.getElem?_map] at hd
    cases hp : (rgI 0 N.n)[i]? with
    | none => rw [hp] at hd; cases hd
    | some h =>
      rw [hp] at hd
      cases hd
      refine ⟨_, _, at_name 4 sc_L_stuck.nd, ?_⟩
      refine dss_seq (ds_set 5 (en_c (en_is (en_lc (own := [("_law_one", 8), ("_law_other", 9)]) (xs := stepsL N s) (enc := encT) (c := fun p => decide (p.getD 0 0 = h)) (f := fun p => .int (p.getD 1 0)) (ei_list (ec_var 2))
        (fun p hm => ?_) (blkOk_by (N := N_L_stuck) (sc := defScope st_L_stuck) (by decide +kernel)) sc_L_stuck.nd (by omega)) (d' := dI (rchL N s h 0)) (by unfold dI rchL; rw [List.map_map]; rfl))) ?_ sc_L_stuck.nd)
      · obtain ⟨u, v, rfl, hj, _⟩ := step_of hok hm
        exact ⟨_, _, fun s_ H_ C_ cl_ fp_ => (at_tup (ats_cons (at_name 8 sc_L_stuck.nd) (ats_cons (at_name 9 sc_L_stuck.nd) ats_nil))), by decide, fun s_ H_ C_ cl_ fp_ => ets_is (et_eqI (ec_a (ec_var 8)) (ec_a (ec_var 4))) rfl, fun _ => fun s_ H_ C_ cl_ fp_ => (ec_var 9)⟩
      refine dss_seq (ds_for (ei_range1 (en_a (en_ixT (ec_var 0) (en_a en_int) rfl)) T.B.range (by omega) (by omega)) (fun j ρ => ∃ e6 e7 e8 e9, ρ = [.val (encN N), .val (dI s), .val (.list ((stepsL N s).map encT)), .own ((((rgI 0 N.n).take i).filter fun h => decide (h ∈ rchL N s h N.n.toNat)).map PyData.int), .val (.int h), .val (dI (rchL N s h j)), e6, e7, e8, e9]) ⟨_, _, _, _, rfl⟩ ?_ ?_)
      · rintro j d ρ' hd ⟨e6, e7, e8, e9, rfl⟩
        have hj : j < 12 := by
          have := (List.getElem?_eq_some_iff.mp hd).1
          rw [List.length_map, rgI_len] at this
          omega
        have rf := rchL_few hok (s := s) (h := h) j
        refine ⟨_, _, at_name 6 sc_L_stuck.nd, ?_⟩
        have tk : dI (rchL N s h (j + 1)) = .list ((rchL N s h j).map PyData.int ++ ((stepsL N s).filter fun p => decide (p.getD 0 0 ∈ rchL N s h j) && decide (¬ p.getD 1 0 ∈ rchL N s h j)).map fun p => .int (p.getD 1 0)) := by
          show dI (rchL N s h j ++ List.map _ (List.filter _ _)) = _
          unfold dI
          rw [List.map_append, List.map_map]; rfl
        rw [tk]
        refine dss_one (ds_set 5 (en_c (en_cat (ec_var 5) (en_c (en_lc (own := [("_law_one", 8), ("_law_other", 9)]) (xs := stepsL N s) (enc := encT) (c := fun p => decide (p.getD 0 0 ∈ rchL N s h j) && decide (¬ p.getD 1 0 ∈ rchL N s h j)) (f := fun p => .int (p.getD 1 0)) (ei_list (ec_var 2))
          (fun p hm => ?_) (blkOk_by (N := N_L_stuck) (sc := defScope st_L_stuck) (by decide +kernel)) sc_L_stuck.nd (by omega))) ?_)) ⟨_, _, _, _, rfl⟩ sc_L_stuck.nd)
        · obtain ⟨u, v, rfl, hj, _⟩ := step_of hok hm
          exact ⟨_, _, fun s_ H_ C_ cl_ fp_ => (at_tup (ats_cons (at_name 8 sc_L_stuck.nd) (ats_cons (at_name 9 sc_L_stuck.nd) ats_nil))), by decide, fun s_ H_ C_ cl_ fp_ => ets_is (et_w (ew_and (et_is (et_in hr.u (ec_a (ec_var 8)) (ec_a (ec_var 5)) (sh_int _).ok (sh_dI _).ok) (inD_ints _ _)) (fun _ => ew_and1 (et_is (et_notin hr.u (ec_a (ec_var 9)) (ec_a (ec_var 5)) (sh_int _).ok (sh_dI _).ok) (by rw [inD_ints, decide_not]; rfl))))) rfl, fun _ => fun s_ H_ C_ cl_ fp_ => (ec_var 9)⟩
        · rw [List.length_map, List.length_map, sizeLine_eq]
          have := List.length_filter_le (fun p : List Int => decide (p.getD 0 0 ∈ rchL N s h j) && decide (¬ p.getD 1 0 ∈ rchL N s h j)) (stepsL N s)
          omega
      · rintro ρ' ⟨e6, e7, e8, e9, rfl⟩
        rw [List.length_map, rgI_len, Int.sub_zero]
        rw [show ((rgI 0 N.n).take (i + 1)) = (rgI 0 N.n).take i ++ [h] by rw [List.take_add_one, hp]; rfl, List.filter_append, List.map_append]
        refine dss_one (ds_if (k := decide (h ∈ rchL N s h N.n.toNat)) (et_is (et_in hr.u (ec_a (ec_var 4)) (ec_a (ec_var 5)) (sh_int _).ok (sh_dI _).ok) (inD_ints _ _)) (fun z => ?_) (fun z => ?_))
        · rw [List.filter_cons, if_pos z]
          refine dss_one (ds_app 3 (ec_var 4) ⟨_, _, _, _, _, _, rfl⟩ ?_)
          rw [List.length_map]
          have := List.length_filter_le (fun h => decide (h ∈ rchL N s h N.n.toNat)) ((rgI 0 N.n).take i)
          have : ((rgI 0 N.n).take i).length ≤ (rgI 0 N.n).length := by rw [List.length_take]; omega
          have : (rgI 0 N.n).length = (N.n - 0).toNat := rgI_len
          omega
        · rw [List.filter_cons, if_neg (by rw [z]; decide), List.filter_nil, List.map_nil, List.append_nil]
          exact dss_nil ⟨_, _, _, _, _, _, rfl⟩
  · rintro ρ' ⟨e4, e5, e6, e7, e8, e9, rfl⟩
    rw [List.length_map, List.take_length]
    exact dss_one (ds_retO 3 rfl)
theorem stkL_bd {N : Net} {s : List Int} {h : Int} (hh : h ∈ stkL N s) : 0 ≤ h ∧ h < N.n := mem_rgI.mp (List.mem_filter.mp hh).1
theorem stkL_few {N : Net} (ok : NetOk N) {s : List Int} : (stkL N s).length ≤ 12 := by
  have n12 := ok.n12
  refine Nat.le_trans (List.length_filter_le _ _) ?_
  rw [rgI_len]
  omega
theorem endsL_few {N : Net} (ok : NetOk N) {s rest : List Int} (hr : HsOk N rest) : ∀ zs : List Int, zs.Nodup → (∀ z ∈ zs, z ∈ rest ++ stkL N s) → zs.length < 64 := fun zs nd hz => by
  have n12 := ok.n12
  have n1 := ok.n1
  have := nodup_few N.n.toNat (lo := 0) nd fun z hz' => by
    rcases List.mem_append.mp (hz z hz') with h | h
    · have := hr.bd z h
      omega
    · have := stkL_bd h
      omega
  omega
def Φ_L_ends : List PyData → PyData → Prop := fun ds d => ∃ N s rest, ds = [encN N, dI s, dI rest] ∧ NetOk N ∧ s.length = N.rs.length ∧ HsOk N rest ∧ d = dI (endsL N s rest)
theorem ok_L_ends (T : Txt K mg fs fds) : Ok P w K mg base 3 (fs 43) (fds 43) P_L_ends Φ_L_ends := by
  refine fn_d T.L_ends.F sc_L_ends (fun _ _ ⟨N, s, rest, e, _⟩ => by rw [e]; rfl) fun cdv A outer s0 H E ds d hr ⟨N, s, rest, e1, hok, hl, hs, e2⟩ => ?_
  subst e1 e2
  have rf := hs.few hok.n12
  have sf := stkL_few hok (s := s)
  exact dss_one (ds_ret (en_srtSet (en_a (en_is (en_cat (ec_var 2) (en_c (en_call ((ok_L_stuck T).mono (by decide)) hr T.L_stuck.g T.L_stuck.F.kp T.L_stuck.b (ecs_cons ((ec_var 0)) (ecs_cons ((ec_var 1)) ecs_nil)) (⟨N, s, rfl, hok, hl, rfl⟩))) (by rw [List.length_map, List.length_map, sizeLine_eq]; omega)) (by rw [← List.map_append])))
    (by rw [List.length_append]; omega) (endsL_few hok hs) T.B.sorted T.B.set) rfl)
def Φ_L_counts : List PyData → PyData → Prop := fun ds d => ∃ N s rest, ds = [encN N, dI s, dI rest] ∧ NetOk N ∧ s.length = N.rs.length ∧ HsOk N rest ∧ d = dC (cntL N s rest)
theorem ok_L_counts (T : Txt K mg fs fds) : Ok P w K mg base 4 (fs 44) (fds 44) P_L_counts Φ_L_counts := by
  refine fn_d T.L_counts.F sc_L_counts (fun _ _ ⟨N, s, rest, e, _⟩ => by rw [e]; rfl) fun cdv A outer s0 H E ds d hr ⟨N, s, rest, e1, hok, hl, hs, e2⟩ => ?_
  subst e1 e2
  exact dss_one (ds_ret (en_call ((ok_L_lengths T).mono (by decide)) hr T.L_lengths.g T.L_lengths.F.kp T.L_lengths.b (ecs_cons ((ec_var 0)) (ecs_cons ((ec_var 1)) (ecs_cons (en_c (en_call ((ok_L_ends T).mono (by decide)) hr T.L_ends.g T.L_ends.F.kp T.L_ends.b (ecs_cons ((ec_var 0)) (ecs_cons ((ec_var 1)) (ecs_cons ((ec_var 2)) ecs_nil))) (⟨N, s, rest, rfl, hok, hl, hs, rfl⟩))) ecs_nil))) (⟨N, s, endsL N s rest, rfl, hok, hl, rfl⟩)) rfl)
end
end KR
namespace KR
open PySem L2
/-! ### works -/
def can (N : Net) (s : List Int) (h : Int) : Bool := ((nb N h).filter fun m => decide (key N s m h = 0)).isEmpty
def wk (N : Net) (s : List Int) (h : Int) : List Int := (s.zip N.rs).map fun p => p.1 + (if decide (p.2.1 = h) = true then 1 else 0) - (if decide (p.2.2.1 = h) = true then 1 else 0)
def able (N : Net) (s rest : List Int) : List Int := (rgI 0 N.n).filter fun h => decide (¬ h ∈ rest) && can N s h
def tally (N : Net) (run : List Int) : List Int := (rgI 0 N.n).map fun m => ((run.filter fun h => decide (h = m)).length : Int)
def inc (x : List Int) (h : Int) : List Int := x.set h.toNat (gI x h + 1)
abbrev Wst := List Int × List Int
def step1 (N : Net) (st : Wst) (h : Int) : Wst := (wk N st.1 h, inc st.2 h)
def step2 (N : Net) (st : Wst) (h : Int) : Wst := if can N st.1 h = true then step1 N st h else st
def turn2 (N : Net) (rest : List Int) (st : Wst) : Wst := (able N st.1 rest).foldl (step2 N) st
def rep {α : Type} (f : α → α) : Nat → α → α
  | 0, a => a
  | k + 1, a => f (rep f k a)
def goOn (N : Net) (s rest run : List Int) (most : Nat) : Wst := rep (turn2 N rest) most (run.foldl (step1 N) (s, List.replicate N.n.toNat 0))
theorem wk_len {N : Net} {s : List Int} (h : s.length = N.rs.length) (u : Int) : (wk N s u).length = N.rs.length := by
  unfold wk
  rw [List.length_map, List.length_zip]; omega
theorem inc_len (x : List Int) (h : Int) : (inc x h).length = x.length := List.length_set
structure WOk (N : Net) (st : Wst) : Prop where
  a : st.1.length = N.rs.length
  b : st.2.length = N.n.toNat
theorem WOk.step {N : Net} {st : Wst} (ok : WOk N st) (h : Int) : WOk N (step1 N st h) := ⟨wk_len ok.a h, (inc_len _ _).trans ok.b⟩
theorem WOk.step2 {N : Net} {st : Wst} (ok : WOk N st) (h : Int) : WOk N (KR.step2 N st h) := by
  unfold KR.step2
  split
  · exact ok.step h
  · exact ok
theorem WOk.fold1 {N : Net} : ∀ {hs : List Int} {st : Wst}, WOk N st → WOk N (hs.foldl (step1 N) st)
  | [], _, h => h
  | u :: hs, st, h => WOk.fold1 (hs := hs) (h.step u)
theorem WOk.fold2 {N : Net} : ∀ {hs : List Int} {st : Wst}, WOk N st → WOk N (hs.foldl (KR.step2 N) st)
  | [], _, h => h
  | u :: hs, st, h => WOk.fold2 (hs := hs) (h.step2 u)
theorem WOk.rep {N : Net} {rest : List Int} : ∀ {k : Nat} {st : Wst}, WOk N st → WOk N (KR.rep (turn2 N rest) k st)
  | 0, _, h => h
  | k + 1, st, h => WOk.fold2 (WOk.rep (k := k) h)
theorem inc_comp (x : List Int) {h : Int} (h0 : 0 ≤ h) : (x.zipIdx.map fun q => q.1 + (if decide ((q.2 : Int) = h) = true then 1 else 0)) = inc x h := by
  refine List.ext_getElem? fun i => ?_
  rw [List.getElem?_map, List.getElem?_zipIdx]
  unfold inc gI
  cases q : x[i]? with
  | none =>
    have hl : x.length ≤ i := List.getElem?_eq_none_iff.mp q
    rw [List.getElem?_eq_none (by rw [List.length_set]; exact hl)]; rfl
  | some v =>
    have hl := (List.getElem?_eq_some_iff.mp q).1
    show some (v + (if decide (((0 + i : Nat) : Int) = h) = true then (1 : Int) else 0)) = _
    by_cases e : i = h.toNat
    · rw [if_pos (by exact decide_eq_true (by omega)), e, List.getElem?_set_self (by omega), List.getD_eq_getElem?_getD, ← e, q]; rfl
    · rw [if_neg (by rw [decide_eq_false (by omega)]; decide), List.getElem?_set_ne (fun z => e z.symm), q, Int.add_zero]
theorem able_mem {N : Net} {s rest : List Int} {h : Int} : h ∈ able N s rest ↔ (0 ≤ h ∧ h < N.n) ∧ ¬ h ∈ rest ∧ can N s h = true := by
  unfold able
  rw [List.mem_filter, mem_rgI, Bool.and_eq_true, decide_eq_true_iff]
theorem foldl_take {α β : Type} (f : β → α → β) (b : β) {l : List α} {i : Nat} {x : α} (h : l[i]? = some x) : (l.take (i + 1)).foldl f b = f ((l.take i).foldl f b) x := by
  rw [List.take_add_one, h, List.foldl_append]; rfl
section
variable {P : Program} {w : World} {K : PySem.W.Frag} {mg : Str → Option Value} {base : Heap} {fs : Nat → Addr} {fds : Nat → FuncData}
def Φ_L_can : List PyData → PyData → Prop := fun ds d => ∃ N s h, ds = [encN N, dI s, .int h] ∧ NetOk N ∧ s.length = N.rs.length ∧ d = .bool (can N s h)
theorem Joined.symm {N : Net} {u v : Int} (h : Joined N u v) : Joined N v u := by
  obtain ⟨r, hr, o⟩ := h
  exact ⟨r, hr, o.symm⟩
theorem ok_L_can (T : Txt K mg fs fds) : Ok P w K mg base 2 (fs 45) (fds 45) P_L_can Φ_L_can := by
  refine fn_d T.L_can.F sc_L_can (fun _ _ ⟨N, s, h, e, _⟩ => by rw [e]; rfl) fun cdv A outer s0 H E ds d hr ⟨N, s, h, e1, hok, hl, e2⟩ => ?_
  subst e1 e2
  refine dss_one (ds_ret (en_eq hr.u4 (en_a (en_lc (own := [("_law_mate", 3)]) (xs := nb N h) (enc := PyData.int) (c := fun m => decide (key N s m h = 0)) (f := PyData.int) (ei_list (en_c (en_call ((ok_L_mates T).mono (by decide)) hr T.L_mates.g T.L_mates.F.kp T.L_mates.b (ecs_cons ((ec_var 0)) (ecs_cons ((ec_var 2)) ecs_nil)) (⟨N, h, rfl, hok, rfl⟩))))
    (fun m hm => ⟨_, _, fun s_ H_ C_ cl_ fp_ => at_name 3 sc_L_can.nd, by decide, fun s_ H_ C_ cl_ fp_ => ets_is (et_eqI (en_a (en_call ((ok_L_keys T).mono (by decide)) hr T.L_keys.g T.L_keys.F.kp T.L_keys.b (ecs_cons ((ec_var 0)) (ecs_cons ((ec_var 1)) (ecs_cons ((ec_var 3)) (ecs_cons ((ec_var 2)) ecs_nil)))) (⟨N, s, m, h, rfl, hok, hl, ((nb_mem hok).mp hm).symm, rfl⟩))) (en_a en_int)) rfl, fun _ => fun s_ H_ C_ cl_ fp_ => (ec_var 3)⟩)
    (blkOk_by (N := N_L_can) (sc := defScope st_L_can) (by decide +kernel)) sc_L_can.nd (by have := nb_few hok h; omega))) (en_a (en_lst ecs_nil)) (sh_dI _).ok sh_nil.ok) ?_)
  rw [eqv_nil]
  unfold can
  cases (nb N h).filter fun m => decide (key N s m h = 0) <;> rfl
def Φ_L_worked : List PyData → PyData → Prop := fun ds d => ∃ N s h, ds = [encN N, dI s, .int h] ∧ NetOk N ∧ s.length = N.rs.length ∧ d = dI (wk N s h)
theorem ok_L_worked (T : Txt K mg fs fds) : Ok P w K mg base 1 (fs 46) (fds 46) P_L_worked Φ_L_worked := by
  refine fn_d T.L_worked.F sc_L_worked (fun _ _ ⟨N, s, h, e, _⟩ => by rw [e]; rfl) fun cdv A outer s0 H E ds d hr ⟨N, s, h, e1, hok, hl, e2⟩ => ?_
  subst e1 e2
  have few := hok.few
  refine dss_one (ds_ret (en_is (en_lc (own := [("_law_item", 3), ("_law_low", 4), ("_law_high", 5), ("_law_many", 6)]) (c := fun _ => true) (f := fun p : Int × Road => PyData.int (p.1 + (if decide (p.2.1 = h) = true then 1 else 0) - (if decide (p.2.2.1 = h) = true then 1 else 0))) (ei_zipM (ec_var 1) (ec_ixT (ec_var 0) (en_a en_int) rfl) T.B.zip)
    (fun p hm => ?_)
    (blkOk_by (N := N_L_worked) (sc := defScope st_L_worked) (by decide +kernel)) sc_L_worked.nd (by rw [List.length_zip]; omega)) (by rw [filter_true]; unfold dI wk; rw [List.map_map]; rfl)) rfl)
  exact ⟨_, _, fun s_ H_ C_ cl_ fp_ => (at_tup (ats_cons (at_name 3 sc_L_worked.nd) (ats_cons ((at_tup (ats_cons (at_name 4 sc_L_worked.nd) (ats_cons (at_name 5 sc_L_worked.nd) (ats_cons (at_name 6 sc_L_worked.nd) ats_nil))))) ats_nil))), by decide, fun s_ H_ C_ cl_ fp_ => ets_nil, fun _ => fun s_ H_ C_ cl_ fp_ => en_c (en_sub (en_a (en_add (ec_a (ec_var 3)) (en_a (en_callTy (call_int1) (cl_intB) T.B.int (eas_cons (en_a (en_eqI (ec_a (ec_var 4)) (ec_a (ec_var 2)))) eas_nil))))) (en_a (en_callTy (call_int1) (cl_intB) T.B.int (eas_cons (en_a (en_eqI (ec_a (ec_var 5)) (ec_a (ec_var 2)))) eas_nil))))⟩
def Φ_L_meant : List PyData → PyData → Prop := Φ_with_works
theorem ok_L_meant (T : Txt K mg fs fds) : Ok P w K mg base 1 (fs 47) (fds 47) P_L_meant Φ_L_meant := by
  refine fn_d T.L_meant.F sc_L_meant (fun _ _ ⟨N, s, x, e, _⟩ => by rw [e]; rfl) fun cdv A outer s0 H E ds d hr ⟨N, s, x, e1, hok, hl, hx, e2⟩ => ?_
  subst e1 e2
  have few := hok.few
  refine dss_one (ds_ret (en_is (en_lc (own := [("_law_item", 3), ("_law_low", 4), ("_law_high", 5), ("_law_many", 6)]) (c := fun _ => true) (f := fun p : Int × Road => PyData.int (p.1 + gI x p.2.1 - gI x p.2.2.1)) (ei_zipM (ec_var 1) (ec_ixT (ec_var 0) (en_a en_int) rfl) T.B.zip) (fun p hm => ?_)
      (blkOk_by (N := N_L_meant) (sc := defScope st_L_meant) (by decide +kernel)) sc_L_meant.nd (by rw [List.length_zip]; omega)) (by rw [filter_true]; unfold behind dI; rw [List.map_map]; rfl)) rfl)
  have kr := hok.road p.2 (List.of_mem_zip hm).2
  have := kr.lo; have := kr.lt; have := kr.hi
  exact ⟨_, _, fun s_ H_ C_ cl_ fp_ => (at_tup (ats_cons (at_name 3 sc_L_meant.nd) (ats_cons ((at_tup (ats_cons (at_name 4 sc_L_meant.nd) (ats_cons (at_name 5 sc_L_meant.nd) (ats_cons (at_name 6 sc_L_meant.nd) ats_nil))))) ats_nil))), by decide, fun s_ H_ C_ cl_ fp_ => ets_nil, fun _ => fun s_ H_ C_ cl_ fp_ => en_c (en_sub (en_a (en_add (ec_a (ec_var 3)) (en_a (en_ixL (ec_a (ec_var 2)) (ec_a (ec_var 4)) (at_map 0 (by omega) (by omega)))))) (en_a (en_ixL (ec_a (ec_var 2)) (ec_a (ec_var 5)) (at_map 0 (by omega) (by omega)))))⟩
def Φ_L_able : List PyData → PyData → Prop := fun ds d => ∃ N s rest, ds = [encN N, dI s, dI rest] ∧ NetOk N ∧ s.length = N.rs.length ∧ d = dI (able N s rest)
theorem ok_L_able (T : Txt K mg fs fds) : Ok P w K mg base 3 (fs 48) (fds 48) P_L_able Φ_L_able := by
  refine fn_d T.L_able.F sc_L_able (fun _ _ ⟨N, s, h, e, _⟩ => by rw [e]; rfl) fun cdv A outer s0 H E ds d hr ⟨N, s, rest, e1, hok, hl, e2⟩ => ?_
  subst e1 e2
  have n12 := hok.n12
  have n1 := hok.n1
  exact dss_one (ds_ret (en_is (en_lc (own := [("_law_house", 3)]) (xs := rgI 0 N.n) (enc := PyData.int) (c := fun h => decide (¬ h ∈ rest) && can N s h) (f := PyData.int) (ei_range1 (en_a (en_ixT (ec_var 0) (en_a en_int) rfl)) T.B.range (by omega) (by omega))
    (fun h hm => ⟨_, _, fun s_ H_ C_ cl_ fp_ => at_name 3 sc_L_able.nd, by decide, fun s_ H_ C_ cl_ fp_ => ets_is (et_w (ew_and (et_is (et_notin hr.u (ec_a (ec_var 3)) (ec_a (ec_var 2)) (sh_int _).ok (sh_dI _).ok) (by rw [inD_ints, decide_not])) (fun _ => ew_and1 (et_val (en_call ((ok_L_can T).mono (by decide)) hr T.L_can.g T.L_can.F.kp T.L_can.b (ecs_cons ((ec_var 0)) (ecs_cons ((ec_var 1)) (ecs_cons ((ec_var 3)) ecs_nil))) (⟨N, s, h, rfl, hok, hl, rfl⟩)))))) rfl, fun _ => fun s_ H_ C_ cl_ fp_ => (ec_var 3)⟩)
    (blkOk_by (N := N_L_able) (sc := defScope st_L_able) (by decide +kernel)) sc_L_able.nd (by rw [rgI_len]; omega)) rfl) rfl)
def Φ_L_tally : List PyData → PyData → Prop := fun ds d => ∃ N run, ds = [encN N, dI run] ∧ NetOk N ∧ run.length ≤ 1000 ∧ d = dI (tally N run)
theorem ok_L_tally (T : Txt K mg fs fds) : Ok P w K mg base 1 (fs 50) (fds 50) P_L_tally Φ_L_tally := by
  refine fn_d T.L_tally.F sc_L_tally (fun _ _ ⟨N, s, e, _⟩ => by rw [e]; rfl) fun cdv A outer s0 H E ds d hr ⟨N, run, e1, hok, hl, e2⟩ => ?_
  subst e1 e2
  have n12 := hok.n12
  have n1 := hok.n1
  refine dss_one (ds_ret (en_is (en_lc (own := [("_law_mate", 2)]) (xs := rgI 0 N.n) (enc := PyData.int) (c := fun _ => true) (f := fun m => .int ((run.filter fun h => decide (h = m)).length : Int)) (ei_range1 (en_a (en_ixT (ec_var 0) (en_a en_int) rfl)) T.B.range (by omega) (by omega))
    (fun m hm => ⟨_, _, fun s_ H_ C_ cl_ fp_ => at_name 2 sc_L_tally.nd, by decide, fun s_ H_ C_ cl_ fp_ => ets_nil, fun _ => fun s_ H_ C_ cl_ fp_ => en_c (en_is (en_callB (call_len_seq) (cl_len) T.B.len (eas_cons (en_a (en_lc (own := [("_law_house", 3)]) (xs := run) (enc := PyData.int) (c := fun h => decide (h = m)) (f := PyData.int) (ei_list (ec_var 1))
        (fun h hm => ⟨_, _, fun s_ H_ C_ cl_ fp_ => at_name 3 sc_L_tally.nd, by decide, fun s_ H_ C_ cl_ fp_ => ets_is (et_eqI (ec_a (ec_var 3)) (ec_a (ec_var 2))) rfl, fun _ => fun s_ H_ C_ cl_ fp_ => (ec_var 3)⟩) (blkOk_by (by rfl)) sc_L_tally.nd (by omega))) eas_nil)) (by rw [List.length_map]))⟩)
    (blkOk_by (N := N_L_tally) (sc := defScope st_L_tally) (by decide +kernel)) sc_L_tally.nd (by rw [rgI_len]; omega)) (by rw [filter_true]; unfold dI tally; rw [List.map_map]; rfl)) rfl)
end
end KR
namespace KR
open PySem L2
theorem map_set_int (x : List Int) (j : Nat) (v : Int) : (x.set j v).map PyData.int = (x.map PyData.int).set j (.int v) := List.map_set
theorem rep_flat (k : Nat) : (List.replicate k [PyData.int 0]).flatten = (List.replicate k (0 : Int)).map PyData.int := by
  induction k with
  | zero => rfl
  | succ k ih => rw [List.replicate_succ, List.replicate_succ, List.flatten_cons, ih]; rfl
section
variable {P : Program} {w : World} {K : PySem.W.Frag} {mg : Str → Option Value} {base : Heap} {fs : Nat → Addr} {fds : Nat → FuncData}
def Φ_L_gone_on : List PyData → PyData → Prop := fun ds d => ∃ N s rest run most, ds = [encN N, dI s, dI rest, dI run, .int most] ∧ NetOk N ∧ s.length = N.rs.length ∧ (∀ h ∈ run, 0 ≤ h ∧ h < N.n) ∧ 0 ≤ most ∧ most ≤ 100000 ∧
  d = .tuple [dI (goOn N s rest run most.toNat).1, dI (goOn N s rest run most.toNat).2]
theorem ok_L_gone_on (T : Txt K mg fs fds) : Ok P w K mg base 4 (fs 51) (fds 51) P_L_gone_on Φ_L_gone_on := by
  refine fn_d T.L_gone_on.F sc_L_gone_on (fun _ _ ⟨N, s, rest, run, most, e, _⟩ => by rw [e]; rfl) fun cdv A outer s0 H E ds d hr ⟨N, s, rest, run, most, e1, hok, hl, hrun, m0, m1, e2⟩ => ?_
  subst e1 e2
  have n12 := hok.n12
  have n1 := hok.n1
  refine dss_seq (ds_parVO 5 6 (ec_var 1) (en_is (en_rep (k := N.n.toNat) (en_a (en_lst (ecs_cons (en_c en_int) ecs_nil))) (ea_is (en_a (en_ixT (ec_var 0) (en_a en_int) rfl)) (by rw [Int.toNat_of_nonneg (by omega)])) (fun x hx => by rw [List.mem_singleton.mp hx]; rfl) (by omega) (by rw [sizeLine_eq]; show 1 * _ ≤ _; omega)) (congrArg PyData.list (rep_flat _))) ?_ sc_L_gone_on.nd)
  refine dss_seq (ds_for (ei_list (ec_var 3)) (fun i ρ => ∃ e7 e8 e9 e10, ρ = [.val (encN N), .val (dI s), .val (dI rest), .val (dI run), .val (.int most), .val (dI ((run.take i).foldl (step1 N) (s, List.replicate N.n.toNat 0)).1), .own ((((run.take i).foldl (step1 N) (s, List.replicate N.n.toNat 0)).2).map PyData.int), e7, e8, e9, e10]) ⟨_, _, _, _, rfl⟩ ?_ ?_)
  · rintro i d ρ' hd ⟨e7, e8, e9, e10, rfl⟩
    rw [List.getElem?_map] at hd
    cases hp : run[i]? with
    | none => rw [hp] at hd; cases hd
    | some h =>
      rw [hp] at hd
      cases hd
      have bh := hrun h (List.mem_of_getElem? hp)
      rw [foldl_take (step1 N) _ hp]
      have wok : WOk N ((run.take i).foldl (step1 N) (s, List.replicate N.n.toNat 0)) := WOk.fold1 ⟨hl, List.length_replicate⟩
      generalize (run.take i).foldl (step1 N) (s, List.replicate N.n.toNat 0) = st at wok ⊢
      obtain ⟨th, x⟩ := st
      have lx : x.length = N.n.toNat := wok.b
      refine ⟨_, _, at_name 7 sc_L_gone_on.nd, ?_⟩
      refine dss_freeze 6 (dss_one (ds_parVO 5 6 (en_c (en_call ((ok_L_worked T).mono (by decide)) hr T.L_worked.g T.L_worked.F.kp T.L_worked.b (ecs_cons ((ec_var 0)) (ecs_cons ((ec_var 5)) (ecs_cons ((ec_var 7)) ecs_nil))) (⟨N, th, h, rfl, hok, wok.a, rfl⟩))) (en_is (en_lc (own := [("_law_mate", 9), ("_law_many", 10)]) (xs := x.zipIdx) (enc := fun q : Int × Nat => PyData.tuple [.int (q.2 : Int), .int q.1]) (c := fun _ => true) (f := fun q : Int × Nat => PyData.int (q.1 + (if decide ((q.2 : Int) = h) = true then 1 else 0))) (ei_enumM (ec_var 6) T.B.enumerate)
        (fun q hm => ?_) (blkOk_by (N := N_L_gone_on) (sc := defScope st_L_gone_on) (by decide +kernel)) sc_L_gone_on.nd (by rw [List.length_zipIdx]; omega)) (d' := dI (inc x h)) ?_) ?_ sc_L_gone_on.nd))
      · exact ⟨_, _, fun s_ H_ C_ cl_ fp_ => (at_tup (ats_cons (at_name 9 sc_L_gone_on.nd) (ats_cons (at_name 10 sc_L_gone_on.nd) ats_nil))), by decide, fun s_ H_ C_ cl_ fp_ => ets_nil, fun _ => fun s_ H_ C_ cl_ fp_ => en_c (en_add (ec_a (ec_var 10)) (en_a (en_callTy (call_int1) (cl_intB) T.B.int (eas_cons (en_a (en_eqI (ec_a (ec_var 9)) (ec_a (ec_var 7)))) eas_nil))))⟩
      · rw [filter_true, ← inc_comp x bh.1]
        unfold dI
        rw [List.map_map]; rfl
      · exact ⟨_, _, _, _, rfl⟩
  · rintro ρ' ⟨e7, e8, e9, e10, rfl⟩
    rw [List.length_map, List.take_length]
    refine dss_seq (ds_for (ei_range1 (ec_a (ec_var 4)) T.B.range (by omega) m0) (fun i ρ => ∃ e7 e8 e9 e10, ρ = [.val (encN N), .val (dI s), .val (dI rest), .val (dI run), .val (.int most), .val (dI (goOn N s rest run i).1), .own ((goOn N s rest run i).2.map PyData.int), e7, e8, e9, e10]) ⟨_, _, _, _, rfl⟩ ?_ ?_)
    · rintro i d ρ' hd ⟨e7, e8, e9, e10, rfl⟩
      refine ⟨_, _, at_name 8 sc_L_gone_on.nd, ?_⟩
      have wok : WOk N (goOn N s rest run i) := WOk.rep (WOk.fold1 ⟨hl, List.length_replicate⟩)
      rw [show goOn N s rest run (i + 1) = turn2 N rest (goOn N s rest run i) from rfl]
      generalize goOn N s rest run i = st at wok ⊢
      refine dss_one (ds_for (ei_list (en_c (en_call ((ok_L_able T).mono (by decide)) hr T.L_able.g T.L_able.F.kp T.L_able.b (ecs_cons ((ec_var 0)) (ecs_cons ((ec_var 5)) (ecs_cons ((ec_var 2)) ecs_nil))) (⟨N, st.1, rest, rfl, hok, wok.a, rfl⟩)))) (fun j ρ => ∃ e7 e8 e9 e10, ρ = [.val (encN N), .val (dI s), .val (dI rest), .val (dI run), .val (.int most), .val (dI (((able N st.1 rest).take j).foldl (step2 N) st).1), .own ((((able N st.1 rest).take j).foldl (step2 N) st).2.map PyData.int), e7, e8, e9, e10]) ⟨_, _, _, _, rfl⟩ ?_ ?_)
      · rintro j d ρ' hd ⟨e7, e8, e9, e10, rfl⟩
        rw [List.getElem?_map] at hd
        cases hp : (able N st.1 rest)[j]? with
        | none => rw [hp] at hd; cases hd
        | some h =>
          rw [hp] at hd
          cases hd
          have bh := (able_mem.mp (List.mem_of_getElem? hp)).1
          rw [foldl_take (step2 N) _ hp]
          have wok2 : WOk N (((able N st.1 rest).take j).foldl (step2 N) st) := WOk.fold2 wok
          generalize ((able N st.1 rest).take j).foldl (step2 N) st = st2 at wok2 ⊢
          obtain ⟨th, x⟩ := st2
          have lx : x.length = N.n.toNat := wok2.b
          refine ⟨_, _, at_name 7 sc_L_gone_on.nd, ?_⟩
          have a1 := at_map (enc := PyData.int) (xs := x) (i := h) 0 (by omega) (by omega)
          refine dss_one (ds_if (k := can N th h) (et_val (en_call ((ok_L_can T).mono (by decide)) hr T.L_can.g T.L_can.F.kp T.L_can.b (ecs_cons ((ec_var 0)) (ecs_cons ((ec_var 5)) (ecs_cons ((ec_var 7)) ecs_nil))) (⟨N, th, h, rfl, hok, wok2.a, rfl⟩))) (fun z => ?_) (fun z => ?_))
          · rw [show step2 N (th, x) h = (wk N th h, inc x h) by unfold step2; rw [if_pos z]; rfl]
            refine dss_seq (ds_set 5 (en_c (en_call ((ok_L_worked T).mono (by decide)) hr T.L_worked.g T.L_worked.F.kp T.L_worked.b (ecs_cons ((ec_var 0)) (ecs_cons ((ec_var 5)) (ecs_cons ((ec_var 7)) ecs_nil))) (⟨N, th, h, rfl, hok, wok2.a, rfl⟩))) ?_ sc_L_gone_on.nd)
            refine dss_one (ds_setIx 6 (ds := x.map PyData.int) (j := h.toNat) (d := .int (gI x h + 1)) (en_c (en_add (en_a (en_ixL (ea_own 6) (ec_a (ec_var 7)) a1)) (en_a en_int))) (ea_is (ec_a (ec_var 7)) (by rw [Int.toNat_of_nonneg (by omega)])) (by rw [List.length_map]; omega) ?_)
            rw [← map_set_int]
            exact ⟨_, _, _, _, rfl⟩
          · rw [show step2 N (th, x) h = (th, x) by unfold step2; rw [if_neg (by rw [z]; decide)]]
            exact dss_nil ⟨_, _, _, _, rfl⟩
      · rintro ρ' ⟨e7, e8, e9, e10, rfl⟩
        rw [List.length_map, List.take_length]
        exact ⟨_, _, _, _, rfl⟩
    · rintro ρ' ⟨e7, e8, e9, e10, rfl⟩
      rw [List.length_map, rgI_len, Int.sub_zero]
      exact dss_freeze 6 (dss_one (ds_ret (en_tup (ecs_cons ((ec_var 5)) (ecs_cons ((ec_var 6)) ecs_nil))) rfl))
end
end KR
namespace KR
open PySem L2
def hsh (s k : Int) : Int := ((((s * 1140671 + 27644437 * k * k + 131 * k + 19) % 2147483629) * ((s * 1140671 + 27644437 * k * k + 131 * k + 19) % 2147483629) + 62089 * k + 32416187) % 2147483587 * 48271) % 2147483647
/-- a generator: its count within c -/
def Gn (c : Int) (gs : List Int) : Prop := ∃ a b k, gs = [a, b, k] ∧ 0 ≤ k ∧ k ≤ c
theorem Gn.mono {c c' : Int} {gs : List Int} (h : Gn c gs) (hc : c ≤ c') : Gn c' gs := by
  obtain ⟨a, b, k, e, h0, h1⟩ := h
  exact ⟨a, b, k, e, h0, Int.le_trans h1 hc⟩
section
variable {P : Program} {w : World} {K : PySem.W.Frag} {mg : Str → Option Value} {base : Heap} {fs : Nat → Addr} {fds : Nat → FuncData}
def Φ_L_hash : List PyData → PyData → Prop := fun ds d => ∃ s k : Int, ds = [.int s, .int k] ∧ 0 ≤ k ∧ k ≤ 1099511627776 ∧ d = .int (hsh s k)
theorem ok_L_hash (T : Txt K mg fs fds) : Ok P w K mg base 1 (fs 32) (fds 32) P_L_hash Φ_L_hash := by
  refine fn_d T.L_hash.F sc_L_hash (fun _ _ ⟨s, k, e, _⟩ => by rw [e]; rfl) fun cdv A outer s0 H E ds d hr ⟨s, k, e1, k0, k1, e2⟩ => ?_
  subst e1 e2
  have small : ∀ {i j : Int}, 0 ≤ j → j ≤ 1099511627776 → CMul i j := fun h0 h1 => .inr ⟨by omega, by omega⟩
  have m1 : ∀ x : Int, 0 ≤ x % 2147483629 ∧ x % 2147483629 ≤ 1099511627776 := fun x => by omega
  refine dss_seq (ds_set 2 (en_c (en_mod (en_a (en_callTy (call_int1) (cl_int) T.B.int (eas_cons (en_a (en_add (en_a (en_add (en_a (en_add (en_a (en_mul (ec_a (ec_var 0)) (en_a en_int) (small (by decide) (by decide)))) (en_a (en_mul (en_a (en_mul (en_a en_int) (ec_a (ec_var 1)) (small k0 k1))) (ec_a (ec_var 1)) (small k0 k1))))) (en_a (en_mul (en_a en_int) (ec_a (ec_var 1)) (small k0 k1))))) (en_a en_int))) eas_nil))) (en_a en_int) (by decide))) ?_ sc_L_hash.nd)
  refine dss_seq (ds_set 2 (en_c (en_mod (en_a (en_callTy (call_int1) (cl_int) T.B.int (eas_cons (en_a (en_add (en_a (en_add (en_a (en_mul (ec_a (ec_var 2)) (ec_a (ec_var 2)) (small (m1 _).1 (m1 _).2))) (en_a (en_mul (en_a en_int) (ec_a (ec_var 1)) (small k0 k1))))) (en_a en_int))) eas_nil))) (en_a en_int) (by decide))) ?_ sc_L_hash.nd)
  exact dss_one (ds_ret (en_mod (en_a (en_callTy (call_int1) (cl_int) T.B.int (eas_cons (en_a (en_mul (ec_a (ec_var 2)) (en_a en_int) (small (by decide) (by decide)))) eas_nil))) (en_a en_int) (by decide)) rfl)
theorem bits_small {l : Int} (h0 : 0 ≤ l) (h1 : l < 536870912) : (Builtin.Int.intBits l : Int) / 30 = 0 := by
  have h : Builtin.Int.intBits l < 30 := by
    unfold Builtin.Int.intBits
    split
    · decide
    · have : l.natAbs.log2 < 29 := (Nat.log2_lt (by rename_i z; simp at z; omega)).mpr (by omega)
      omega
  omega
abbrev Pre_random : List Int → List PyData → Prop := fun gs ds => ∃ l : Int, ds = [.int l] ∧ 0 < l ∧ l < 536870912 ∧ Gn 1099511627775 gs
abbrev Φ_random : List Int → List PyData → PyData → List Int → Prop := fun gs ds d gs' => ∃ l r : Int, ds = [.int l] ∧ d = .int r ∧ 0 ≤ r ∧ r < l ∧ ∀ c, Gn c gs → Gn (c + 1) gs'
abbrev OkG (P : Program) (w : World) (K : PySem.W.Frag) (mg : Str → Option Value) (base : Heap) (k : Nat) (f : Addr) (fd : FuncData) (ps : List Str) (Pre : List Int → List PyData → Prop) (Φ : List Int → List PyData → PyData → List Int → Prop) : Prop := FnOk P w K mg base CX0 k f fd ps (spG Pre Φ)
theorem ok_L_random (T : Txt K mg fs fds) : OkG P w K mg base 2 (fs 34) (fds 34) P_L_random Pre_random Φ_random := by
  refine fn_g T.L_random.F sc_L_random (fun _ _ ⟨l, e, _⟩ => by rw [e]; rfl) fun cdv A outer s0 H E g gs ds hr ⟨l, e1, l0, l1, ga, gb, gk, e2, k0, k1⟩ => ?_
  subst e1 e2
  refine gss_seq (gs_ifP (et_gt (ea_ixL (ea_own 0) (en_a en_int) rfl) (en_a en_int)) (fun z => ?_) (fun z => ?_))
  · refine gss_seq (gs_setP 2 (en_c (en_mod (en_a (en_callTy (call_int1) (cl_int) T.B.int (eas_cons (ea_ixL (ea_own 0) (en_a en_int) rfl) eas_nil))) (ec_a (ec_var 1)) l0)) ?_ sc_L_random.nd)
    refine gss_seq (gs_setG (j := 0) (z := ga / l) (en_c (en_fdiv (ea_ixL (ea_own 0) (en_a en_int) rfl) (ec_a (ec_var 1)) ⟨l0, by omega⟩)) (en_a en_int) (by show 0 < 3; decide) ?_)
    refine gss_one (gs_retP (ea_n (ec_a (ec_var 2))) ⟨l, _, rfl, rfl, Int.emod_nonneg _ (by omega), Int.emod_lt_of_pos _ l0, fun c ⟨a, b, k, e, h0, h1⟩ => ?_⟩)
    cases e
    exact ⟨_, _, _, rfl, h0, by omega⟩
  · refine gss_nil ?_
    refine gss_seq (gs_setP 2 (en_c en_int) ?_ sc_L_random.nd)
    refine gss_seq (gs_forP (ei_range1 (en_a (en_add (en_a en_int) (en_a (en_fdiv (en_a (en_bits (ec_a (ec_var 1)))) (en_a en_int) ⟨by decide, by decide⟩)))) T.B.range (by rw [bits_small (by omega) l1]; decide) (by rw [bits_small (by omega) l1]; decide)) (fun i ρ gs' => ∃ x e3, ρ = [.un, .val (.int l), .val (.int x), e3] ∧ gs' = [ga, gb, gk + i]) ⟨_, _, rfl, by rw [Int.natCast_zero, Int.add_zero]⟩ ?_ ?_)
    · rintro i d ρ' gs' hd ⟨x, e3, rfl, rfl⟩
      rw [bits_small (by omega) l1] at hd
      have hi : i < 1 := by
        have := (List.getElem?_eq_some_iff.mp hd).1
        rw [List.length_map, rgI_len] at this
        exact this
      have i0 : i = 0 := by omega
      subst i0
      refine ⟨_, [.un, .val (.int l), .val (.int x), .val d], at_name 3 sc_L_random.nd, Nat.zero_lt_succ _, ?_⟩
      refine gss_seq (gs_setG (j := 2) (z := gk + 1) (en_c (en_is (en_add (ea_ixL (ea_own 0) (en_a en_int) rfl) (en_a en_int)) (by simp))) (en_a en_int) (by show 2 < 3; decide) ?_)
      refine gss_one (gs_setP 2 (en_c (en_add (en_a (en_mul (ec_a (ec_var 2)) (en_a en_int) (.inr ⟨by decide, by decide⟩))) (en_a (en_call ((ok_L_hash T).mono (by decide)) hr T.L_hash.g T.L_hash.F.kp T.L_hash.b (ecs_cons (en_c (ea_n (ea_ixL (ea_own 0) (en_a en_int) rfl))) (ecs_cons (en_c (ea_n (ea_ixL (ea_own 0) (en_a en_int) rfl))) ecs_nil)) (⟨_, _, rfl, by omega, by omega, rfl⟩))))) ?_ sc_L_random.nd)
      exact ⟨_, _, rfl, by simp⟩
    · rintro ρ' gs' ⟨x, e3, rfl, rfl⟩
      rw [bits_small (by omega) l1, List.length_map, rgI_len]
      refine gss_one (gs_retP (en_mod (en_a (en_callTy (call_int1) (cl_int) T.B.int (eas_cons ((ec_a (ec_var 2))) eas_nil))) (ec_a (ec_var 1)) l0) ⟨l, _, rfl, rfl, Int.emod_nonneg _ (by omega), Int.emod_lt_of_pos _ l0, fun c ⟨a, b, k, e, h0, h1⟩ => ?_⟩)
      cases e
      exact ⟨_, _, _, rfl, by simp; omega, by simp; omega⟩
end
end KR
namespace KR
open PySem L2
/-- what a draw may cost -/
def Cost (k : Int) (gs gs' : List Int) : Prop := ∀ c, Gn c gs → Gn (c + k) gs'
theorem Cost.zero {gs : List Int} : Cost 0 gs gs := fun c h => h.mono (by omega)
theorem Cost.trans {k l : Int} {g1 g2 g3 : List Int} (h1 : Cost k g1 g2) (h2 : Cost l g2 g3) : Cost (k + l) g1 g3 := fun c h => by
  have := h2 _ (h1 c h)
  rw [Int.add_assoc] at this
  exact this
theorem Cost.le {k l : Int} {g1 g2 : List Int} (h : Cost k g1 g2) (e : k ≤ l) : Cost l g1 g2 := fun c q => (h c q).mono (by omega)
theorem pre_r {c l : Int} {gs : List Int} (h : Gn c gs) (hc : c ≤ 1000000000000) (l0 : 0 < l) (l1 : l ≤ 100000) : Pre_random gs [.int l] := ⟨l, rfl, l0, by omega, h.mono (by omega)⟩
section
variable {P : Program} {w : World} {K : PySem.W.Frag} {mg : Str → Option Value} {base : Heap} {fs : Nat → Addr} {fds : Nat → FuncData}
abbrev Pre_standing : List Int → List PyData → Prop := fun gs ds => ∃ N, ds = [encN N] ∧ NetOk N ∧ Gn 1000000000 gs
abbrev Φ_standing : List Int → List PyData → PyData → List Int → Prop := fun gs ds d gs' => ∃ N s, ds = [encN N] ∧ d = dI s ∧ s.length = N.rs.length ∧ (∀ (j : Nat) x r, s[j]? = some x → N.rs[j]? = some r → 0 ≤ x ∧ x ≤ r.2.2) ∧ Cost 100 gs gs'
theorem ok_L_standing (T : Txt K mg fs fds) : OkG P w K mg base 3 (fs 36) (fds 36) P_L_standing Pre_standing Φ_standing := by
  refine fn_g T.L_standing.F sc_L_standing (fun _ _ ⟨l, e, _⟩ => by rw [e]; rfl) fun cdv A outer s0 H E g gs ds hr ⟨N, e1, hok, hg⟩ => ?_
  subst e1
  have few := hok.few
  refine gss_one (gs_ret (gn_lc (own := [("_law_low", 2), ("_law_high", 3), ("_law_many", 4)]) (ds := N.rs.map encR) (ei_list (ec_ixT (ec_var 1) (en_a en_int) rfl))
    (fun i acc gs1 => ∃ s : List Int, acc = s.map PyData.int ∧ s.length = i ∧ (∀ (j : Nat) x r, s[j]? = some x → N.rs[j]? = some r → 0 ≤ x ∧ x ≤ r.2.2) ∧ Cost i gs gs1)
    ⟨[], rfl, rfl, fun j x r h _ => (by cases h), Cost.zero⟩ ?_ (P := fun d gs' => Φ_standing gs [encN N] d gs') ?_ (blkOk_by (N := N_L_standing) (sc := defScope st_L_standing) (by decide +kernel)) sc_L_standing.nd (by rw [List.length_map]; omega)) (fun d gs' h => h))
  · rintro i d acc gs1 hd hl ⟨s, rfl, ls, bd, cs⟩
    rw [List.getElem?_map] at hd
    cases hp : N.rs[i]? with
    | none => rw [hp] at hd; cases hd
    | some r =>
      rw [hp] at hd
      cases hd
      have hi := (List.getElem?_eq_some_iff.mp hp).1
      have kr := hok.road r (List.mem_of_getElem? hp)
      have := kr.m1; have := kr.m9
      refine ⟨_, [.un, .val (encN N), .val (.int r.1), .val (.int r.2.1), .val (.int r.2.2)], fun s_ H_ C_ cl_ fp_ => (at_tup (ats_cons (at_name 2 sc_L_standing.nd) (ats_cons (at_name 3 sc_L_standing.nd) (ats_cons (at_name 4 sc_L_standing.nd) ats_nil)))), by decide, Nat.zero_lt_succ _, rfl, fun s_ H_ C_ cl_ fp_ => gts_nil ⟨fun _ => fun s_ H_ C_ cl_ fp_ => gn_e (gn_callP ((ok_L_random T).mono (by decide)) hr T.L_random.g T.L_random.F.kp T.L_random.b (ecs_cons (en_c (en_add (ec_a (ec_var 4)) (en_a en_int))) ecs_nil) (pre_r (cs _ hg) (by omega) (by omega) (by omega)) (?_)), fun z => by cases z⟩⟩
      rintro d gs2 ⟨l, x, e, rfl, x0, x1, c1⟩
      cases e
      refine ⟨s ++ [x], by rw [List.map_append]; rfl, by rw [List.length_append, ls]; rfl, fun j y q h1 h2 => ?_, ?_⟩
      · by_cases hj : j < s.length
        · rw [List.getElem?_append_left hj] at h1
          exact bd j y q h1 h2
        · rw [List.getElem?_append_right (by omega)] at h1
          have hj2 : j - s.length < 1 := (List.getElem?_eq_some_iff.mp h1).1
          have ej : j = i := by omega
          subst ej
          rw [show j - s.length = 0 by omega] at h1
          cases h1
          rw [hp] at h2
          cases h2
          omega
      · exact (cs.trans c1).le (by omega)
  · rintro acc gs' ⟨s, rfl, ls, bd, cs⟩
    rw [List.length_map] at ls
    exact ⟨N, s, rfl, rfl, ls, bd, cs.le (by rw [List.length_map]; omega)⟩
abbrev Pre_houses : List Int → List PyData → Prop := fun gs ds => ∃ N, ∃ part : Int, ds = [encN N, .int part] ∧ NetOk N ∧ 0 < part ∧ part ≤ 100 ∧ Gn 1000000000 gs
abbrev Φ_houses : List Int → List PyData → PyData → List Int → Prop := fun gs ds d gs' => ∃ N, ∃ part : Int, ∃ hs, ds = [encN N, .int part] ∧ d = dI hs ∧ HsOk N hs ∧ Cost 100 gs gs'
theorem ok_L_houses (T : Txt K mg fs fds) : OkG P w K mg base 3 (fs 37) (fds 37) P_L_houses Pre_houses Φ_houses := by
  refine fn_g T.L_houses.F sc_L_houses (fun _ _ ⟨l, _, e, _⟩ => by rw [e]; rfl) fun cdv A outer s0 H E g gs ds hr ⟨N, part, e1, hok, p0, p1, hg⟩ => ?_
  subst e1
  have n1 := hok.n1
  have n12 := hok.n12
  refine gss_one (gs_ret (gn_lc (own := [("_law_house", 3)]) (ds := (rgI 0 N.n).map PyData.int) (ei_range1 (en_a (en_ixT (ec_var 1) (en_a en_int) rfl)) T.B.range (by omega) (by omega))
    (fun i acc gs1 => ∃ s : List Int, acc = s.map PyData.int ∧ (∀ h ∈ s, 0 ≤ h ∧ h < i) ∧ s.Pairwise (· < ·) ∧ Cost i gs gs1)
    ⟨[], rfl, fun h z => (by cases z), .nil, Cost.zero⟩ ?_ (P := fun d gs' => Φ_houses gs [encN N, .int part] d gs') ?_ (blkOk_by (N := N_L_houses) (sc := defScope st_L_houses) (by decide +kernel)) sc_L_houses.nd (by rw [List.length_map, rgI_len]; omega)) (fun d gs' h => h))
  · rintro i d acc gs1 hd hl ⟨s, rfl, bd, asc, cs⟩
    have hi := (List.getElem?_eq_some_iff.mp hd).1
    rw [List.length_map, rgI_len] at hi
    rw [List.getElem?_map, rgI_at hi] at hd
    cases hd
    have hn : (i : Int) < N.n := by omega
    refine ⟨_, [.un, .val (encN N), .val (.int part), .val (.int (0 + (i : Int)))], fun s_ H_ C_ cl_ fp_ => at_name 3 sc_L_houses.nd, by decide, Nat.zero_lt_succ _, rfl, fun s_ H_ C_ cl_ fp_ => gts_one (gt_weak (gt_eqI (P := fun d gs2 => (∃ k, d = .bool k) ∧ Cost 1 gs1 gs2) (gn_e (gn_callP ((ok_L_random T).mono (by decide)) hr T.L_random.g T.L_random.F.kp T.L_random.b (ecs_cons ((ec_var 2)) ecs_nil) (pre_r (cs _ hg) (by omega) p0 (by omega)) (?_)))) ?_)⟩
    · rintro d gs2 ⟨l, x, e, rfl, x0, x1, c1⟩
      exact ge_pure (en_c en_int) ⟨_, _, rfl, rfl, ⟨_, rfl⟩, c1⟩
    · rintro k gs2 ⟨_, c1⟩
      refine ⟨fun _ => fun s_ H_ C_ cl_ fp_ => ge_pure (ec_var 3) ⟨s ++ [0 + (i : Int)], by rw [List.map_append]; rfl, fun h hh => ?_, ?_, (cs.trans c1).le (by omega)⟩, fun _ => ⟨s, rfl, fun h hh => ?_, asc, (cs.trans c1).le (by omega)⟩⟩
      · rcases List.mem_append.mp hh with hh | hh
        · have := bd h hh; omega
        · have := List.mem_singleton.mp hh; omega
      · refine List.pairwise_append.mpr ⟨asc, List.pairwise_singleton _ _, fun a ha b hb => ?_⟩
        have := bd a ha
        have := List.mem_singleton.mp hb
        omega
      · have := bd h hh; omega
  · rintro acc gs' ⟨s, rfl, bd, asc, cs⟩
    rw [List.length_map, rgI_len] at bd cs
    exact ⟨N, part, s, rfl, rfl, ⟨fun h hh => by have := bd h hh; omega, asc⟩, cs.le (by omega)⟩
end
end KR
namespace KR
open PySem L2
theorem inD_encT (n : List Int) (L : List (List Int)) : inD (encT n) (L.map encT) = decide (n ∈ L) := by
  unfold inD
  induction L with
  | nil => rfl
  | cons l L ih =>
    rw [List.map_cons, List.any_cons, ih, eqv_encT]
    by_cases h : l = n
    · subst h; simp
    · have h' : ¬ n = l := fun z => h z.symm
      simp [h, h']
theorem code2 (a b : Int) : TS.code 100 [a, b] = a * 100 + b := by
  show a * 100 ^ 1 + (b * 100 ^ 0 + 0) = _
  omega
structure LOk (n : Int) (L : List (List Int)) : Prop where
  bd : ∀ p ∈ L, ∃ a b, p = [a, b] ∧ 0 ≤ a ∧ a < b ∧ b < n
  nd : L.Nodup
theorem LOk.mono {n m : Int} {L : List (List Int)} (h : LOk n L) (e : n ≤ m) : LOk m L := ⟨fun p hp => by
  obtain ⟨a, b, q, h1, h2, h3⟩ := h.bd p hp
  exact ⟨a, b, q, h1, h2, by omega⟩, h.nd⟩
theorem LOk.app {n a b : Int} {L : List (List Int)} (h : LOk n L) (h1 : 0 ≤ a) (h2 : a < b) (h3 : b < n) (hn : [a, b] ∉ L) : LOk n (L ++ [[a, b]]) := ⟨fun p hp => by
  rcases List.mem_append.mp hp with hp | hp
  · exact h.bd p hp
  · exact ⟨a, b, List.mem_singleton.mp hp, h1, h2, h3⟩, by
  refine List.nodup_append.mpr ⟨h.nd, by simp, fun x hx y hy e => ?_⟩
  rw [List.mem_singleton.mp hy] at e
  exact hn (e ▸ hx)⟩
theorem sorted_net {n : Int} {L : List (List Int)} (h : LOk n L) (n1 : 1 ≤ n) (n12 : n ≤ 12) (few : L.length ≤ 28) {rs : List Road} (hl : rs.length = (srtT L).length) (hr : ∀ (j : Nat) r, rs[j]? = some r → (srtT L)[j]? = some [r.1, r.2.1] ∧ 1 ≤ r.2.2 ∧ r.2.2 ≤ 9) : NetOk ⟨n, rs⟩ := by
  have pm := srtT_perm L
  have mem : ∀ r ∈ rs, ∃ j : Nat, rs[j]? = some r := fun r hr => List.getElem?_of_mem hr
  refine ⟨n1, n12, by show rs.length ≤ 28; rw [hl, pm.length_eq]; exact few, fun r hm => ?_, ?_⟩
  · obtain ⟨j, hj⟩ := mem r hm
    obtain ⟨e, m1, m9⟩ := hr j r hj
    obtain ⟨a, b, q, h1, h2, h3⟩ := h.bd _ (pm.mem_iff.mp (List.mem_of_getElem? e))
    injection q with q1 q2
    injection q2 with q2 _
    exact ⟨by omega, by omega, by show r.2.1 < n; omega, m1, m9⟩
  · refine List.pairwise_iff_getElem.mpr fun i j hi hj hij => ?_
    have ei : rs[i]? = some rs[i] := List.getElem?_eq_getElem hi
    have ej : rs[j]? = some rs[j] := List.getElem?_eq_getElem hj
    obtain ⟨fi, _, _⟩ := hr i _ ei
    obtain ⟨fj, _, _⟩ := hr j _ ej
    have sd : ((srtT L).map (TS.code 100)).Pairwise (· ≤ ·) := by rw [srtT_map]; exact srt_srt _
    have nd : (srtT L).Nodup := pm.nodup_iff.mpr h.nd
    obtain ⟨li, gi⟩ := List.getElem?_eq_some_iff.mp fi
    obtain ⟨lj, gj⟩ := List.getElem?_eq_some_iff.mp fj
    have le := List.pairwise_iff_getElem.mp sd i j (by rw [List.length_map]; exact li) (by rw [List.length_map]; exact lj) hij
    rw [List.getElem_map, List.getElem_map, gi, gj, code2, code2] at le
    have ne : (srtT L)[i] ≠ (srtT L)[j] := List.pairwise_iff_getElem.mp nd i j li lj hij
    rw [gi, gj] at ne
    obtain ⟨a, b, q, h1, h2, h3⟩ := h.bd _ (pm.mem_iff.mp (List.mem_of_getElem? fi))
    obtain ⟨a', b', q', h1', h2', h3'⟩ := h.bd _ (pm.mem_iff.mp (List.mem_of_getElem? fj))
    injection q with q1 q2
    injection q2 with q2 _
    injection q' with q1' q2'
    injection q2' with q2' _
    show rs[i].1 < rs[j].1 ∨ (rs[i].1 = rs[j].1 ∧ rs[i].2.1 < rs[j].2.1)
    have n2 : ¬ (rs[i].1 = rs[j].1 ∧ rs[i].2.1 = rs[j].2.1) := fun ⟨z1, z2⟩ => ne (by rw [z1, z2])
    omega
theorem srt_pair (x y : Int) : srt [x, y] = if x ≤ y then [x, y] else [y, x] := by
  show ins1 x (ins1 y []) = _
  unfold ins1
  rfl
section
variable {P : Program} {w : World} {K : PySem.W.Frag} {mg : Str → Option Value} {base : Heap} {fs : Nat → Addr} {fds : Nat → FuncData}
abbrev Pre_net : List Int → List PyData → Prop := fun gs ds => ∃ most keys : Int, ds = [.int most, .int keys] ∧ 1 ≤ most ∧ most ≤ 5 ∧ 1 ≤ keys ∧ keys ≤ 9 ∧ Gn 1000000 gs
abbrev Φ_net : List Int → List PyData → PyData → List Int → Prop := fun gs ds d gs' => ∃ N, d = encN N ∧ NetOk N ∧ N.n ≤ 5 ∧ Cost 100 gs gs'
theorem ok_L_net (T : Txt K mg fs fds) : OkG P w K mg base 3 (fs 35) (fds 35) P_L_net Pre_net Φ_net := by
  refine fn_g T.L_net.F sc_L_net (fun _ _ ⟨l, _, e, _⟩ => by rw [e]; rfl) fun cdv A outer s0 H E g gs ds hr ⟨most, keys, e1, m1, m5, k1, k9, hg⟩ => ?_
  subst e1
  -- the houses
  refine gss_seq (gs_set 3 (P := fun d gs1 => ∃ n : Int, d = .int n ∧ 1 ≤ n ∧ n ≤ 5 ∧ Cost 1 gs gs1) (gn_e (gn_add (ge_pure (en_c en_int) (gn_e (gn_callP ((ok_L_random T).mono (by decide)) hr T.L_random.g T.L_random.F.kp T.L_random.b (ecs_cons ((ec_var 1)) ecs_nil) (pre_r hg (by decide) (by omega) (by omega)) (?_)))))) (fun d gs1 ⟨n, e, n1, n5, c1⟩ => ?_) sc_L_net.nd)
  · rintro d gs2 ⟨l, x, e, e2, x0, x1, c1⟩
    cases e
    exact ⟨1, x, rfl, e2, 1 + x, rfl, by omega, by omega, c1⟩
  subst e
  refine gss_seq (gs_own 4 (en_lst ecs_nil) ?_ sc_L_net.nd)
  refine gss_seq (gs_forP (ei_range2 (en_a en_int) (ec_a (ec_var 3)) T.B.range (by omega)) (fun i ρ gs2 => ∃ (L : List (List Int)) (e5 e6 : Ent), ρ = [.un, .val (.int most), .val (.int keys), .val (.int n), .own (L.map encT), e5, e6, .un, .un] ∧ LOk (1 + i) L ∧ L.length ≤ i ∧ Cost (1 + 2 * i) gs gs2) ⟨[], _, _, rfl, ⟨fun p z => (by cases z), .nil⟩, Nat.le_refl _, c1.le (by omega)⟩ ?_ ?_)
  · rintro i d ρ' gs2 hd ⟨L, e5, e6, rfl, lok, ll, cs⟩
    have hi := (List.getElem?_eq_some_iff.mp hd).1
    rw [List.length_map, rgI_len] at hi
    rw [List.getElem?_map, rgI_at hi] at hd
    cases hd
    refine ⟨_, [.un, .val (.int most), .val (.int keys), .val (.int n), .own (L.map encT), .val (.int (1 + (i : Int))), e6, .un, .un], at_name 5 sc_L_net.nd, Nat.zero_lt_succ _, ?_⟩
    refine gss_one (gs_if (gt_weak (gt_gt (P := fun d gs3 => (∃ k, d = .bool k) ∧ Cost 1 gs2 gs3) (gn_e (gn_callP ((ok_L_random T).mono (by decide)) hr T.L_random.g T.L_random.F.kp T.L_random.b (ecs_cons (en_c en_int) ecs_nil) (pre_r (cs _ hg) (by omega) (by decide) (by decide)) (?_)))) (fun k gs3 h => h)) fun q gs3 ⟨_, c2⟩ => ⟨fun _ => ?_, fun _ => gss_nil ⟨L, _, _, rfl, lok.mono (by omega), by omega, (cs.trans c2).le (by omega)⟩⟩)
    · rintro d gs3 ⟨l, x, e, e2, x0, x1, c2⟩
      exact ge_pure (en_c en_int) ⟨x, 0, e2, rfl, ⟨_, rfl⟩, c2⟩
    have c3 := cs.trans c2
    refine gss_one (gs_app 4 (ds := L.map encT) (P := fun d gs4 => ∃ x : Int, d = encT [x, 1 + (i : Int)] ∧ 0 ≤ x ∧ x < 1 + (i : Int) ∧ Cost 1 gs3 gs4) (gn_e (gn_tup (ges_cons (gn_e (gn_callP ((ok_L_random T).mono (by decide)) hr T.L_random.g T.L_random.F.kp T.L_random.b (ecs_cons ((ec_var 5)) ecs_nil) (pre_r (c3 _ hg) (by omega) (by omega) (by omega)) (?_)))))) (fun d gs4 ⟨x, e, x0, x1, c4⟩ => ?_) (by rw [List.length_map]; omega))
    · rintro d gs4 ⟨l, x, e, e2, x0, x1, c4⟩
      cases e
      subst e2
      exact ges_pure (ecs_cons ((ec_var 5)) ecs_nil) ⟨by show 2 ≤ 1000; decide, x, rfl, x0, x1, c4⟩
    · subst e
      refine ⟨L ++ [[x, 1 + (i : Int)]], _, _, by rw [List.map_append]; rfl, (lok.mono (by omega)).app x0 x1 (by omega) (fun z => ?_), by rw [List.length_append]; show _ + 1 ≤ _; omega, (c3.trans c4).le (by omega)⟩
      obtain ⟨a, b, q, h1, h2, h3⟩ := lok.bd _ z
      injection q with q1 q2
      injection q2 with q2 _
      omega
  rintro ρ' gs2 ⟨L, e5, e6, rfl, lok, ll, cs⟩
  rw [List.length_map, rgI_len] at lok ll cs
  -- more roads
  refine gss_seq (gs_for (eig_range (P := fun ds gs3 => ds.length ≤ 2 ∧ Cost 1 gs2 gs3) (gn_e (gn_callP ((ok_L_random T).mono (by decide)) hr T.L_random.g T.L_random.F.kp T.L_random.b (ecs_cons (en_c en_int) ecs_nil) (pre_r (cs _ hg) (by omega) (by decide) (by decide)) (?_))) T.B.range) fun ds gs3 ⟨hz, c3⟩ => ⟨fun i ρ gs4 => ∃ (L : List (List Int)) (e5 e6 e7 e8 : Ent), ρ = [.un, .val (.int most), .val (.int keys), .val (.int n), .own (L.map encT), e5, e6, e7, e8] ∧ nown e7 = true ∧ nown e8 = true ∧ LOk n L ∧ L.length ≤ 4 + i ∧ Cost (10 + 2 * i) gs gs4, ⟨L, _, _, _, _, rfl, rfl, rfl, lok.mono (by omega), by omega, (cs.trans c3).le (by omega)⟩, ?_, ?_⟩)
  · rintro d gs3 ⟨l, x, e, e2, x0, x1, c2⟩
    cases e
    exact ⟨x, e2, x0, by omega, by rw [List.length_map, rgI_len]; omega, c2⟩
  · rintro i d ρ' gs4 hd ⟨L, e5, e6, e7, e8, rfl, w7, w8, lok, ll, cs⟩
    have hi := (List.getElem?_eq_some_iff.mp hd).1
    refine ⟨_, [.un, .val (.int most), .val (.int keys), .val (.int n), .own (L.map encT), e5, .val d, e7, e8], at_name 6 sc_L_net.nd, Nat.zero_lt_succ _, ?_⟩
    refine gss_seq (gs_tgt (P := fun d gs5 => ∃ lo hi : Int, d = dI [lo, hi] ∧ 0 ≤ lo ∧ lo < n ∧ 0 ≤ hi ∧ hi < n ∧ Cost 2 gs4 gs5) (gn_e (gn_callB cr_sortedI T.B.sorted (ges_cons (gn_e (gn_lst (ges_cons (gn_e (gn_callP ((ok_L_random T).mono (by decide)) hr T.L_random.g T.L_random.F.kp T.L_random.b (ecs_cons ((ec_var 3)) ecs_nil) (pre_r (cs _ hg) (by omega) (by omega) (by omega)) (?_)))))))))
      (fun d gs5 ⟨lo, hi, e, l0, l1, h0, h1, c2⟩ => ⟨_, [.un, .val (.int most), .val (.int keys), .val (.int n), .own (L.map encT), e5, _, .val (.int lo), .val (.int hi)], by subst e; exact at_lst (ats_cons (at_name 7 sc_L_net.nd) (ats_cons (at_name 8 sc_L_net.nd) ats_nil)), Nat.zero_lt_succ _, ?_⟩))
    · rintro d1 gs5 ⟨l, x, e, e2, x0, x1, c2⟩
      cases e
      subst e2
      refine ges_cons (gn_e (gn_callP ((ok_L_random T).mono (by decide)) hr T.L_random.g T.L_random.F.kp T.L_random.b (ecs_cons ((ec_var 3)) ecs_nil) (pre_r ((cs.trans c2) _ hg) (by omega) (by omega) (by omega)) (?_)))
      rintro d1 gs6 ⟨l, y, e, e2, y0, y1, c4⟩
      cases e
      subst e2
      refine ges_nil ⟨by show 2 ≤ 1000; decide, ges_nil ⟨dI (srt [x, y]), Cl1.c (cl_sorted (ns := [x, y])), ?_⟩⟩
      rw [srt_pair]
      split
      · exact ⟨x, y, rfl, x0, x1, y0, y1, Cost.trans c2 c4⟩
      · exact ⟨y, x, rfl, y0, y1, x0, x1, Cost.trans c2 c4⟩
    · have c3 := cs.trans c2
      refine gss_one (gs_ifP (et_w (ew_and (et_lt (ec_a (ec_var 7)) (ec_a (ec_var 8))) (fun _ => ew_and1 (et_is (et_notin hr.u (en_a (en_is (en_tup (ecs_cons ((ec_var 7)) (ecs_cons ((ec_var 8)) ecs_nil))) (d' := encT [lo, hi]) rfl)) (ea_own 4) (sh_encT _).ok (sh_map L sh_encT).ok) (by rw [inD_encT]))))) (fun z => ?_) (fun _ => gss_nil ⟨L, _, _, _, _, rfl, rfl, rfl, lok, by omega, c3.le (by omega)⟩))
      rw [Bool.and_eq_true] at z
      have z1 := of_decide_eq_true z.1
      have z2 : [lo, hi] ∉ L := fun q => by have := z.2; rw [decide_eq_true q] at this; cases this
      refine gss_one (gs_app 4 (ds := L.map encT) (P := fun d gs6 => d = encT [lo, hi] ∧ gs6 = gs5) (ge_pure (en_c (en_tup (ecs_cons ((ec_var 7)) (ecs_cons ((ec_var 8)) ecs_nil)))) ⟨rfl, rfl⟩) (fun d gs6 ⟨e, e'⟩ => ?_) (by rw [List.length_map]; omega))
      subst e e'
      exact ⟨L ++ [[lo, hi]], _, _, _, _, by rw [List.map_append]; rfl, rfl, rfl, lok.app l0 z1 h1 z2, by rw [List.length_append]; show _ + 1 ≤ _; omega, c3.le (by omega)⟩
  rintro ρ' gs4 ⟨L, e5, e6, e7, e8, rfl, w7, w8, lok, ll, cs⟩
  have pm := srtT_perm L
  have lz : (srtT L).length ≤ 6 := by rw [pm.length_eq]; omega
  refine gss_freeze 4 (gss_one (gs_ret (P := fun d gs' => Φ_net gs [] d gs') (gn_tup (ges_cons (ge_pure (ec_var 3) (ges_cons (gn_e (gn_lc (own := [("_law_low", 7), ("_law_high", 8)]) (ds := (srtT L).map encT) (ei_list (en_c (en_callBC (cr_sortT (by decide)) (cl_sortT (dlen := 2) (L := L) (fun p hp => ?_) (by omega)) T.B.sorted (ecs_cons ((ec_var 4)) ecs_nil))))
    (fun i acc gs1 => ∃ rs : List Road, acc = rs.map encR ∧ rs.length = i ∧ (∀ (j : Nat) r, rs[j]? = some r → (srtT L)[j]? = some [r.1, r.2.1] ∧ 1 ≤ r.2.2 ∧ r.2.2 ≤ 9) ∧ Cost i gs4 gs1)
    ⟨[], rfl, rfl, fun j r h => (by cases h), Cost.zero⟩ ?_ ?_ (blkOk_by (N := N_L_net) (sc := defScope st_L_net) (by decide +kernel)) sc_L_net.nd (by rw [List.length_map]; omega) (by decide) (by show (nown e7 && (nown e8 && true)) = true; rw [w7, w8]; rfl)))))))
    (fun d gs' h => h)))
  · obtain ⟨a, b, rfl, h1, h2, h3⟩ := lok.bd p hp
    exact ⟨rfl, bd2 (by omega) (by omega)⟩
  · rintro i d acc gs5 hd hl ⟨rs, rfl, lr, hrs, cr⟩
    rw [List.getElem?_map] at hd
    cases hp : (srtT L)[i]? with
    | none => rw [hp] at hd; cases hd
    | some p =>
      rw [hp] at hd
      cases hd
      have hi := (List.getElem?_eq_some_iff.mp hp).1
      obtain ⟨a, b, rfl, h1, h2, h3⟩ := lok.bd p (pm.mem_iff.mp (List.mem_of_getElem? hp))
      refine ⟨_, [.un, .val (.int most), .val (.int keys), .val (.int n), .val (.list (L.map encT)), e5, e6, .val (.int a), .val (.int b)], fun s_ H_ C_ cl_ fp_ => (at_tup (ats_cons (at_name 7 sc_L_net.nd) (ats_cons (at_name 8 sc_L_net.nd) ats_nil))), by decide, Nat.zero_lt_succ _, rfl, fun s_ H_ C_ cl_ fp_ => gts_nil ⟨fun _ => fun s_ H_ C_ cl_ fp_ => gn_e (gn_tup (ges_cons (ge_pure (ec_var 7) (ges_cons (ge_pure (ec_var 8) (ges_cons (gn_e (gn_add (ge_pure (en_c en_int) (gn_e (gn_callP ((ok_L_random T).mono (by decide)) hr T.L_random.g T.L_random.F.kp T.L_random.b (ecs_cons ((ec_var 2)) ecs_nil) (pre_r ((cs.trans cr) _ hg) (by omega) (by omega) (by omega)) (?_)))))))))))), fun z => by cases z⟩⟩
      rintro d gs6 ⟨l, x, e, rfl, x0, x1, c2⟩
      cases e
      refine ⟨1, x, rfl, rfl, ges_nil ⟨by show 3 ≤ 1000; decide, rs ++ [(a, b, 1 + x)], by rw [List.map_append]; rfl, by rw [List.length_append, lr]; rfl, fun j r h => ?_, (cr.trans c2).le (by omega)⟩⟩
      by_cases hj : j < rs.length
      · rw [List.getElem?_append_left hj] at h
        exact hrs j r h
      · rw [List.getElem?_append_right (by omega)] at h
        have hj2 : j - rs.length < 1 := (List.getElem?_eq_some_iff.mp h).1
        have ej : j = i := by omega
        subst ej
        rw [show j - rs.length = 0 by omega] at h
        cases h
        exact ⟨hp, by show 1 ≤ 1 + x; omega, by show 1 + x ≤ 9; omega⟩
  · rintro acc gs' ⟨rs, rfl, lr, hrs, cr⟩
    rw [List.length_map] at lr cr
    exact ges_nil ⟨by show 2 ≤ 1000; decide, ⟨n, rs⟩, rfl, sorted_net lok n1 (by omega) (by omega) lr hrs, n5, (cs.trans cr).le (by omega)⟩
end
end KR
namespace KR
open PySem L2
/-- what a run may be -/
inductive RunOf (N : Net) (rest s : List Int) : List Int → List Int → Prop
  | nil : RunOf N rest s [] s
  | snoc {run th : List Int} {h : Int} (r : RunOf N rest s run th) (m : h ∈ able N th rest) : RunOf N rest s (run ++ [h]) (wk N th h)
theorem RunOf.len {N : Net} {rest s run th : List Int} (r : RunOf N rest s run th) (hl : s.length = N.rs.length) : th.length = N.rs.length := by
  induction r with
  | nil => exact hl
  | snoc r m ih => exact wk_len ih _
abbrev rs7 : List Road := [(0, 1, 1), (0, 2, 1), (1, 2, 1), (3, 4, 1), (3, 5, 1), (4, 5, 1), (4, 6, 2)]
abbrev rs8 : List Road := [(0, 1, 1), (0, 2, 1), (1, 2, 1), (2, 3, 2), (3, 4, 1), (3, 5, 1), (4, 5, 1), (4, 6, 2)]
theorem net7 : NetOk ⟨7, rs7⟩ := by
  refine ⟨by decide, by decide, by decide, fun r hr => ?_, ?_⟩
  · revert r
    have : ∀ r ∈ rs7, 0 ≤ r.1 ∧ r.1 < r.2.1 ∧ r.2.1 < 7 ∧ 1 ≤ r.2.2 ∧ r.2.2 ≤ 9 := by decide
    exact fun r hr => ⟨(this r hr).1, (this r hr).2.1, (this r hr).2.2.1, (this r hr).2.2.2.1, (this r hr).2.2.2.2⟩
  · show rs7.Pairwise fun a b => a.1 < b.1 ∨ (a.1 = b.1 ∧ a.2.1 < b.2.1)
    decide
theorem net8 : NetOk ⟨7, rs8⟩ := by
  refine ⟨by decide, by decide, by decide, fun r hr => ?_, ?_⟩
  · revert r
    have : ∀ r ∈ rs8, 0 ≤ r.1 ∧ r.1 < r.2.1 ∧ r.2.1 < 7 ∧ 1 ≤ r.2.2 ∧ r.2.2 ≤ 9 := by decide
    exact fun r hr => ⟨(this r hr).1, (this r hr).2.1, (this r hr).2.2.1, (this r hr).2.2.2.1, (this r hr).2.2.2.2⟩
  · show rs8.Pairwise fun a b => a.1 < b.1 ∨ (a.1 = b.1 ∧ a.2.1 < b.2.1)
    decide
def bit (z : Int) : Prop := 0 ≤ z ∧ z ≤ 1
abbrev tri4 : List (List Int) := [[0, 1, 0], [0, 1, 0], [1, 0, 1], [1, 1, 0]]
theorem tri_at {x : Int} (x0 : 0 ≤ x) (x1 : x < 4) : ∃ a b c, atI (tri4.map dI) x = some (dI [a, b, c]) ∧ bit a ∧ bit b ∧ bit c := by
  have h : x = 0 ∨ x = 1 ∨ x = 2 ∨ x = 3 := by omega
  rcases h with rfl | rfl | rfl | rfl
  · exact ⟨0, 1, 0, rfl, ⟨by decide, by decide⟩, ⟨by decide, by decide⟩, ⟨by decide, by decide⟩⟩
  · exact ⟨0, 1, 0, rfl, ⟨by decide, by decide⟩, ⟨by decide, by decide⟩, ⟨by decide, by decide⟩⟩
  · exact ⟨1, 0, 1, rfl, ⟨by decide, by decide⟩, ⟨by decide, by decide⟩, ⟨by decide, by decide⟩⟩
  · exact ⟨1, 1, 0, rfl, ⟨by decide, by decide⟩, ⟨by decide, by decide⟩, ⟨by decide, by decide⟩⟩
theorem st7 {a b c d e f x : Int} (ha : bit a) (hb : bit b) (hc : bit c) (hd : bit d) (he : bit e) (hf : bit f) (h0 : 0 ≤ x) (h1 : x < 3) : StOk ⟨7, rs7⟩ [a, b, c, d, e, f, x] := by
  unfold bit at *
  refine ⟨rfl, fun p hp => ?_⟩
  simp only [List.zip_cons_cons, List.zip_nil_right, List.mem_cons, List.not_mem_nil, or_false] at hp
  rcases hp with rfl | rfl | rfl | rfl | rfl | rfl | rfl <;> simp <;> omega
theorem st8 {a b c d e f x y : Int} (ha : bit a) (hb : bit b) (hc : bit c) (hd : bit d) (he : bit e) (hf : bit f) (h0 : 0 ≤ x) (h1 : x < 3) (h2 : 0 ≤ y) (h3 : y < 3) : StOk ⟨7, rs8⟩ [a, b, c, y, d, e, f, x] := by
  unfold bit at *
  refine ⟨rfl, fun p hp => ?_⟩
  simp only [List.zip_cons_cons, List.zip_nil_right, List.mem_cons, List.not_mem_nil, or_false] at hp
  rcases hp with rfl | rfl | rfl | rfl | rfl | rfl | rfl | rfl <;> simp <;> omega
theorem bd_rs : ∀ n ∈ (rs7 ++ [(2, 3, 2)]).map (fun r : Road => [r.1, r.2.1, r.2.2]), n.length = 3 ∧ TS.Bd 100 n := fun n hn => by
  obtain ⟨r, hr, rfl⟩ := List.mem_map.mp hn
  have h : ∀ r ∈ rs7 ++ [(2, 3, 2)], (0 ≤ r.1 ∧ r.1 < 100) ∧ (0 ≤ r.2.1 ∧ r.2.1 < 100) ∧ 0 ≤ r.2.2 ∧ r.2.2 < 100 := by decide
  obtain ⟨h1, h2, h3⟩ := h r hr
  refine ⟨rfl, fun m hm => ?_⟩
  rcases List.mem_cons.mp hm with e | hm
  · rw [e]; exact h1
  · rcases List.mem_cons.mp hm with e | hm
    · rw [e]; exact h2
    · rw [List.mem_singleton.mp hm]; exact h3
section
variable {P : Program} {w : World} {K : PySem.W.Frag} {mg : Str → Option Value} {base : Heap} {fs : Nat → Addr} {fds : Nat → FuncData}
abbrev Pre_run : List Int → List PyData → Prop := fun gs ds => ∃ N s rest, ∃ most : Int, ds = [encN N, dI s, dI rest, .int most] ∧ NetOk N ∧ s.length = N.rs.length ∧ 0 ≤ most ∧ most ≤ 100 ∧ Gn 1000000000 gs
abbrev Φ_run : List Int → List PyData → PyData → List Int → Prop := fun gs ds d gs' => ∃ N s rest, ∃ most : Int, ∃ run th, ds = [encN N, dI s, dI rest, .int most] ∧ d = .tuple [dI run, dI th] ∧ RunOf N rest s run th ∧ run.length ≤ most ∧ Cost 100 gs gs'
theorem ok_L_run (T : Txt K mg fs fds) : OkG P w K mg base 4 (fs 49) (fds 49) P_L_run Pre_run Φ_run := by
  refine fn_g T.L_run.F sc_L_run (fun _ _ ⟨_, _, _, _, e, _⟩ => by rw [e]; rfl) fun cdv A outer s0 H E g gs ds hr ⟨N, s, rest, most, e1, hok, hl, m0, m1, hg⟩ => ?_
  subst e1
  have n1 := hok.n1
  have n12 := hok.n12
  refine gss_seq (gs_parOV 5 6 (en_lst ecs_nil) (ec_var 2) ?_ sc_L_run.nd)
  refine gss_seq (gs_forP (ei_range1 (ec_a (ec_var 4)) T.B.range (by omega) m0) (fun i ρ gs2 => ∃ (run th : List Int) (e7 e8 : Ent), ρ = [.un, .val (encN N), .val (dI s), .val (dI rest), .val (.int most), .own (run.map PyData.int), .val (dI th), e7, e8] ∧ RunOf N rest s run th ∧ run.length ≤ i ∧ Cost i gs gs2) ⟨[], s, _, _, rfl, .nil, Nat.le_refl _, Cost.zero⟩ ?_ ?_)
  · rintro i d ρ' gs2 hd ⟨run, th, e7, e8, rfl, hrun, lr, cs⟩
    have hi := (List.getElem?_eq_some_iff.mp hd).1
    rw [List.length_map, rgI_len] at hi
    have hth := hrun.len hl
    refine ⟨_, [.un, .val (encN N), .val (dI s), .val (dI rest), .val (.int most), .own (run.map PyData.int), .val (dI th), .val d, e8], at_name 7 sc_L_run.nd, Nat.zero_lt_succ _, ?_⟩
    refine gss_seq (gs_setP 8 (en_c (en_call ((ok_L_able T).mono (by decide)) hr T.L_able.g T.L_able.F.kp T.L_able.b (ecs_cons ((ec_var 1)) (ecs_cons ((ec_var 6)) (ecs_cons ((ec_var 3)) ecs_nil))) (⟨N, th, rest, rfl, hok, hth, rfl⟩))) ?_ sc_L_run.nd)
    refine gss_one (gs_ifP (et_ne hr.u4 (ec_a (ec_var 8)) (en_a (en_lst ecs_nil)) (sh_dI _).ok sh_nil.ok) (fun z => ?_) (fun _ => gss_nil ⟨run, th, _, _, rfl, hrun, by omega, cs.le (by omega)⟩))
    rw [eqv_nil] at z
    have few : (able N th rest).length ≤ 12 := by
      have := List.length_filter_le (fun h => decide (¬ h ∈ rest) && can N th h) (rgI 0 N.n)
      rw [rgI_len] at this
      show (List.filter _ _).length ≤ 12
      omega
    have pos : 0 < (able N th rest).length := by
      cases q : able N th rest with
      | nil => rw [q] at z; cases z
      | cons a b => exact Nat.zero_lt_succ _
    refine gss_seq (gs_app 5 (ds := run.map PyData.int) (P := fun d gs3 => ∃ h, d = .int h ∧ h ∈ able N th rest ∧ Cost 1 gs2 gs3) (ge_ix (ge_pure (ec_var 8) (gn_e (gn_callP ((ok_L_random T).mono (by decide)) hr T.L_random.g T.L_random.F.kp T.L_random.b (ecs_cons (en_c (en_is (en_callB (call_len_seq) (cl_len) T.B.len (eas_cons ((ec_a (ec_var 8))) eas_nil)) (congrArg (fun z : Nat => PyData.int (z : Int)) (List.length_map _)))) ecs_nil) (pre_r (cs _ hg) (by omega) (by omega) (by omega)) (?_))))) ?_ (by rw [List.length_map]; omega))
    · rintro d gs3 ⟨l, x, e, rfl, x0, x1, c2⟩
      cases e
      have hx : x.toNat < (able N th rest).length := by omega
      exact ⟨_, x, _, rfl, rfl, at_get x0 hx, _, rfl, List.getElem_mem hx, c2⟩
    · rintro d gs3 ⟨h, rfl, hm, c2⟩
      refine gss_one (gs_setP 6 (en_c (en_call ((ok_L_worked T).mono (by decide)) hr T.L_worked.g T.L_worked.F.kp T.L_worked.b (ecs_cons ((ec_var 1)) (ecs_cons ((ec_var 6)) (ecs_cons (en_c (ea_n (ea_ixL (ea_own 5) (en_a (en_neg (en_a en_int))) (atI_last _ _)))) ecs_nil))) (⟨N, th, h, rfl, hok, hth, rfl⟩))) ?_ sc_L_run.nd)
      exact ⟨run ++ [h], _, _, _, by rw [List.map_append]; rfl, hrun.snoc hm, by rw [List.length_append]; show _ + 1 ≤ _; omega, (cs.trans c2).le (by omega)⟩
  · rintro ρ' gs2 ⟨run, th, e7, e8, rfl, hrun, lr, cs⟩
    rw [List.length_map, rgI_len] at lr cs
    exact gss_freeze 5 (gss_one (gs_retP (en_tup (ecs_cons ((ec_var 5)) (ecs_cons ((ec_var 6)) ecs_nil))) ⟨N, s, rest, most, run, th, rfl, rfl, hrun, by omega, cs.le (by omega)⟩))
abbrev Pre_seven : List Int → List PyData → Prop := fun gs ds => ds = [] ∧ Gn 1000000 gs
abbrev Φ_seven : List Int → List PyData → PyData → List Int → Prop := fun gs ds d gs' => ∃ N s, d = .tuple [encN N, dI s] ∧ NetOk N ∧ N.n = 7 ∧ StOk N s ∧ Cost 100 gs gs'
theorem ok_L_seven (T : Txt K mg fs fds) : OkG P w K mg base 3 (fs 53) (fds 53) P_L_seven Pre_seven Φ_seven := by
  refine fn_g T.L_seven.F sc_L_seven (fun _ _ ⟨e, _⟩ => by rw [e]; rfl) fun cdv A outer s0 H E g gs ds hr ⟨e1, hg⟩ => ?_
  subst e1
  refine gss_seq (gs_setP 1 (en_c (en_is (en_lst (ecs_cons (en_c (en_tup (ecs_cons (en_c en_int) (ecs_cons (en_c en_int) (ecs_cons (en_c en_int) ecs_nil))))) (ecs_cons (en_c (en_tup (ecs_cons (en_c en_int) (ecs_cons (en_c en_int) (ecs_cons (en_c en_int) ecs_nil))))) (ecs_cons (en_c (en_tup (ecs_cons (en_c en_int) (ecs_cons (en_c en_int) (ecs_cons (en_c en_int) ecs_nil))))) (ecs_cons (en_c (en_tup (ecs_cons (en_c en_int) (ecs_cons (en_c en_int) (ecs_cons (en_c en_int) ecs_nil))))) (ecs_cons (en_c (en_tup (ecs_cons (en_c en_int) (ecs_cons (en_c en_int) (ecs_cons (en_c en_int) ecs_nil))))) (ecs_cons (en_c (en_tup (ecs_cons (en_c en_int) (ecs_cons (en_c en_int) (ecs_cons (en_c en_int) ecs_nil))))) (ecs_cons (en_c (en_tup (ecs_cons (en_c en_int) (ecs_cons (en_c en_int) (ecs_cons (en_c en_int) ecs_nil))))) ecs_nil)))))))) (d' := .list (rs7.map encR)) rfl)) ?_ sc_L_seven.nd)
  refine gss_seq (gs_setP 2 (en_c (en_is (en_lst (ecs_cons (en_c (en_lst (ecs_cons (en_c en_int) (ecs_cons (en_c en_int) (ecs_cons (en_c en_int) ecs_nil))))) (ecs_cons (en_c (en_lst (ecs_cons (en_c en_int) (ecs_cons (en_c en_int) (ecs_cons (en_c en_int) ecs_nil))))) (ecs_cons (en_c (en_lst (ecs_cons (en_c en_int) (ecs_cons (en_c en_int) (ecs_cons (en_c en_int) ecs_nil))))) (ecs_cons (en_c (en_lst (ecs_cons (en_c en_int) (ecs_cons (en_c en_int) (ecs_cons (en_c en_int) ecs_nil))))) ecs_nil))))) (d' := .list (tri4.map dI)) rfl)) ?_ sc_L_seven.nd)
  refine gss_seq (gs_set 3 (P := fun d gs2 => ∃ a b c d' e f x, d = dI [a, b, c, d', e, f, x] ∧ bit a ∧ bit b ∧ bit c ∧ bit d' ∧ bit e ∧ bit f ∧ 0 ≤ x ∧ x < 3 ∧ Cost 3 gs gs2)
    (gn_e (gn_cat (gn_e (gn_cat (ge_ix (ge_pure (ec_var 2) (gn_e (gn_callP ((ok_L_random T).mono (by decide)) hr T.L_random.g T.L_random.F.kp T.L_random.b (ecs_cons (en_c en_int) ecs_nil) (pre_r hg (by decide) (by decide) (by decide)) (?_)))))))))
    (fun d gs2 ⟨a, b, c, d', ee, f, x, e1, ha, hb, hc, hd, he, hf, x0, x1, cs⟩ => ?_) sc_L_seven.nd)
  · rintro d gs1 ⟨l, x, e, rfl, x0, x1, c1⟩
    cases e
    obtain ⟨a, b, c, e1, ha, hb, hc⟩ := tri_at x0 x1
    refine ⟨_, x, _, rfl, rfl, e1, ge_ix (ge_pure (ec_var 2) (gn_e (gn_callP ((ok_L_random T).mono (by decide)) hr T.L_random.g T.L_random.F.kp T.L_random.b (ecs_cons (en_c en_int) ecs_nil) (pre_r (c1 _ hg) (by decide) (by decide) (by decide)) (?_))))⟩
    rintro d gs2 ⟨l, y, e, rfl, y0, y1, c2⟩
    cases e
    obtain ⟨a', b', c', e2, ha', hb', hc'⟩ := tri_at y0 y1
    refine ⟨_, y, _, rfl, rfl, e2, _, _, rfl, rfl, by rw [sizeLine_eq]; show 3 + 3 ≤ _; omega, gn_e (gn_lst (ges_cons (gn_e (gn_callP ((ok_L_random T).mono (by decide)) hr T.L_random.g T.L_random.F.kp T.L_random.b (ecs_cons (en_c en_int) ecs_nil) (pre_r (c2 _ (c1 _ hg)) (by decide) (by decide) (by decide)) (?_)))))⟩
    rintro d gs3 ⟨l, z, e, rfl, z0, z1, c3⟩
    cases e
    exact ges_nil ⟨by show 1 ≤ 1000; decide, _, _, rfl, rfl, by rw [sizeLine_eq]; show 6 + 1 ≤ _; omega, a, b, c, a', b', c', z, rfl, ha, hb, hc, ha', hb', hc', z0, z1, Cost.trans (Cost.trans c1 c2) c3⟩
  subst e1
  refine gss_seq (gs_if (gt_weak (gt_eqI (P := fun d gs3 => (∃ k, d = .bool k) ∧ Cost 1 gs2 gs3) (gn_e (gn_callP ((ok_L_random T).mono (by decide)) hr T.L_random.g T.L_random.F.kp T.L_random.b (ecs_cons (en_c en_int) ecs_nil) (pre_r (cs _ hg) (by decide) (by decide) (by decide)) (?_)))) (fun k gs3 h => h)) fun q gs3 ⟨_, c2⟩ => ⟨fun _ => ?_, fun _ => gss_nil ?_⟩)
  · rintro d gs3 ⟨l, x, e, e2, x0, x1, c2⟩
    exact ge_pure (en_c en_int) ⟨x, 0, e2, rfl, ⟨_, rfl⟩, c2⟩
  · exact gss_one (gs_retP (en_tup (ecs_cons (en_c (en_tup (ecs_cons (en_c en_int) (ecs_cons ((ec_var 1)) ecs_nil)))) (ecs_cons ((ec_var 3)) ecs_nil))) ⟨⟨7, rs7⟩, _, rfl, net7, rfl, st7 ha hb hc hd he hf x0 x1, (cs.trans c2).le (by decide)⟩)
  have c3 := cs.trans c2
  refine gss_one (gs_ret (P := fun d gs' => Φ_seven gs [] d gs') (gn_tup (ges_cons (ge_pure (en_c (en_tup (ecs_cons (en_c en_int) (ecs_cons (en_c (en_is (en_callBC (cr_sortT (by decide)) (cl_sortT (dlen := 3) (L := (rs7 ++ [(2, 3, 2)]).map fun r : Road => [r.1, r.2.1, r.2.2]) bd_rs (by decide)) T.B.sorted (ecs_cons (en_c (en_is (en_cat (ec_var 1) (en_c (en_lst (ecs_cons (en_c (en_tup (ecs_cons (en_c en_int) (ecs_cons (en_c en_int) (ecs_cons (en_c en_int) ecs_nil))))) ecs_nil))) (by rw [sizeLine_eq]; show 7 + 1 ≤ _; omega)) rfl)) ecs_nil)) (d' := .list (rs8.map encR)) ?_)) ecs_nil)))) (ges_cons (gn_e (gn_cat (gn_e (gn_cat (ge_pure (en_c (en_slL (ec_var 3) eo_none (eo_some (en_a en_int)))) (gn_e (gn_lst (ges_cons (gn_e (gn_callP ((ok_L_random T).mono (by decide)) hr T.L_random.g T.L_random.F.kp T.L_random.b (ecs_cons (en_c en_int) ecs_nil) (pre_r (c3 _ hg) (by decide) (by decide) (by decide)) (?_))))))))))))))) (fun d gs' h => h))
  · have e : srtT ((rs7 ++ [(2, 3, 2)]).map fun r : Road => [r.1, r.2.1, r.2.2]) = rs8.map fun r : Road => [r.1, r.2.1, r.2.2] := by decide +kernel
    rw [e]; rfl
  · rintro d gs4 ⟨l, y, e, rfl, y0, y1, c4⟩
    cases e
    refine ges_nil ⟨by show 1 ≤ 1000; decide, _, _, rfl, rfl, by rw [sizeLine_eq]; show 3 + 1 ≤ _; omega, ge_pure (en_c (en_slL (ec_var 3) (eo_some (en_a en_int)) eo_none)) ⟨_, _, rfl, rfl, by rw [sizeLine_eq]; show 4 + 4 ≤ _; omega, ges_nil ⟨by show 2 ≤ 1000; decide, ⟨7, rs8⟩, [a, b, c, y, d', ee, f, x], rfl, net8, rfl, st8 ha hb hc hd he hf x0 x1 y0 y1, (Cost.trans c3 c4).le (by decide)⟩⟩⟩
end
end KR
namespace KR
open PySem L2
/-! ### the script -/
def inK (K : PySem.W.Frag) (a : Addr) (xs : List V) : Prop := ∃ (o : Obj) (its : Array Value) (n : Nat), K.lookup a = some o ∧ o.cls = .type "list" ∧ o.dict = none ∧ o.data = .seq its n ∧ its.size ≤ sizeLine ∧ Vals xs its.toList
inductive ScrD (K : PySem.W.Frag) (ns : List Int) : PyData → Prop
  | opq {a : Nat} (h : inK K a (ns.map V.int)) : ScrD K ns (.dict [(.int (a : Int), .none)])
  | fz {a : Nat} : ScrD K ns (.dict [(.int (a : Int), .list (ns.map PyData.int))])
theorem map_int_inj {ns ms : List Int} (h : ns.map PyData.int = ms.map PyData.int) : ns = ms := by
  induction ns generalizing ms with
  | nil => cases ms <;> simp_all
  | cons n ns ih => cases ms with
    | nil => simp at h
    | cons m ms =>
      rw [List.map_cons, List.map_cons] at h
      injection h with h1 h2
      injection h1 with h1
      rw [h1, ih h2]
theorem ScrD.sq {K : PySem.W.Frag} {ns : List Int} {sd : PyData} {H : Hp} {v : V} (h : ScrD K ns sd) (w : Dq H v sd) : ∃ a, v = .ref a ∧ SqL K H a (ns.map V.int) := by
  cases h with
  | opq h => cases w with
    | opq a => exact ⟨_, rfl, .inr h⟩
  | fz =>
    generalize e : ns.map PyData.int = ds at w
    cases w with
    | fz h =>
      have := map_int_inj e
      subst this
      exact ⟨_, rfl, .inl (.inr ⟨_, h⟩)⟩
section
variable {X : Cx} {ρ : List Ent} {a b : Expr} {sd : PyData} {ns : List Int} {pos p2 : Pos} {i z : Int} {lo hi : Option Expr} {ol oh : Option Int}
theorem cl_lenS (h : ScrD X.K ns sd) : Cl1 (fun xs H Q => ∃ p ys, xs = [.ref p] ∧ (SqL X.K H p ys ∨ SqT X.K H p ys) ∧ Q (.int ys.length) H) [sd] (.int (ns.length : Int)) := fun vs H R Q s w q => by
  obtain ⟨v, rfl, h'⟩ := w.one
  obtain ⟨a, rfl, h1⟩ := h.sq h'
  exact ⟨_, _, rfl, .inl h1, by rw [List.length_map]; exact q _ H R (Gr.refl s) (NewV.atom rfl (.int (H := H) _))⟩
theorem atI_map {α β : Type} {f : α → β} {xs : List α} {i : Int} {x : α} (h : atI xs i = some x) : atI (xs.map f) i = some (f x) := by
  unfold atI at h ⊢
  rw [List.length_map]
  cases q : ixN xs.length i with
  | none => rw [q] at h; cases h
  | some j =>
    rw [q] at h
    show (xs.map f)[j]? = _
    rw [List.getElem?_map]
    have h' : xs[j]? = some x := h
    rw [h']; rfl
theorem en_ixS (hs : ScrD X.K ns sd) (ha : EA X ρ a sd) (hb : EA X ρ b (.int i)) (h : atI ns i = some z) (hp : PlainIx b := by exact fun _ _ => rfl) : EN X ρ (.Subscript a b pos) (.int z) :=
  pe_weak (pe_ix ix_list ha hb hp) fun σ H Q ⟨R, s, q⟩ => ⟨R, s, fun x H1 R1 g1 dx => ⟨R1, s.grow g1, fun y H2 R2 g2 dy => by
    obtain ⟨p, rfl, h1⟩ := hs.sq (dx.up g2.hp)
    cases dy
    exact ⟨_, _, _, .int z, rfl, rfl, h1, atI_map h, q _ H2 R2 (g1.trans g2) (NewV.atom rfl (.int (H := H2) _))⟩⟩⟩
theorem en_slS (hs : ScrD X.K ns sd) (ha : EC X ρ a sd) (h1 : EO X ρ lo ol) (h2 : EO X ρ hi oh) : EN X ρ (.Subscript a (.Slice lo hi none p2) pos) (.list (cutD (ns.map PyData.int) ol oh)) :=
  pe_weak (pe_slice sl_list ha h1 h2) fun σ H Q ⟨R, s, q⟩ => ⟨R, s, fun x H1 R1 g1 dx => ⟨R1, s.grow g1, fun H2 R2 g2 => ⟨R2, (s.grow g1).grow g2, fun H3 R3 g3 => by
    have g := (g1.trans g2).trans g3
    obtain ⟨p, rfl, k1⟩ := hs.sq ((dx.up (g2.reg.trans g3.reg)).up g3.sub)
    exact ⟨_, _, rfl, k1, fun p hp => q _ _ R3 (g.trans (Gr.beside g3.sub hp)) (.ls (g.hp.free hp) (g3.sub.free hp) upd_same ((DqAll.of_ints ns).cut ol oh))⟩⟩⟩⟩
end
theorem cut1 (ns : List Int) : cutD (ns.map PyData.int) none (some 1) = (ns.take 1).map PyData.int := by
  unfold cutD
  rw [HT.sIx_none, show (some (1 : Int)) = some ((1 : Nat) : Int) from rfl, HT.sIx_nat, List.drop_zero, Nat.sub_zero, List.length_map, List.map_take]
  cases ns with
  | nil => rfl
  | cons n ns => rw [List.length_cons, Nat.min_eq_left (by omega)]
section
variable {P : Program} {w : World} {K : PySem.W.Frag} {mg : Str → Option Value} {base : Heap} {fs : Nat → Addr} {fds : Nat → FuncData}
def Φ_L_cell (K : PySem.W.Frag) : List PyData → PyData → Prop := fun ds d => ∃ sd ns, ∃ i : Int, ds = [sd, .int i] ∧ ScrD K ns sd ∧ 0 ≤ i ∧ d = .int (if i < ns.length then ns.getD i.toNat 0 else (ns.take 1).sum % 1000003)
theorem ok_L_cell (T : Txt K mg fs fds) : Ok P w K mg base 1 (fs 31) (fds 31) P_L_cell (Φ_L_cell K) := by
  refine fn_d T.L_cell.F sc_L_cell (fun _ _ ⟨sd, ns, i, e, _⟩ => by rw [e]; rfl) fun cdv A outer s0 H E ds d hr ⟨sd, ns, i, e1, hs, i0, e2⟩ => ?_
  subst e1 e2
  refine dss_seq (ds_if (et_lt (ec_a (ec_var 1)) (en_a (en_callB (call_len_seq) (cl_lenS hs) T.B.len (eas_cons ((ec_a (ec_var 0))) eas_nil)))) (fun z => ?_) (fun z => dss_nil ?_))
  · have z' := of_decide_eq_true z
    have hi : i.toNat < ns.length := by omega
    refine dss_one (ds_ret (en_ixS (z := ns.getD i.toNat 0) hs (ec_a (ec_var 0)) (ec_a (ec_var 1)) ?_) (by rw [if_pos z']))
    rw [List.getD_eq_getElem?_getD, List.getElem?_eq_getElem hi]
    have := atI_nat (List.getElem?_eq_getElem hi)
    rw [show ((i.toNat : Nat) : Int) = i by omega] at this
    exact this
  · have z' := of_decide_eq_false z
    exact dss_one (ds_ret (en_mod (en_a (en_callB (cr_sum rfl) (cl_sum) T.B.sum (eas_cons (en_a (en_is (en_slS hs (ec_var 0) eo_none (eo_some (en_a en_int))) (congrArg PyData.list (cut1 ns)))) eas_nil))) (en_a en_int) (by decide)) (by rw [if_neg z']))
def Φ_L_generator (K : PySem.W.Frag) : List PyData → PyData → Prop := fun ds d => ∃ sd ns, ∃ i : Int, ∃ a b : Int, ds = [sd, .int i] ∧ ScrD K ns sd ∧ 0 ≤ i ∧ i ≤ 100 ∧ d = dI [a, b, 1000 * i]
theorem ok_L_generator (T : Txt K mg fs fds) : FnOk P w K mg base CX0 2 (fs 33) (fds 33) P_L_generator (fun vs H Q E => ∃ R sd ns, ∃ i : Int, Same R H ∧ DqAll R vs [sd, .int i] ∧ ScrD K ns sd ∧ 0 ≤ i ∧ i ≤ 100 ∧ ∀ v a b H2 R2, Gr H R H2 R2 → NewV H H2 R2 v (dI [a, b, 1000 * i]) → Q v H2) := by
  refine T.L_generator.F.ok sc_L_generator (fun vs H Q E ⟨R, sd, ns, i, _, q, _⟩ => q.len) fun cdv A outer s0 H vs Q E hr ⟨R, sd, ns, i, sm, q, hs, i0, i1, kk⟩ => ?_
  have body : DSs (cxOf CX0 P w K mg base N_L_generator "_law_generator" (defScope st_L_generator) (fs 33) cdv A outer s0 H E).nox (entry N_L_generator [sd, .int i]) (defBody st_L_generator) (fun _ => False) (fun d => ∃ a b : Int, d = dI [a, b, 1000 * i]) := by
    refine dss_seq (ds_set 2 (en_c (en_call ((ok_L_cell T).mono (by decide)) hr T.L_cell.g T.L_cell.F.kp T.L_cell.b (ecs_cons ((ec_var 0)) (ecs_cons ((ec_var 1)) ecs_nil)) (⟨sd, ns, i, rfl, hs, i0, rfl⟩))) ?_ sc_L_generator.nd)
    refine dss_one (ds_ret (en_lst (ecs_cons (en_c (en_mod (en_a (en_callTy (call_int1) (cl_int) T.B.int (eas_cons (en_a (en_callB (call_max2 rfl) (cl_max2) T.B.max (eas_cons (en_a (en_sub (ec_a (ec_var 2)) (en_a (en_pow (en_a en_int) (en_a en_int) ⟨by decide, by decide, by decide⟩)))) (eas_cons (en_a en_int) eas_nil)))) eas_nil))) (en_a (en_powX (en_a (en_pow (en_a en_int) (en_a en_int) ⟨by decide, by decide, by decide⟩)) (en_a en_int) ⟨by decide, by decide +kernel⟩)) (by decide +kernel))) (ecs_cons (en_c (en_mod (en_a (en_callTy (call_int1) (cl_int) T.B.int (eas_cons ((ec_a (ec_var 2))) eas_nil))) (en_a en_int) (by decide))) (ecs_cons (en_c (en_mul (en_a en_int) (ec_a (ec_var 1)) (.inl ⟨by decide, by decide⟩))) ecs_nil)))) ⟨_, _, rfl⟩)
  refine ⟨_, body, H, R, R, ⟨sl_entry sm q, Gr.refl sm, fun i es p e _ => absurd e entry_no_own⟩, fun σ' H' R' ρ' e s' => e.elim, fun v H' R' d' ⟨a, b, e⟩ g n => ?_⟩
  subst e
  exact kk v a b H' R' g n
end
end KR
namespace KR
open PySem L2
/-! ### what repr takes -/
structure Rp (n b : Nat) (d : PyData) : Prop where
  lay : d.canLay0 = true
  shw : d.showable = true
  dep : d.depth ≤ n
  short : d.leavesShort 8 = true
  bulk : d.bulk ≤ b
theorem rp_none : Rp 0 0 .none := ⟨rfl, rfl, Nat.le_refl _, rfl, Nat.le_refl _⟩
theorem rp_int {i : Int} (h0 : -1000000 ≤ i) (h1 : i ≤ 1000000) : Rp 0 0 (.int i) := by
  refine ⟨rfl, ?_, Nat.le_refl _, ?_, Nat.le_refl _⟩
  · rw [PyData.showable]
    refine decide_eq_true ?_
    by_cases z : i.natAbs = 0
    · rw [z]; decide
    · refine (Nat.log2_lt z).mpr (Nat.lt_of_lt_of_le (show i.natAbs < 2 ^ 20 by omega) (Nat.pow_le_pow_right (by decide) (by decide)))
  · rw [PyData.leavesShort]
    refine decide_eq_true ?_
    have := int_text_length_le10 (a := i) (k := 7) (by decide) (by omega)
    show (Str.ofString (toString i)).length ≤ 8
    rw [ofString_length]
    exact this
theorem rp_all {n b : Nat} : ∀ {ds : List PyData}, (∀ x ∈ ds, Rp n b x) → PyData.canLayAll0 ds = true ∧ PyData.showableAll ds = true ∧ PyData.depthAll ds ≤ n ∧ PyData.leavesShortAll 8 ds = true ∧ PyData.bulkAll ds ≤ ds.length * (b + 1)
  | [], _ => ⟨rfl, rfl, Nat.zero_le _, rfl, by rw [PyData.bulkAll]; exact Nat.zero_le _⟩
  | d :: ds, h => by
    have h1 := h d List.mem_cons_self
    obtain ⟨a1, a2, a3, a4, a5⟩ := rp_all (ds := ds) fun x hx => h x (List.mem_cons_of_mem _ hx)
    refine ⟨?_, ?_, ?_, ?_, ?_⟩
    · rw [PyData.canLayAll0, h1.lay, a1]; rfl
    · rw [PyData.showableAll, h1.shw, a2]; rfl
    · rw [PyData.depthAll]; exact Nat.max_le.mpr ⟨h1.dep, a3⟩
    · rw [PyData.leavesShortAll, h1.short, a4]; rfl
    · rw [PyData.bulkAll, List.length_cons, Nat.add_mul]
      have := h1.bulk
      omega
theorem rp_list {n b m : Nat} {ds : List PyData} (h : ∀ x ∈ ds, Rp n b x) (hm : ds.length ≤ m) : Rp (n + 1) (m * (b + 1)) (.list ds) := by
  obtain ⟨a1, a2, a3, a4, a5⟩ := rp_all h
  exact ⟨by rw [PyData.canLay0]; exact a1, by rw [PyData.showable]; exact a2, by rw [PyData.depth]; exact Nat.succ_le_succ a3, by rw [PyData.leavesShort]; exact a4, by rw [PyData.bulk]; exact Nat.le_trans a5 (Nat.mul_le_mul_right _ hm)⟩
theorem rp_tuple {n b m : Nat} {ds : List PyData} (h : ∀ x ∈ ds, Rp n b x) (hm : ds.length ≤ m) : Rp (n + 1) (m * (b + 1)) (.tuple ds) := by
  obtain ⟨a1, a2, a3, a4, a5⟩ := rp_all h
  exact ⟨by rw [PyData.canLay0]; exact a1, by rw [PyData.showable]; exact a2, by rw [PyData.depth]; exact Nat.succ_le_succ a3, by rw [PyData.leavesShort]; exact a4, by rw [PyData.bulk]; exact Nat.le_trans a5 (Nat.mul_le_mul_right _ hm)⟩
theorem Rp.mono {n n' b b' : Nat} {d : PyData} (h : Rp n b d) (e : n ≤ n') (e2 : b ≤ b') : Rp n' b' d := ⟨h.lay, h.shw, Nat.le_trans h.dep e, h.short, Nat.le_trans h.bulk e2⟩
theorem rp_dI {ns : List Int} {m : Nat} (h : ∀ i ∈ ns, -1000000 ≤ i ∧ i ≤ 1000000) (hm : ns.length ≤ m) : Rp 1 m (dI ns) := by
  refine (rp_list (n := 0) (b := 0) (m := m) (fun x hx => ?_) (by rw [List.length_map]; exact hm)).mono (Nat.le_refl _) (by omega)
  obtain ⟨i, hi, rfl⟩ := List.mem_map.mp hx
  exact rp_int (h i hi).1 (h i hi).2
theorem rp_dC {f : Ct} {m : Nat} (h : ∀ i, some i ∈ f → -1000000 ≤ i ∧ i ≤ 1000000) (hm : f.length ≤ m) : Rp 1 m (dC f) := by
  refine (rp_list (n := 0) (b := 0) (m := m) (fun x hx => ?_) (by rw [List.length_map]; exact hm)).mono (Nat.le_refl _) (by omega)
  obtain ⟨o, ho, rfl⟩ := List.mem_map.mp hx
  cases o with
  | none => exact rp_none
  | some i => exact rp_int (h i ho).1 (h i ho).2
theorem rp_net {N : Net} (ok : NetOk N) : Rp 3 300 (encN N) := by
  have n1 := ok.n1
  have n12 := ok.n12
  refine (rp_tuple (n := 2) (b := 112) (m := 2) (fun x hx => ?_) (Nat.le_refl _)).mono (Nat.le_refl _) (by decide)
  rcases List.mem_cons.mp hx with rfl | hx
  · exact (rp_int (by omega) (by omega)).mono (by decide) (by decide)
  · rw [List.mem_singleton.mp hx]
    refine (rp_list (n := 1) (b := 3) (m := 28) (fun x hx => ?_) (by rw [List.length_map]; exact ok.few)).mono (Nat.le_refl _) (by decide)
    obtain ⟨r, hr, rfl⟩ := List.mem_map.mp hx
    have k := ok.road r hr
    have := k.lo; have := k.lt; have := k.hi; have := k.m1; have := k.m9
    refine (rp_tuple (n := 0) (b := 0) (m := 3) (fun x hx => ?_) (Nat.le_refl _)).mono (Nat.le_refl _) (by decide)
    rcases List.mem_cons.mp hx with rfl | hx
    · exact rp_int (by omega) (by omega)
    · rcases List.mem_cons.mp hx with rfl | hx
      · exact rp_int (by omega) (by omega)
      · rw [List.mem_singleton.mp hx]
        exact rp_int (by omega) (by omega)
theorem StOk.at {N : Net} {s : List Int} (ok : NetOk N) (h : StOk N s) : ∀ i ∈ s, 0 ≤ i ∧ i ≤ 9 := fun i hi => by
  obtain ⟨j, hj⟩ := List.getElem?_of_mem hi
  have lj := (List.getElem?_eq_some_iff.mp hj).1
  have l2 : j < N.rs.length := by rw [← h.len]; exact lj
  have e2 : N.rs[j]? = some N.rs[j] := List.getElem?_eq_getElem l2
  have ez : (s.zip N.rs)[j]? = some (i, N.rs[j]) := List.getElem?_zip_eq_some.mpr ⟨hj, e2⟩
  have h1 : 0 ≤ i ∧ i ≤ N.rs[j].2.2 := h.bd _ (List.mem_of_getElem? ez)
  have := (ok.road _ (List.getElem_mem l2)).m9
  omega
theorem rp_all3 {N : Net} {s rest : List Int} (ok : NetOk N) (sok : StOk N s) (hok : HsOk N rest) : Rp 4 1000 (.list [encN N, dI s, dI rest]) := by
  have n12 := ok.n12
  refine (rp_list (n := 3) (b := 300) (m := 3) (fun x hx => ?_) (Nat.le_refl _)).mono (Nat.le_refl _) (by decide)
  rcases List.mem_cons.mp hx with rfl | hx
  · exact rp_net ok
  · rcases List.mem_cons.mp hx with rfl | hx
    · exact (rp_dI (m := 28) (fun i hi => by have := sok.at ok i hi; omega) (by rw [sok.len]; exact ok.few)).mono (by decide) (by decide)
    · rw [List.mem_singleton.mp hx]
      exact (rp_dI (m := 12) (fun i hi => by have := hok.bd i hi; omega) (hok.few n12)).mono (by decide) (by decide)
section
variable {X : Cx} {ρ : List Ent} {a : Expr} {d : PyData} {p pos : Pos} {n b : Nat}
theorem cl_repr (h : Rp n b d) (hn : n ≤ 60) (hb : b ≤ 1000) (kind : d = .none ∨ ∃ ds, d = .list ds) : Cl1 (rRepr X.K) [d] (.str d.shown) := fun vs H R Q s w q => by
  obtain ⟨v, rfl, h1⟩ := w.one
  exact ⟨v, d, rfl, Dq.dp _ _ h.lay h1, h.lay, h.shw, Nat.le_trans h.dep hn, PyData.shown_fits_bulk (B := 8) (by decide) (by decide) h.short (Nat.le_trans h.bulk (Nat.le_trans hb (by decide))), kind, q _ H R (Gr.refl s) (NewV.atom rfl (.str (H := H) _))⟩
theorem en_repr (calm : X.A.guards = some []) (hu : X.A.units + 65 < cLine) (hm : X.mg "repr" = none) (ha : EA X ρ a d) (h : Rp n b d) (hn : n ≤ 60 := by decide) (hb : b ≤ 1000 := by decide) (kind : d = .none ∨ ∃ ds, d = .list ds := by first | exact .inr ⟨_, rfl⟩ | exact .inl rfl)
    (hg : Gl X "repr" := by rfl) (he : starEach [a] X.env = (false, eval a X.env) :: starEach [] X.env := by rfl) : EN X ρ (.Call (.Name "repr" p) [a] [] pos) (.str d.shown) :=
  en_callB (cr_repr calm hu) (cl_repr h hn hb kind) hm (eas_cons ha eas_nil he) hg (by decide +kernel) (by decide) (by decide) he rfl
end
end KR
namespace KR
open PySem L2
/-! ### a call by three names, the last first -/
def flip3 {α : Type} : List α → List α → List α
  | [], [a, b, c] => [c, b, a]
  | _, _ => []
theorem flip3_of {α : Type} {us ws : List α} (h : (flip3 us ws).length = 3) : us = [] ∧ ∃ a b c, ws = [a, b, c] := by
  unfold flip3 at h
  split at h
  · exact ⟨rfl, _, _, _, rfl⟩
  · cases h
section
variable {K : PySem.W.Frag} {x qual : Str} {st : Stmt} {f : Addr} {fd : FuncData} {p1 p2 p3 : Str}
theorem kb3 (F : Fun K x qual st f fd) (h : ∀ (kV doc pm : Value) (an : Option Addr) (cdv ct a b c : Value), bindArgs (PySem.W.fnOf x qual (defArgs st) (defBody st) (defScope st) .none kV doc pm an cdv ct) ⟨[], [(p3, a), (p2, b), (p1, c)]⟩ = pure [(p1, c), (p2, b), (p3, a)]) :
    KBinds K fd [p1, p2, p3] [p3, p2, p1] flip3 flip3 := by
  obtain ⟨oc, od, kV, doc, pm, an, cdv, ct, osl, rfl, lk, hcd⟩ := F.ex
  refine ⟨fun s us ws _ hl => ?_, fun {vs us zs ws} r rz => ?_⟩
  · obtain ⟨rfl, a, b, c, rfl⟩ := flip3_of hl
    exact .of_eq (h kV doc pm an cdv ct a b c)
  · cases r with
    | cons _ _ => exact .nil
    | nil => cases rz with
      | nil => exact .nil
      | cons r1 rz => cases rz with
        | nil => exact .nil
        | cons r2 rz => cases rz with
          | nil => exact .nil
          | cons r3 rz => cases rz with
            | nil => exact .cons r3 (.cons r2 (.cons r1 .nil))
            | cons _ _ => exact .nil
end
section
variable {X : Cx} {ρ : List Ent} {e1 e2 e3 : Expr} {d1 d2 d3 d : PyData} {k : Nat} {f : Addr} {fd : FuncData} {Φ : List PyData → PyData → Prop} {x p1 p2 p3 : Str} {p pos k1 k2 k3 : Pos}
theorem en_call3 (F : FnOk X.prog X.w X.K X.mg X.base CX0 k f fd [p1, p2, p3] (spD Φ)) (room : Room k X.A) (hm : X.mg x = some (.ref f)) (kept : PySem.W.keepIn X.K (.ref f) = true) (hb : KBinds X.K fd [p1, p2, p3] [p3, p2, p1] flip3 flip3)
    (h3 : EC X ρ e3 d3) (h2 : EC X ρ e2 d2) (h1 : EC X ρ e1 d1) (hΦ : Φ [d1, d2, d3] d) (hg : Gl X x := by rfl) (hall : (backToKw pos (keywordEach [⟨some p3, e3, k3⟩, ⟨some p2, e2, k2⟩, ⟨some p1, e1, k1⟩] X.env)).all (·.1.isSome) = true := by rfl)
    (hks : (backToKw pos (keywordEach [⟨some p3, e3, k3⟩, ⟨some p2, e2, k2⟩, ⟨some p1, e1, k1⟩] X.env)).filterMap (·.1) = [p3, p2, p1] := by rfl) (hdb : (x == ("__debug__" : Str)) = false := by decide)
    (hpl : ((backTo pos (starEach [] X.env)).any (·.1) || (backToKw pos (keywordEach [⟨some p3, e3, k3⟩, ⟨some p2, e2, k2⟩, ⟨some p1, e1, k1⟩] X.env)).any (·.1.isNone)) = false := by rfl) :
    EN X ρ (.Call (.Name x p) [] [⟨some p3, e3, k3⟩, ⟨some p2, e2, k2⟩, ⟨some p1, e1, k1⟩] pos) d :=
  pe_weak (pe_callNames F room hg hm kept hb (pk_cons h3 (pk_cons h2 (pk_cons h1 pk_nil))) hall hks hdb hpl) fun σ H Q ⟨R, s, q⟩ => ⟨R, s, fun v3 H1 R1 g1 w3 => ⟨R1, s.grow g1, fun v2 H2 R2 g2 w2 => ⟨R2, (s.grow g1).grow g2, fun v1 H3 R3 g3 w1 =>
    ⟨R3, [d1, d2, d3], d, g3.sub, .cons w1 (.cons (w2.up g3.reg) (.cons (w3.up (g2.reg.trans g3.reg)) .nil)), hΦ, fun v H4 R4 g4 n => q v H4 R4 (((g1.trans g2).trans g3).trans g4) (n.back ((g1.trans g2).trans g3).hp)⟩⟩⟩⟩
end
section
variable {P : Program} {w : World} {K : PySem.W.Frag} {mg : Str → Option Value} {base : Heap} {fs : Nat → Addr} {fds : Nat → FuncData}
theorem kb_counts (T : Txt K mg fs fds) : KBinds K (fds 28) P_counts ["resting", "standing", "net"] flip3 flip3 := kb3 T.counts.F fun _ _ _ _ _ _ _ _ _ => rfl
theorem kb_last (T : Txt K mg fs fds) : KBinds K (fds 29) P_last_standing ["resting", "standing", "net"] flip3 flip3 := kb3 T.last_standing.F fun _ _ _ _ _ _ _ _ _ => rfl
end
end KR
namespace KR
open PySem L2
theorem map_encR_inj : ∀ {rs qs : List Road}, rs.map encR = qs.map encR → rs = qs
  | [], [], _ => rfl
  | [], _ :: _, h => by cases h
  | _ :: _, [], h => by cases h
  | (a, b, c) :: rs, (x, y, z) :: qs, h => by
    rw [List.map_cons, List.map_cons] at h
    injection h with h1 h2
    have e := map_encR_inj h2
    have e1 : a = x ∧ b = y ∧ c = z := by simpa [encR] using h1
    rw [e, e1.1, e1.2.1, e1.2.2]
theorem encN_inj {N M : Net} (h : encN N = encN M) : N = M := by
  obtain ⟨n, rs⟩ := N
  obtain ⟨m, qs⟩ := M
  have e : n = m ∧ rs.map encR = qs.map encR := by
    unfold encN at h
    injection h with h
    injection h with h1 h2
    injection h1 with h1
    injection h2 with h2 _
    injection h2 with h2
    exact ⟨h1, h2⟩
  rw [e.1, map_encR_inj e.2]
theorem dI_inj {a b : List Int} (h : dI a = dI b) : a = b := by
  injection h with h
  exact map_int_inj h
/-- the numbers among them -/
def nums (f : Ct) : List Int := f.filterMap id
/-- the greatest, or 0 -/
def maxD (f : Ct) : Int := (nums f).foldl max 0
def mostW (N : Net) (s rest : List Int) : Int := N.n * (maxD (cnt N s rest) + 2)
/-- what the law says, in plain words -/
structure Plain (N : Net) (s rest : List Int) : Prop where
  same : cntL N s rest = cnt N s rest
  small : ∀ a, some a ∈ cnt N s rest → 0 ≤ a ∧ a ≤ 7000
  few : ∀ run th, RunOf N rest s run th → ∀ (h : Nat) a, (cnt N s rest)[h]? = some (some a) → gI (tally N run) h ≤ a
  full : ∀ run th, RunOf N rest s run th → run.length ≤ 12 → ∀ (h : Nat) a, (cnt N s rest)[h]? = some (some a) → gI (goOn N s rest run (mostW N s rest).toNat).2 h = a
  open_ : ∀ run th, RunOf N rest s run th → run.length ≤ 12 → ∀ h : Nat, (cnt N s rest)[h]? = some none → 1 ≤ gI (goOn N s rest run (mostW N s rest).toNat).2 h ∧ mostW N s rest / 10 ≤ gI (goOn N s rest run (mostW N s rest).toNat).2 h
  ended : ∀ run th, RunOf N rest s run th → run.length ≤ 12 → (able N (goOn N s rest run (mostW N s rest).toNat).1 rest).isEmpty = allC (cnt N s rest)
  there : ∀ run th, RunOf N rest s run th → run.length ≤ 12 → allC (cnt N s rest) = true → (goOn N s rest run (mostW N s rest).toNat).1 = behind N s (numC (cnt N s rest))
  idle : last N s (rgI 0 N.n) = dI s
theorem nums_map (f : Ct) : (f.filter fun o => !isN (encO o)).map encO = (nums f).map PyData.int := by
  induction f with
  | nil => rfl
  | cons o f ih =>
    cases o with
    | none => exact ih
    | some i => exact congrArg (PyData.int i :: ·) ih
theorem foldl_max (xs : List Int) : ∀ b : Int, (xs.foldl max b = b ∨ xs.foldl max b ∈ xs) ∧ b ≤ xs.foldl max b ∧ ∀ y ∈ xs, y ≤ xs.foldl max b := by
  induction xs with
  | nil => exact fun b => ⟨.inl rfl, Int.le_refl _, fun y h => by cases h⟩
  | cons x xs ih =>
    intro b
    obtain ⟨h1, h2, h3⟩ := ih (max b x)
    have e : (x :: xs).foldl max b = xs.foldl max (max b x) := rfl
    rw [e]
    refine ⟨?_, by omega, fun y hy => ?_⟩
    · rcases h1 with h1 | h1
      · rw [h1]
        rcases Int.le_total b x with hb | hb
        · rw [Int.max_eq_right hb]; exact .inr List.mem_cons_self
        · rw [Int.max_eq_left hb]; exact .inl rfl
      · exact .inr (List.mem_cons_of_mem _ h1)
    · rcases List.mem_cons.mp hy with rfl | hy
      · omega
      · exact h3 y hy
theorem maxD_mem (f : Ct) : maxD f ∈ (0 : Int) :: nums f := by
  rcases (foldl_max (nums f) 0).1 with h | h
  · unfold maxD; rw [h]; exact List.mem_cons_self
  · exact List.mem_cons_of_mem _ h
theorem maxD_le (f : Ct) : ∀ y ∈ (0 : Int) :: nums f, y ≤ maxD f := fun y hy => by
  rcases List.mem_cons.mp hy with rfl | hy
  · exact (foldl_max (nums f) 0).2.1
  · exact (foldl_max (nums f) 0).2.2 y hy
theorem nums_mem {f : Ct} {a : Int} : a ∈ nums f ↔ some a ∈ f := by
  unfold nums
  rw [List.mem_filterMap]
  exact ⟨fun ⟨o, h, e⟩ => by cases e; exact h, fun h => ⟨some a, h, rfl⟩⟩
theorem cnt_len (N : Net) (s rest : List Int) : (cnt N s rest).length = N.n.toNat := lenN_len ..
theorem RunOf.bd {N : Net} {rest s run th : List Int} (r : RunOf N rest s run th) : ∀ h ∈ run, 0 ≤ h ∧ h < N.n := by
  induction r with
  | nil => intro h z; cases z
  | snoc r m ih =>
    intro h z
    rcases List.mem_append.mp z with z | z
    · exact ih h z
    · rw [List.mem_singleton.mp z]; exact (able_mem.mp m).1
theorem mostW_bd {N : Net} {s rest : List Int} (ok : NetOk N) (pl : Plain N s rest) : 0 ≤ mostW N s rest ∧ mostW N s rest ≤ 100000 := by
  have n1 := ok.n1
  have n12 := ok.n12
  have hm : 0 ≤ maxD (cnt N s rest) ∧ maxD (cnt N s rest) ≤ 7000 := by
    refine ⟨maxD_le _ 0 List.mem_cons_self, ?_⟩
    rcases List.mem_cons.mp (maxD_mem (cnt N s rest)) with h | h
    · omega
    · exact (pl.small _ (nums_mem.mp h)).2
  unfold mostW
  refine ⟨Int.mul_nonneg (by omega) (by omega), ?_⟩
  calc N.n * (maxD (cnt N s rest) + 2) ≤ 12 * (maxD (cnt N s rest) + 2) := Int.mul_le_mul_of_nonneg_right n12 (by omega)
    _ ≤ 100000 := by omega
theorem eqv_bool (a b : Bool) : PyData.eqv (.bool a) (.bool b) = (a == b) := by cases a <;> cases b <;> rfl
theorem filter_no {α : Type} {c : α → Bool} {xs : List α} (h : ∀ x ∈ xs, c x = false) : (xs.filter c).isEmpty = true := by
  rw [filter_none h]; rfl
theorem eqv_dI : ∀ (ns ms : List Int), PyData.eqv (dI ns) (dI ms) = decide (ns = ms) := by
  intro ns
  induction ns with
  | nil => intro ms; cases ms <;> simp [PyData.eqv, PyData.eqvAll]
  | cons n ns ih =>
    intro ms
    cases ms with
    | nil => simp [PyData.eqv, PyData.eqvAll]
    | cons m ms =>
      have h := ih ms
      simp only [PyData.eqv] at h ⊢
      simp only [List.map_cons, PyData.eqvAll, h, eqv_int, dec_beq]
      by_cases e1 : n = m <;> by_cases e2 : ns = ms <;> simp [e1, e2]
theorem last_kind (N : Net) (s rest : List Int) : last N s rest = .none ∨ ∃ ds, last N s rest = .list ds := by
  unfold last
  split
  · exact .inr ⟨_, rfl⟩
  · exact .inl rfl
theorem sh_last (N : Net) (s rest : List Int) : Sh 1 (last N s rest) := by
  unfold last
  split
  · exact sh_dI _
  · exact sh_none.mono (by decide)
theorem numC_bd {f : Ct} (h : ∀ a, some a ∈ f → 0 ≤ a ∧ a ≤ 7000) (i : Int) : 0 ≤ gI (numC f) i ∧ gI (numC f) i ≤ 7000 := by
  unfold gI
  rw [List.getD_eq_getElem?_getD]
  cases q : (numC f)[i.toNat]? with
  | none => exact ⟨by decide, by decide⟩
  | some v =>
    obtain ⟨o, ho, e⟩ := List.mem_map.mp (List.mem_of_getElem? q)
    subst e
    cases o with
    | none => exact ⟨by decide, by decide⟩
    | some a => exact h a ho
theorem rp_last {N : Net} {s rest : List Int} (ok : NetOk N) (sok : StOk N s) (pl : Plain N s rest) : Rp 1 28 (last N s rest) := by
  unfold last
  split
  · refine rp_dI (fun i hi => ?_) ?_
    · obtain ⟨p, hp, e⟩ := List.mem_map.mp hi
      have b1 := sok.at ok p.1 (List.of_mem_zip hp).1
      have b2 := numC_bd pl.small p.2.1
      have b3 := numC_bd pl.small p.2.2.1
      omega
    · unfold behind
      rw [List.length_map, List.length_zip]
      have := ok.few
      omega
  · exact rp_none.mono (by decide) (by decide)
theorem rg_ok {N : Net} : HsOk N (rgI 0 N.n) := ⟨fun h hh => mem_rgI.mp hh, by
  refine List.pairwise_iff_getElem.mpr fun i j hi hj hij => ?_
  have l := rgI_len (lo := 0) (hi := N.n)
  have e1 : (rgI 0 N.n)[i]? = some (0 + (i : Int)) := rgI_at (by omega)
  have e2 : (rgI 0 N.n)[j]? = some (0 + (j : Int)) := rgI_at (by omega)
  rw [List.getElem?_eq_getElem hi] at e1
  rw [List.getElem?_eq_getElem hj] at e2
  injection e1 with e1
  injection e2 with e2
  rw [e1, e2]
  omega⟩
section
variable {P : Program} {w : World} {K : PySem.W.Frag} {mg : Str → Option Value} {base : Heap} {fs : Nat → Addr} {fds : Nat → FuncData}
abbrev Pre_right : List Int → List PyData → Prop := fun gs ds => ∃ N s rest, ds = [encN N, dI s, dI rest] ∧ NetOk N ∧ N.n ≤ 10 ∧ StOk N s ∧ HsOk N rest ∧ Gn 100000000 gs
abbrev Φ_right : List Int → List PyData → PyData → List Int → Prop := fun gs ds d gs' => d = .bool true
theorem ok_L_right (T : Txt K mg fs fds) (plain : ∀ N s rest, NetOk N → N.n ≤ 10 → StOk N s → HsOk N rest → Plain N s rest) : Calm P w K mg base 10 (fs 52) (fds 52) P_L_right (spG Pre_right Φ_right) := by
  refine calm_g T.L_right.F sc_L_right (fun _ _ ⟨_, _, _, e, _⟩ => by rw [e]; rfl) fun cdv A outer s0 H E g gs ds calm hr ⟨N, s, rest, e1, hok, h10, sok, rok, hg⟩ => ?_
  subst e1
  have pl := plain N s rest hok h10 sok rok
  have n1 := hok.n1
  have n12 := hok.n12
  have hl := sok.len
  have hu := hr.u
  have few := hok.few
  have lC : (cnt N s rest).length = N.n.toNat := cnt_len N s rest
  have rpC : Rp 1 12 (dC (cnt N s rest)) := rp_dC (fun i hi => by have := pl.small i hi; omega) (by omega)
  have shC := sh_dC (cnt N s rest)
  obtain ⟨w0, w1⟩ := mostW_bd hok pl
  -- what is kept, what is due
  refine gss_seq (gs_tgt (P := fun d gs' => d = .tuple [.str (PyData.list [encN N, dI s, dI rest]).shown, dC (cnt N s rest)] ∧ gs' = gs) (ge_pure (en_c (en_is (en_tup (ecs_cons (en_c (en_repr calm hu T.B.repr (en_a (en_lst (ecs_cons ((ec_var 1)) (ecs_cons ((ec_var 2)) (ecs_cons ((ec_var 3)) ecs_nil))))) (rp_all3 hok sok rok))) (ecs_cons (en_c (en_call ((ok_L_counts T).mono (by decide)) hr T.L_counts.g T.L_counts.F.kp T.L_counts.b (ecs_cons ((ec_var 1)) (ecs_cons ((ec_var 2)) (ecs_cons ((ec_var 3)) ecs_nil))) (⟨N, s, rest, rfl, hok, hl, rok, rfl⟩))) ecs_nil))) (by rw [pl.same]))) ⟨rfl, rfl⟩) fun d gs' ⟨e, e'⟩ => ?_)
  subst e e'
  refine ⟨_, [.un, .val (encN N), .val (dI s), .val (dI rest), .val (.str (PyData.list [encN N, dI s, dI rest]).shown), .val (dC (cnt N s rest)), .un, .un, .un, .un, .un, .un, .un, .un, .un, .un, .un], (at_tup (ats_cons (at_name 4 sc_L_right.nd) (ats_cons (at_name 5 sc_L_right.nd) ats_nil))), Nat.zero_lt_succ _, ?_⟩
  refine gss_seq (gs_own 6 (en_call ((ok_counts T).mono (by decide)) hr T.counts.g T.counts.F.kp T.counts.b (ecs_cons ((ec_var 1)) (ecs_cons ((ec_var 2)) (ecs_cons ((ec_var 3)) ecs_nil))) (⟨N, s, rest, rfl, hok, sok, rok, rfl⟩)) ?_ sc_L_right.nd)
  refine gss_seq (gs_ifP (et_w (ew_or (et_neS (en_a (en_repr calm hu T.B.repr (ea_own 6) rpC)) (en_a (en_repr calm hu T.B.repr (ec_a (ec_var 5)) rpC))) (fun _ => ew_or1 (et_neS (en_a (en_repr calm hu T.B.repr (en_a (en_call3 ((ok_counts T).mono (by decide)) hr T.counts.g T.counts.F.kp (kb_counts T) (ec_var 3) (ec_var 2) (ec_var 1) (⟨N, s, rest, rfl, hok, sok, rok, rfl⟩))) rpC)) (en_a (en_repr calm hu T.B.repr (ec_a (ec_var 5)) rpC)))))) (fun z => ?_) (fun _ => gss_nil ?_))
  · simp at z
  -- a run
  refine gss_seq (gs_tgt (P := fun d gs' => ∃ run th, d = .tuple [dI run, dI th] ∧ RunOf N rest s run th ∧ run.length ≤ 12) (gn_e (gn_callP ((ok_L_run T).mono (by decide)) hr T.L_run.g T.L_run.F.kp T.L_run.b (ecs_cons ((ec_var 1)) (ecs_cons ((ec_var 2)) (ecs_cons ((ec_var 3)) (ecs_cons (en_c en_int) ecs_nil)))) (⟨N, s, rest, 12, rfl, hok, hl, by decide, by decide, hg.mono (by decide)⟩) (?_))) fun d gs' ⟨run, th, e, hrun, lr⟩ => ?_)
  · rintro d gs' ⟨N', s', rest', most', run, th, e, e2, hrun, lr, _⟩
    injection e with e3 e
    injection e with e4 e
    injection e with e5 e
    have := encN_inj e3
    have := dI_inj e4
    have := dI_inj e5
    subst_vars
    injection e with e6 _
    injection e6 with e6
    exact ⟨run, th, rfl, hrun, by omega⟩
  subst e
  have hth := hrun.len hl
  refine ⟨_, [.un, .val (encN N), .val (dI s), .val (dI rest), .val (.str (PyData.list [encN N, dI s, dI rest]).shown), .val (dC (cnt N s rest)), .own ((cnt N s rest).map encO), .val (dI run), .val (dI th), .un, .un, .un, .un, .un, .un, .un, .un], (at_tup (ats_cons (at_name 7 sc_L_right.nd) (ats_cons (at_name 8 sc_L_right.nd) ats_nil))), Nat.zero_lt_succ _, ?_⟩
  have due : ∀ i : Nat, i < N.n.toNat → ∃ o, (cnt N s rest)[i]? = some o ∧ atI ((cnt N s rest).map encO) (i : Int) = some (encO o) := fun i hi => by
    refine ⟨(cnt N s rest)[i], List.getElem?_eq_getElem (by omega), atI_nat ?_⟩
    rw [List.getElem?_map, List.getElem?_eq_getElem (by omega)]; rfl
  have lt : (tally N run).length = N.n.toNat := by unfold tally; rw [List.length_map, rgI_len, Int.sub_zero]
  refine gss_seq (gs_ifP (et_ne hr.u4 (en_a (en_lc (own := [("_law_house", 14), ("_law_many", 15)]) (xs := (tally N run).zipIdx) (enc := fun q : Int × Nat => PyData.tuple [.int (q.2 : Int), .int q.1]) (c := fun _ => false) (f := fun q : Int × Nat => PyData.int (q.2 : Int)) (ei_enumM (en_c (en_call ((ok_L_tally T).mono (by decide)) hr T.L_tally.g T.L_tally.F.kp T.L_tally.b (ecs_cons ((ec_var 1)) (ecs_cons ((ec_var 7)) ecs_nil)) (⟨N, run, rfl, hok, by omega, rfl⟩))) T.B.enumerate)
    (fun q hq => ?_) (blkOk_by (N := N_L_right) (sc := defScope st_L_right) (by decide +kernel)) sc_L_right.nd (by rw [List.length_zipIdx]; omega))) (en_a (en_lst ecs_nil)) (sh_list (n := 0) fun x hx => ?_).ok sh_nil.ok) (fun z => ?_) (fun _ => gss_nil ?_))
  · have hq' := List.mem_zipIdx_iff_getElem?.mp hq
    have hi := (List.getElem?_eq_some_iff.mp hq').1
    obtain ⟨o, ho, ao⟩ := due q.2 (by omega)
    cases o with
    | none => exact ⟨_, _, fun s_ H_ C_ cl_ fp_ => (at_tup (ats_cons (at_name 14 sc_L_right.nd) (ats_cons (at_name 15 sc_L_right.nd) ats_nil))), by decide, fun s_ H_ C_ cl_ fp_ => ets_is (et_w (ew_and (l := true) (et_notN (ea_ixL (ec_a (ec_var 5)) (ec_a (ec_var 14)) ao)) (fun z => by cases z))) rfl, fun _ => fun s_ H_ C_ cl_ fp_ => (ec_var 14)⟩
    | some a =>
      refine ⟨_, _, fun s_ H_ C_ cl_ fp_ => (at_tup (ats_cons (at_name 14 sc_L_right.nd) (ats_cons (at_name 15 sc_L_right.nd) ats_nil))), by decide, fun s_ H_ C_ cl_ fp_ => ets_is (et_w (ew_and (et_notN (ea_ixL (ec_a (ec_var 5)) (ec_a (ec_var 14)) ao)) (fun z => ew_and1 (et_gt (ec_a (ec_var 15)) (ea_ixL (ec_a (ec_var 5)) (ec_a (ec_var 14)) ao))))) ?_, fun _ => fun s_ H_ C_ cl_ fp_ => (ec_var 14)⟩
      have := pl.few run th hrun q.2 a ho
      rw [gI, Int.toNat_natCast, List.getD_eq_getElem?_getD, hq'] at this
      have this : q.1 ≤ a := this
      rw [decide_eq_false (by omega)]; rfl
  · rw [filter_none fun _ _ => rfl] at hx; cases hx
  · rw [filter_none fun _ _ => rfl] at z; cases z
  -- how long it goes on
  refine gss_seq (gs_setP 9 (en_c (en_is (en_mul (en_a (en_ixT (ec_var 1) (en_a en_int) rfl)) (en_a (en_add (en_a (en_callB (cr_max rfl) (cl_max (maxD_mem (cnt N s rest)) (maxD_le _)) T.B.max (eas_cons (en_a (en_is (en_cat (en_c (en_lst (ecs_cons (en_c en_int) ecs_nil))) (en_c (en_is (en_lc (own := [("_law_number", 16)]) (xs := cnt N s rest) (enc := encO) (c := fun o => !isN (encO o)) (f := encO) (ei_list (ec_var 5))
    (fun o ho => ⟨_, _, fun s_ H_ C_ cl_ fp_ => at_name 16 sc_L_right.nd, by decide, fun s_ H_ C_ cl_ fp_ => ets_is (et_notN (ec_a (ec_var 16))) rfl, fun _ => fun s_ H_ C_ cl_ fp_ => (ec_var 16)⟩) (blkOk_by (N := N_L_right) (sc := defScope st_L_right) (by decide +kernel)) sc_L_right.nd (by omega)) (congrArg PyData.list (nums_map _)))) ?_) rfl)) eas_nil))) (en_a en_int))) (.inl ⟨by omega, by omega⟩)) (d' := .int (mostW N s rest)) rfl)) ?_ sc_L_right.nd)
  · rw [List.length_map, sizeLine_eq]
    have : (nums (cnt N s rest)).length ≤ (cnt N s rest).length := List.length_filterMap_le ..
    show 1 + _ ≤ _
    omega
  have bd := hrun.bd
  refine gss_seq (gs_tgt (P := fun d gs2 => d = .tuple [dI (goOn N s rest run (mostW N s rest).toNat).1, dI (goOn N s rest run (mostW N s rest).toNat).2] ∧ gs2 = gs') (ge_pure (en_c (en_call ((ok_L_gone_on T).mono (by decide)) hr T.L_gone_on.g T.L_gone_on.F.kp T.L_gone_on.b (ecs_cons ((ec_var 1)) (ecs_cons ((ec_var 2)) (ecs_cons ((ec_var 3)) (ecs_cons ((ec_var 7)) (ecs_cons ((ec_var 9)) ecs_nil))))) (⟨N, s, rest, run, mostW N s rest, rfl, hok, hl, bd, w0, w1, rfl⟩))) ⟨rfl, rfl⟩) fun d gs2 ⟨e, e'⟩ => ?_)
  subst e e'
  have wok : WOk N (goOn N s rest run (mostW N s rest).toNat) := WOk.rep (WOk.fold1 ⟨hl, List.length_replicate⟩)
  have full := pl.full run th hrun lr
  have open_ := pl.open_ run th hrun lr
  have ended := pl.ended run th hrun lr
  have there := pl.there run th hrun lr
  generalize goOn N s rest run (mostW N s rest).toNat = st at wok full open_ ended there ⊢
  obtain ⟨tx, wx⟩ := st
  have ltx : tx.length = N.rs.length := wok.a
  have lwx : wx.length = N.n.toNat := wok.b
  have wat : ∀ i : Nat, i < N.n.toNat → atI (wx.map PyData.int) (i : Int) = some (.int (gI wx i)) := fun i hi => at_map 0 (by omega) (by omega)
  refine ⟨_, [.un, .val (encN N), .val (dI s), .val (dI rest), .val (.str (PyData.list [encN N, dI s, dI rest]).shown), .val (dC (cnt N s rest)), .own ((cnt N s rest).map encO), .val (dI run), .val (dI tx), .val (.int (mostW N s rest)), .val (dI wx), .un, .un, .un, .un, .un, .un], (at_tup (ats_cons (at_name 8 sc_L_right.nd) (ats_cons (at_name 10 sc_L_right.nd) ats_nil))), Nat.zero_lt_succ _, ?_⟩
  refine gss_seq (gs_ifP (et_ne hr.u4 (en_a (en_lc (own := [("_law_house", 14), ("_law_number", 16)]) (xs := (cnt N s rest).zipIdx) (enc := fun q : Option Int × Nat => PyData.tuple [.int (q.2 : Int), encO q.1]) (c := fun _ => false) (f := fun q : Option Int × Nat => PyData.int (q.2 : Int)) (ei_enumM (ec_var 5) T.B.enumerate)
    (fun q hq => ?_) (blkOk_by (N := N_L_right) (sc := defScope st_L_right) (by decide +kernel)) sc_L_right.nd (by rw [List.length_zipIdx]; omega))) (en_a (en_lst ecs_nil)) (sh_list (n := 0) fun x hx => ?_).ok sh_nil.ok) (fun z => ?_) (fun _ => gss_nil ?_))
  · have hq' := List.mem_zipIdx_iff_getElem?.mp hq
    have hi := (List.getElem?_eq_some_iff.mp hq').1
    obtain ⟨o, i⟩ := q
    have wa := wat i (by show i < _; have : i < (cnt N s rest).length := hi; omega)
    cases o with
    | none => exact ⟨_, _, fun s_ H_ C_ cl_ fp_ => (at_tup (ats_cons (at_name 14 sc_L_right.nd) (ats_cons (at_name 16 sc_L_right.nd) ats_nil))), by decide, fun s_ H_ C_ cl_ fp_ => ets_is (et_w (ew_and (l := true) (et_notN (ec_a (ec_var 16))) (fun z => by cases z))) rfl, fun _ => fun s_ H_ C_ cl_ fp_ => (ec_var 14)⟩
    | some a =>
      refine ⟨_, _, fun s_ H_ C_ cl_ fp_ => (at_tup (ats_cons (at_name 14 sc_L_right.nd) (ats_cons (at_name 16 sc_L_right.nd) ats_nil))), by decide, fun s_ H_ C_ cl_ fp_ => ets_is (et_w (ew_and (et_notN (ec_a (ec_var 16))) (fun z => ew_and1 (et_neI (ea_ixL (ec_a (ec_var 10)) (ec_a (ec_var 14)) wa) (ec_a (ec_var 16)))))) ?_, fun _ => fun s_ H_ C_ cl_ fp_ => (ec_var 14)⟩
      rw [decide_eq_true (full i a hq')]; rfl
  · rw [filter_none fun _ _ => rfl] at hx; cases hx
  · rw [filter_none fun _ _ => rfl] at z; cases z
  -- all of them at an end?
  refine gss_seq (gs_setP 11 (en_c (en_is (en_eq hr.u4 (en_a (en_lc (own := [("_law_number", 16)]) (xs := cnt N s rest) (enc := encO) (c := fun o => isN (encO o)) (f := encO) (ei_list (ec_var 5))
    (fun o ho => ⟨_, _, fun s_ H_ C_ cl_ fp_ => at_name 16 sc_L_right.nd, by decide, fun s_ H_ C_ cl_ fp_ => ets_is (et_isN (ec_a (ec_var 16))) rfl, fun _ => fun s_ H_ C_ cl_ fp_ => (ec_var 16)⟩) (blkOk_by (N := N_L_right) (sc := defScope st_L_right) (by decide +kernel)) sc_L_right.nd (by omega))) (en_a (en_lst ecs_nil)) (sh_map _ sh_encO).ok sh_nil.ok) (d' := .bool (allC (cnt N s rest))) ?_)) ?_ sc_L_right.nd)
  · rw [eqv_nil, List.isEmpty_map]
    congr 1
    unfold allC
    induction cnt N s rest with
    | nil => rfl
    | cons o f ih =>
      cases o with
      | none => rfl
      | some i => exact ih
  refine gss_seq (gs_ifP (et_w (ew_or (et_ne hr.u4 (en_a (en_eq hr.u4 (en_a (en_call ((ok_L_able T).mono (by decide)) hr T.L_able.g T.L_able.F.kp T.L_able.b (ecs_cons ((ec_var 1)) (ecs_cons ((ec_var 8)) (ecs_cons ((ec_var 3)) ecs_nil))) (⟨N, tx, rest, rfl, hok, ltx, rfl⟩))) (en_a (en_lst ecs_nil)) (sh_dI _).ok sh_nil.ok)) (ec_a (ec_var 11)) (sh_bool _).ok (sh_bool _).ok) (fun _ => ew_or1 (et_ne hr.u4 (en_a (en_lc (own := [("_law_house", 14), ("_law_number", 16)]) (xs := (cnt N s rest).zipIdx) (enc := fun q : Option Int × Nat => PyData.tuple [.int (q.2 : Int), encO q.1]) (c := fun _ => false) (f := fun q : Option Int × Nat => PyData.int (q.2 : Int)) (ei_enumM (ec_var 5) T.B.enumerate)
    (fun q hq => ?_) (blkOk_by (N := N_L_right) (sc := defScope st_L_right) (by decide +kernel)) sc_L_right.nd (by rw [List.length_zipIdx]; omega))) (en_a (en_lst ecs_nil)) (sh_list (n := 0) fun x hx => ?_).ok sh_nil.ok)))) (fun z => ?_) (fun _ => gss_nil ?_))
  · have hq' := List.mem_zipIdx_iff_getElem?.mp hq
    have hi := (List.getElem?_eq_some_iff.mp hq').1
    obtain ⟨o, i⟩ := q
    have wa := wat i (by show i < _; have : i < (cnt N s rest).length := hi; omega)
    cases o with
    | some a => exact ⟨_, _, fun s_ H_ C_ cl_ fp_ => (at_tup (ats_cons (at_name 14 sc_L_right.nd) (ats_cons (at_name 16 sc_L_right.nd) ats_nil))), by decide, fun s_ H_ C_ cl_ fp_ => ets_is (et_w (ew_and (l := true) (et_isN (ec_a (ec_var 16))) (fun z => by cases z))) rfl, fun _ => fun s_ H_ C_ cl_ fp_ => (ec_var 14)⟩
    | none =>
      refine ⟨_, _, fun s_ H_ C_ cl_ fp_ => (at_tup (ats_cons (at_name 14 sc_L_right.nd) (ats_cons (at_name 16 sc_L_right.nd) ats_nil))), by decide, fun s_ H_ C_ cl_ fp_ => ets_is (et_w (ew_and (et_isN (ec_a (ec_var 16))) (fun z => ew_and1 (et_lt (ea_ixL (ec_a (ec_var 10)) (ec_a (ec_var 14)) wa) (en_a (en_callB (call_max2 rfl) (cl_max2) T.B.max (eas_cons (en_a en_int) (eas_cons (en_a (en_fdiv (ec_a (ec_var 9)) (en_a en_int) ⟨by decide, by decide⟩)) eas_nil)))))))) ?_, fun _ => fun s_ H_ C_ cl_ fp_ => (ec_var 14)⟩
      have := open_ i hq'
      have this : 1 ≤ gI wx i ∧ mostW N s rest / 10 ≤ gI wx i := this
      rw [decide_eq_false (by split <;> omega)]; rfl
  · rw [filter_none fun _ _ => rfl] at hx; cases hx
  · rw [filter_none fun _ _ => rfl, eqv_nil, eqv_bool, List.isEmpty_map] at z
    rw [show (able N tx rest).isEmpty = allC (cnt N s rest) from ended] at z
    simp [PyData.eqv, PyData.eqvAll] at z
  -- the standing at the end
  refine gss_seq (gs_setP 12 (en_c (en_if (d := last N s rest) (et_val (ea_n (ec_a (ec_var 11)))) (fun z => ?_) (fun z => ?_))) ?_ sc_L_right.nd)
  · have e : dC (cnt N s rest) = dI (numC (cnt N s rest)) := congrArg PyData.list (allC_num (by unfold allC at z; simpa using z))
    exact en_is (en_call ((ok_L_meant T).mono (by decide)) hr T.L_meant.g T.L_meant.F.kp T.L_meant.b (ecs_cons ((ec_var 1)) (ecs_cons ((ec_var 2)) (ecs_cons (ec_is (ec_var 5) e) ecs_nil))) (⟨N, s, numC (cnt N s rest), rfl, hok, hl, by unfold numC; rw [List.length_map, lC]; omega, rfl⟩)) (by unfold last; rw [if_pos z])
  · exact en_is en_none (by unfold last; rw [if_neg (by rw [z]; decide)])
  have rpL := rp_last hok sok pl
  refine gss_seq (gs_ifP (et_w (ew_or (et_neS (en_a (en_repr calm hu T.B.repr (en_a (en_call ((ok_last_standing T).mono (by decide)) hr T.last_standing.g T.last_standing.F.kp T.last_standing.b (ecs_cons ((ec_var 1)) (ecs_cons ((ec_var 2)) (ecs_cons ((ec_var 3)) ecs_nil))) (⟨N, s, rest, rfl, hok, sok, rok, rfl⟩))) rpL (by decide) (by decide) (last_kind ..))) (en_a (en_repr calm hu T.B.repr (ec_a (ec_var 12)) rpL (by decide) (by decide) (last_kind ..)))) (fun _ => ew_or1 (et_neS (en_a (en_repr calm hu T.B.repr (en_a (en_call3 ((ok_last_standing T).mono (by decide)) hr T.last_standing.g T.last_standing.F.kp (kb_last T) (ec_var 3) (ec_var 2) (ec_var 1) (⟨N, s, rest, rfl, hok, sok, rok, rfl⟩))) rpL (by decide) (by decide) (last_kind ..))) (en_a (en_repr calm hu T.B.repr (ec_a (ec_var 12)) rpL (by decide) (by decide) (last_kind ..))))))) (fun z => ?_) (fun _ => gss_nil ?_))
  · simp at z
  refine gss_seq (gs_ifP (et_w (ew_and (et_val (ea_n (ec_a (ec_var 11)))) (fun _ => ew_and1 (et_ne hr.u4 (ec_a (ec_var 12)) (ec_a (ec_var 8)) (sh_last ..).ok (sh_dI _).ok)))) (fun z => ?_) (fun _ => gss_nil ?_))
  · rw [Bool.and_eq_true] at z
    have z1 := z.1
    have z2 := z.2
    have e : last N s rest = dI tx := by
      unfold last
      rw [if_pos z1, ← there z1]
    rw [e, eqv_dI] at z2
    simp at z2
  -- all rest
  refine gss_seq (gs_own 13 (en_is (en_call ((ok_last_standing T).mono (by decide)) hr T.last_standing.g T.last_standing.F.kp T.last_standing.b (ecs_cons ((ec_var 1)) (ecs_cons ((ec_var 2)) (ecs_cons (en_c (en_listRg (en_a (en_ixT (ec_var 1) (en_a en_int) rfl)) (by omega) (by omega) T.B.list T.B.range)) ecs_nil))) (⟨N, s, rgI 0 N.n, rfl, hok, sok, rg_ok, rfl⟩)) pl.idle) ?_ sc_L_right.nd)
  have rpS : Rp 1 28 (dI s) := rp_dI (fun i hi => by have := sok.at hok i hi; omega) (by omega)
  refine gss_seq (gs_ifP (et_neS (en_a (en_repr calm hu T.B.repr (ea_own 13) rpS)) (en_a (en_repr calm hu T.B.repr (ec_a (ec_var 2)) rpS))) (fun z => ?_) (fun _ => gss_nil ?_))
  · simp at z
  refine gss_seq (gs_app 13 (ds := s.map PyData.int) (P := fun d gs' => True) (ge_pure (en_c en_none) trivial) (fun d1 gs1 _ => ?_) (by rw [List.length_map]; omega))
  refine gss_seq (gs_app 6 (ds := (cnt N s rest).map encO) (P := fun d gs' => True) (ge_pure (en_c en_none) trivial) (fun d2 gs2 _ => ?_) (by rw [List.length_map]; omega))
  exact gss_one (gs_retP (en_and (en_eqS (en_a (en_repr calm hu T.B.repr (en_a (en_call ((ok_counts T).mono (by decide)) hr T.counts.g T.counts.F.kp T.counts.b (ecs_cons ((ec_var 1)) (ecs_cons ((ec_var 2)) (ecs_cons ((ec_var 3)) ecs_nil))) (⟨N, s, rest, rfl, hok, sok, rok, rfl⟩))) rpC)) (en_a (en_repr calm hu T.B.repr (ec_a (ec_var 5)) rpC))) (fun _ => en_one (en_eqS (en_a (en_repr calm hu T.B.repr (en_a (en_lst (ecs_cons ((ec_var 1)) (ecs_cons ((ec_var 2)) (ecs_cons ((ec_var 3)) ecs_nil))))) (rp_all3 hok sok rok))) (ec_a (ec_var 4))))) (by simp))
end
end KR
namespace KR
open PySem L2
/-! ### the given nets -/
theorem netOk_of {N : Net} (h : 1 ≤ N.n ∧ N.n ≤ 12 ∧ N.rs.length ≤ 28 ∧ (∀ r ∈ N.rs, 0 ≤ r.1 ∧ r.1 < r.2.1 ∧ r.2.1 < N.n ∧ 1 ≤ r.2.2 ∧ r.2.2 ≤ 9) ∧ N.rs.Pairwise (fun a b => a.1 < b.1 ∨ (a.1 = b.1 ∧ a.2.1 < b.2.1))) : NetOk N :=
  ⟨h.1, h.2.1, h.2.2.1, fun r hr => ⟨(h.2.2.2.1 r hr).1, (h.2.2.2.1 r hr).2.1, (h.2.2.2.1 r hr).2.2.1, (h.2.2.2.1 r hr).2.2.2.1, (h.2.2.2.1 r hr).2.2.2.2⟩, h.2.2.2.2⟩
theorem stOk_of {N : Net} {s : List Int} (h : s.length = N.rs.length ∧ ∀ p ∈ s.zip N.rs, 0 ≤ p.1 ∧ p.1 ≤ p.2.2.2) : StOk N s := ⟨h.1, h.2⟩
theorem hsOk_of {N : Net} {hs : List Int} (h : (∀ x ∈ hs, 0 ≤ x ∧ x < N.n) ∧ hs.Pairwise (· < ·)) : HsOk N hs := ⟨h.1, h.2⟩
def rowR (i : Nat) : List Road := (rgI ((i : Int) + 1) 8).map fun h => ((i : Int), h, 1)
def preR : Nat → List Road
  | 0 => []
  | i + 1 => preR i ++ rowR i
abbrev N7 : Net := ⟨7, rs7⟩
abbrev N8 : Net := ⟨8, preR 7⟩
abbrev held : List Int := [0, 1, 0, 1, 1, 1, 1, 1, 1, 0, 0, 1, 1, 0, 1, 0, 0, 0, 1, 1, 0, 0, 1, 1, 1, 0, 1, 1]
abbrev Nr : Net := ⟨4, [(0, 1, 1), (1, 2, 2), (2, 3, 1)]⟩
abbrev Nt : Net := ⟨4, [(0, 1, 1), (0, 2, 1), (1, 2, 1), (2, 3, 1)]⟩
abbrev N1 : Net := ⟨1, []⟩
abbrev Nl : Net := ⟨12, (rgI 0 11).map fun h => (h, h + 1, 9)⟩
abbrev nine : List Int := List.replicate 11 9
theorem ok8 : NetOk N8 := netOk_of (by decide +kernel)
theorem okr : NetOk Nr := netOk_of (by decide +kernel)
theorem okt : NetOk Nt := netOk_of (by decide +kernel)
theorem ok1 : NetOk N1 := netOk_of (by decide +kernel)
theorem okl : NetOk Nl := netOk_of (by decide +kernel)
theorem v7 : cnt N7 [0, 1, 0, 0, 1, 0, 1] [] = [some 0, some 0, some 0, some 0, some 0, some 0, some 1] := by decide +kernel
theorem v8 : cnt N8 held [] = List.replicate 8 (some 0) := by decide +kernel
theorem vr : cnt Nr [1, 2, 0] [0] = [some 0, some 1, some 3, some 3] := by decide +kernel
theorem vt : cnt Nt [0, 1, 0, 1] [] = [some 0, some 0, some 0, some 1] := by decide +kernel
theorem v1 : cnt N1 [] [] = [none] := by decide +kernel
theorem vl : cnt Nl nine [0] = (rgI 0 12).map fun h => some (9 * h) := by decide +kernel
theorem l7 : last N7 [0, 1, 0, 0, 1, 0, 1] [] = dI [0, 1, 0, 0, 1, 0, 0] := by
  unfold last
  rw [v7]; rfl
theorem l8 : last N8 held [] = dI held := by
  unfold last
  rw [v8, if_pos (by decide +kernel)]
  exact congrArg dI (show behind N8 held (numC (List.replicate 8 (some 0))) = held by decide +kernel)
theorem ll : last Nl nine [0] = dI (List.replicate 11 0) := by
  unfold last
  rw [vl, if_pos (by decide +kernel)]
  exact congrArg dI (show behind Nl nine (numC ((rgI 0 12).map fun h => some (9 * h))) = List.replicate 11 0 by decide +kernel)
end KR
namespace KR
open PySem L2
section
variable {X : Cx} {γ : Option Addr} {i0 : Nat} {ρ : List Ent} {gs : List Int} {e a b : Expr} {st : Stmt} {sts : List Stmt} {d da db : PyData} {nx : List Ent → List Int → Prop} {rt : PyData → List Int → Prop} {pos px py pt pt2 : Pos} {x y : Str} {kt k2 : Nat}
theorem gt_val {P : Bool → List Int → Prop} (h : GN X γ i0 ρ gs e fun d gs' => ∃ k, d = .bool k ∧ P k gs') (he : ∀ whole, isTrue e X.env whole = (do let v ← whole; standAt e.pos; holding [v] (truthy v)) := by intro _; rfl) : GT X γ i0 ρ gs e P :=
  pt_weak (pt_val h he) fun σ H Q ⟨H0, R0, R, s, q⟩ => ⟨H0, R0, R, s, fun v d gs' H2 R2 ⟨k, e, p⟩ s2 m n => by
    subst e
    cases n with
    | sc _ w => cases w; exact ⟨k, rfl, q k gs' H2 R2 p s2 m⟩⟩
theorem gt_not {P : Bool → List Int → Prop} (h : GT X γ i0 ρ gs e fun k gs' => P (!k) gs') : GT X γ i0 ρ gs (.UnaryOp .Not e pos) P := pt_weak (pt_not h) fun σ H Q ⟨H0, R0, R, s, q⟩ => ⟨H0, R0, R, s, fun b gs' H2 R2 p s2 m => q (!b) gs' H2 R2 p s2 m⟩
theorem gs_parVV (i j : Nat) (h1 : EC X (withG ρ i0 gs) a da) (h2 : EC X (withG ρ i0 gs) b db) (k : nx ((ρ.set i (.val da)).set j (.val db)) gs) (hN : X.N.Nodup) (hi0 : i ≠ i0 := by decide) (hj0 : j ≠ i0 := by decide) (hij : i ≠ j := by decide) (hc : X.calm = true := by rfl) (hi : X.N[i]? = some x := by rfl) (hj : X.N[j]? = some y := by rfl)
    (hx : X.env.scope.names.lookup x = some .local := by rfl) (hy : X.env.scope.names.lookup y = some .local := by rfl) (hw : swappedStores [.Tuple [.Name x px, .Name y py] kt pt] (.Tuple [a, b] k2 pt2) X.env = pure (some [x, y]) := by rfl)
    (hs : swapsWithSole [.Tuple [.Name x px, .Name y py] kt pt] (.Tuple [a, b] k2 pt2) pos.line X.env = pure false := by rfl) (s1 : starEach [a, b] X.env = (false, eval a X.env) :: starEach [b] X.env := by rfl) (s2 : starEach [b] X.env = (false, eval b X.env) :: starEach [] X.env := by rfl) :
    GS X γ i0 ρ gs (.Assign [.Tuple [.Name x px, .Name y py] kt pt] (.Tuple [a, b] k2 pt2) pos) nx rt :=
  ps_weak (ps_par hc hN hi hj hij hx hy (pa_cons h1 (pa_cons h2 pa_nil s2) s1) hw hs) fun D σ H ⟨H0, R0, R, s, kn, _⟩ => ⟨R, s.st.sl, fun v H1 R1 g1 w1 => ⟨R1, (s.grow g1).st.sl, fun u H2 R2 g2 w2 =>
    ⟨_, u, rfl, kn _ _ R2 _ gs k (((s.grow (g1.trans g2)).setV hi0 (w1.up g2.reg)).setV hj0 w2)⟩⟩⟩
/-- draws within statements without -/
theorem dss_of_g {nxd : List Ent → Prop} {rtd : PyData → Prop} (h : GSs X none i0 ρ gs sts nx rt) (hl : i0 < ρ.length) (kn : ∀ ρ' gs', nx ρ' gs' → nxd (withG ρ' i0 gs')) (kr : ∀ d gs', rt d gs' → rtd d) : DSs X (withG ρ i0 gs) sts nxd rtd :=
  pss_weak h fun D σ H ⟨H0, R0, R, s, k, r⟩ => ⟨H0, R0, R, ⟨s, hl, nofun⟩, fun σ' H' R' ρ' gs' n s' => k σ' H' R' _ (kn ρ' gs' n) s'.st, fun v H' R' d gs' p g _ n => r v H' R' d (kr d gs' p) g n⟩
theorem Calm.mono {P : Program} {w : World} {K : PySem.W.Frag} {mg : Str → Option Value} {base : Heap} {j k : Nat} {f : Addr} {fd : FuncData} {ps : List Str} {sp : Sp} (F : Calm P w K mg base j f fd ps sp) (h : j ≤ k) : Calm P w K mg base k f fd ps sp :=
  ⟨F.many, fun around out st Hx given us xs Qx Ex calm room => F.go around out st Hx given us xs Qx Ex calm (room.mono h)⟩
end
section
variable {P : Program} {w : World} {K : PySem.W.Frag} {mg : Str → Option Value} {base : Heap} {fs : Nat → Addr} {fds : Nat → FuncData}
def spLaw (K : PySem.W.Frag) : Sp := fun vs H Q _ => ∃ R sd ns, Same R H ∧ DqAll R vs [sd] ∧ ScrD K ns sd ∧ ∀ H2, Q (.bl true) H2
section
variable {X : Cx} {ρ : List Ent} {nx : List Ent → Prop} {rt : PyData → Prop} {sd : PyData} {ns : List Int} {e1 e2 : Expr} {n : Int} {pos pos' cpos p : Pos} {x y : Str}
/-- name = _law_generator(script, n) -/
theorem ds_gen (T : Txt X.K X.mg fs fds) (hr : Room 2 X.A) (i : Nat) (hs : ScrD X.K ns sd) (n0 : 0 ≤ n) (n1 : n ≤ 100) (h1 : EC X ρ e1 sd) (h2 : EC X ρ e2 (.int n)) (k : ∀ a b : Int, nx (ρ.set i (.own [.int a, .int b, .int (1000 * n)]))) (hN : X.N.Nodup) (hi : X.N[i]? = some x := by rfl) (hx : Loc X.env.scope x := by first | exact Or.inl rfl | exact Or.inr rfl)
    (hsw : swapsWith (.Call (.Name "_law_generator" p) [e1, e2] [] cpos) (some (.Name x pos')) pos.line X.env = pure false := by rfl) (hf : X.fn x = true ∨ X.env.scope.names.lookup x = some .local := by first | exact .inl rfl | exact .inr rfl | assumption)
    (hg : Gl X "_law_generator" := by rfl) (he : starEach [e1, e2] X.env = (false, eval e1 X.env) :: starEach [e2] X.env := by rfl) (he2 : starEach [e2] X.env = (false, eval e2 X.env) :: starEach [] X.env := by rfl) (hpl : (backTo cpos (starEach [e2] X.env)).any (·.1) = false := by rfl) :
    DS X ρ (.Assign [.Name x pos'] (.Call (.Name "_law_generator" p) [e1, e2] [] cpos) pos) nx rt :=
  ps_weak (ps_set hN hi hx (pe_call (ok_L_generator (P := X.prog) (w := X.w) (base := X.base) T) hr hg T.L_generator.g T.L_generator.F.kp T.L_generator.b .nil pass0 (pa_cons h1 (pa_cons h2 pa_nil he2) he) (by decide) he hpl) hsw hf) fun D σ H ⟨H0, R0, R, s, kn, _⟩ => ⟨R, s.sl, fun v1 H1 R1 g1 w1 => ⟨R1, s.sl.grow g1, fun v2 H2 R2 g2 w2 =>
    ⟨R2, sd, ns, n, g2.sub, .cons (w1.up g2.reg) (.cons w2 .nil), hs, n0, n1, fun v a b H3 R3 g3 nv => by
      cases nv with
      | sc h _ => exact absurd rfl (h _)
      | ls q1 q2 q3 q4 => exact kn _ _ R3 _ (k a b) (s.setO ((g1.trans g2).trans g3) ((g1.trans g2).hp.free q1) q2 q3 q4)⟩⟩⟩
end
end
end KR
namespace KR
open PySem L2
theorem eqv_none1 : PyData.eqv (.list [.none]) (.list [.none]) = true := by simp [PyData.eqv, PyData.eqvAll]
theorem rep_dI (k : Nat) (z : Int) : (List.replicate k [PyData.int z]).flatten = (List.replicate k z).map PyData.int := by
  induction k with
  | zero => rfl
  | succ k ih => rw [List.replicate_succ, List.replicate_succ, List.flatten_cons, ih]; rfl
section
variable {P : Program} {w : World} {K : PySem.W.Frag} {mg : Str → Option Value} {base : Heap} {fs : Nat → Addr} {fds : Nat → FuncData}
theorem ok_law (T : Txt K mg fs fds) (plain : ∀ N s rest, NetOk N → N.n ≤ 10 → StOk N s → HsOk N rest → Plain N s rest) : Calm P w K mg base 11 (fs 54) (fds 54) P_law (spLaw K) := by
  refine calm_def T.law.F sc_law (fun xs Hx Qx Ex ⟨R, sd, ns, _, q, _⟩ => q.len) fun cdv A outer s0 H vs Q E calm hr ⟨R, sd, ns, sm, q, hs, kk⟩ => ?_
  suffices body : DSs (cxOf CX0 P w K mg base N_law "law" (defScope st_law) (fs 54) cdv A outer s0 H E).nox (entry N_law [sd]) (defBody st_law) (fun _ => False) (fun d => d = .bool true) by
    refine ⟨_, body, H, R, R, ⟨sl_entry sm q, Gr.refl sm, fun i es p e _ => absurd e entry_no_own⟩, fun σ' H' R' ρ' e s' => e.elim, fun v H' R' d' e g n => ?_⟩
    subst e
    cases n with
    | sc _ w => cases w; exact kk H'
  have r10 : Room 10 _ := hr
  -- four of them
  refine dss_seq (ds_for (ei_range1 (en_a en_int) T.B.range (by decide) (by decide)) (fun i ρ => ∃ e1 e2 e3, ρ = [.val sd, e1, e2, e3, .un, .un, .un, .un, .un, .un, .un, .un, .un, .un]) ⟨_, _, _, rfl⟩ ?_ ?_)
  · rintro i d ρ' hd ⟨e1, e2, e3, rfl⟩
    have hi := (List.getElem?_eq_some_iff.mp hd).1
    rw [List.length_map, rgI_len] at hi
    rw [List.getElem?_map, rgI_at hi] at hd
    cases hd
    have hi4 : i < 4 := hi
    refine ⟨_, _, at_name 1 sc_law.nd, ?_⟩
    refine dss_seq (ds_gen T (hr.mono (by decide)) 2 hs (n := 0 + (i : Int)) (by omega) (by omega) (ec_var 0) (ec_var 1) (fun a b => ?_) sc_law.nd)
    have hg : Gn 100000 [a, b, 1000 * (0 + (i : Int))] := ⟨a, b, _, rfl, by omega, by omega⟩
    refine dss_of_g (i0 := 2) (ρ := [.val sd, .val (.int (0 + (i : Int))), .un, e3, .un, .un, .un, .un, .un, .un, .un, .un, .un, .un]) (gs := [a, b, 1000 * (0 + (i : Int))]) (nx := fun ρ' gs' => ∃ e3, ρ' = [.val sd, .val (.int (0 + (i : Int))), .un, e3, .un, .un, .un, .un, .un, .un, .un, .un, .un, .un]) (rt := fun _ _ => False) ?_ (by show 2 < 14; decide) (fun ρ' gs' ⟨e3, e⟩ => by subst e; exact ⟨_, _, _, rfl⟩) (fun _ _ z => z.elim)
    refine gss_seq (gs_set 3 (P := fun d gs' => ∃ N, d = encN N ∧ NetOk N ∧ N.n ≤ 5 ∧ Cost 100 [a, b, 1000 * (0 + (i : Int))] gs') (gn_e (gn_callP ((ok_L_net T).mono (by decide)) hr T.L_net.g T.L_net.F.kp T.L_net.b (ecs_cons (en_c en_int) (ecs_cons (en_c en_int) ecs_nil)) (⟨5, 3, rfl, by decide, by decide, by decide, by decide, hg.mono (by decide)⟩) (fun d gs' h => h))) (fun d gs' ⟨N, e, hok, n5, cs⟩ => ?_) sc_law.nd)
    subst e
    refine gss_one (gs_if (P := fun k _ => k = false) (gt_not (gt_val (P := fun k _ => (!k) = false) (gn_callCalm (Calm.mono (ok_L_right T plain) (by decide)) calm r10 T.L_right.g T.L_right.F.kp T.L_right.b (ges_cons (ge_pure (ec_var 3) (ges_cons (gn_e (gn_callP ((ok_L_standing T).mono (by decide)) hr T.L_standing.g T.L_standing.F.kp T.L_standing.b (ecs_cons ((ec_var 3)) ecs_nil) (⟨N, rfl, hok, (cs _ hg).mono (by decide)⟩) (?_))))))))) (fun k gs' z => ⟨fun z' => (by rw [z] at z'; cases z'), fun _ => gss_nil ⟨_, rfl⟩⟩))
    rintro d gs1 ⟨N', s, e, rfl, sl, sb, c1⟩
    injection e with e _
    have := encN_inj e
    subst this
    refine ges_cons (gn_e (gn_callP ((ok_L_houses T).mono (by decide)) hr T.L_houses.g T.L_houses.F.kp T.L_houses.b (ecs_cons ((ec_var 3)) (ecs_cons (en_c en_int) ecs_nil)) (⟨N, 3, rfl, hok, by decide, by decide, (cs.trans c1 _ hg).mono (by decide)⟩) (?_)))
    rintro d gs2 ⟨N', part, hs', e, rfl, hk, c2⟩
    injection e with e _
    have := encN_inj e
    subst this
    refine ges_nil ⟨⟨N, s, hs', rfl, hok, by omega, ⟨sl, fun p hp => ?_⟩, hk, (Cost.trans (Cost.trans cs c1) c2 _ hg).mono (by decide)⟩, fun d gs3 e => ⟨true, e, rfl⟩⟩
    obtain ⟨j, hj⟩ := List.getElem?_of_mem hp
    obtain ⟨h1, h2⟩ := List.getElem?_zip_eq_some.mp hj
    exact sb j p.1 p.2 h1 h2
  rintro ρ' ⟨e1, e2, e3, rfl⟩
  -- the seven
  refine dss_seq (ds_gen T (hr.mono (by decide)) 2 hs (n := 4) (by decide) (by decide) (ec_var 0) (en_c en_int) (fun a b => ?_) sc_law.nd)
  have hg : Gn 100000 [a, b, 1000 * 4] := ⟨a, b, _, rfl, by decide, by decide⟩
  refine dss_of_g (i0 := 2) (ρ := [.val sd, e1, .un, e3, .un, .un, .un, .un, .un, .un, .un, .un, .un, .un]) (gs := [a, b, 1000 * 4]) (nx := fun _ _ => False) (rt := fun d _ => d = .bool true) ?_ (by show 2 < 14; decide) (fun _ _ z => z.elim) (fun _ _ z => z)
  refine gss_seq (gs_tgt (P := fun d gs' => ∃ N s, d = .tuple [encN N, dI s] ∧ NetOk N ∧ N.n = 7 ∧ StOk N s ∧ Cost 100 [a, b, 1000 * 4] gs') (gn_e (gn_callP ((ok_L_seven T).mono (by decide)) hr T.L_seven.g T.L_seven.F.kp T.L_seven.b ecs_nil (⟨rfl, hg.mono (by decide)⟩) (fun d gs' h => h))) (fun d gs' ⟨N, s, e, hok, n7, sok, cs⟩ => ⟨_, [.val sd, e1, .un, .val (encN N), .val (dI s), .un, .un, .un, .un, .un, .un, .un, .un, .un], by subst e; exact (at_tup (ats_cons (at_name 3 sc_law.nd) (ats_cons (at_name 4 sc_law.nd) ats_nil))), by show 2 < 14; decide, ?_⟩))
  refine gss_seq (gs_if (P := fun k _ => k = false) (gt_not (gt_val (P := fun k _ => (!k) = false) (gn_callCalm (Calm.mono (ok_L_right T plain) (by decide)) calm r10 T.L_right.g T.L_right.F.kp T.L_right.b (ges_cons (ge_pure (ec_var 3) (ges_cons (ge_pure (ec_var 4) (ges_cons (gn_e (gn_lc (own := [("_law_house", 12)]) (ds := [.int 6]) (ei_list (en_c (en_lst (ecs_cons (en_c en_int) ecs_nil))))
    (fun i acc gs1 => ∃ hs : List Int, acc = hs.map PyData.int ∧ HsOk N hs ∧ (i = 0 → hs = []) ∧ Cost i gs' gs1) ⟨[], rfl, ⟨fun h z => (by cases z), .nil⟩, fun _ => rfl, Cost.zero⟩ ?_ ?_ (blkOk_by (N := N_law) (sc := defScope st_law) (by decide +kernel)) sc_law.nd (by decide))))))))))) (fun k gs' z => ⟨fun z' => (by rw [z] at z'; cases z'), fun _ => gss_nil ?_⟩))
  · rintro i d acc gs1 hd hl ⟨hs', rfl, ho, h0, c1⟩
    have hi : i < 1 := (List.getElem?_eq_some_iff.mp hd).1
    have i0 : i = 0 := by omega
    subst i0
    cases hd
    have e0 := h0 rfl
    subst e0
    refine ⟨_, [.val sd, e1, .un, .val (encN N), .val (dI s), .un, .un, .un, .un, .un, .un, .un, .val (.int 6), .un], fun s_ H_ C_ cl_ fp_ => at_name 12 sc_law.nd, by decide, by show 2 < 14; decide, rfl, fun s_ H_ C_ cl_ fp_ => gts_one (gt_weak (gt_eqI (P := fun d gs2 => (∃ k, d = .bool k) ∧ Cost 1 gs1 gs2) (gn_e (gn_callP ((ok_L_random T).mono (by decide)) hr T.L_random.g T.L_random.F.kp T.L_random.b (ecs_cons (en_c en_int) ecs_nil) (pre_r (cs.trans c1 _ hg) (by decide) (by decide) (by decide)) (?_)))) ?_)⟩
    · rintro d gs2 ⟨l, x, e, rfl, x0, x1, c2⟩
      exact ge_pure (en_c en_int) ⟨_, _, rfl, rfl, ⟨_, rfl⟩, c2⟩
    · rintro k gs2 ⟨_, c2⟩
      refine ⟨fun _ => fun s_ H_ C_ cl_ fp_ => ge_pure (ec_var 12) ⟨[6], rfl, ⟨fun h hh => ?_, List.pairwise_singleton _ _⟩, fun z => (by cases z), (c1.trans c2).le (by decide)⟩, fun _ => ⟨[], rfl, ⟨fun h z => (by cases z), .nil⟩, fun z => (by cases z), (c1.trans c2).le (by decide)⟩⟩
      have := List.mem_singleton.mp hh
      omega
  · rintro acc gs1 ⟨hs', rfl, ho, _, c1⟩
    exact ges_nil ⟨⟨N, s, hs', rfl, hok, by omega, sok, ho, (cs.trans c1 _ hg).mono (by decide)⟩, fun d gs3 e => ⟨true, e, rfl⟩⟩
  -- given nets
  refine gss_seq (gs_setP 5 (en_c (en_is (en_tup (ecs_cons (en_c en_int) (ecs_cons (en_c (en_lst (ecs_cons (en_c (en_tup (ecs_cons (en_c en_int) (ecs_cons (en_c en_int) (ecs_cons (en_c en_int) ecs_nil))))) (ecs_cons (en_c (en_tup (ecs_cons (en_c en_int) (ecs_cons (en_c en_int) (ecs_cons (en_c en_int) ecs_nil))))) (ecs_cons (en_c (en_tup (ecs_cons (en_c en_int) (ecs_cons (en_c en_int) (ecs_cons (en_c en_int) ecs_nil))))) (ecs_cons (en_c (en_tup (ecs_cons (en_c en_int) (ecs_cons (en_c en_int) (ecs_cons (en_c en_int) ecs_nil))))) (ecs_cons (en_c (en_tup (ecs_cons (en_c en_int) (ecs_cons (en_c en_int) (ecs_cons (en_c en_int) ecs_nil))))) (ecs_cons (en_c (en_tup (ecs_cons (en_c en_int) (ecs_cons (en_c en_int) (ecs_cons (en_c en_int) ecs_nil))))) (ecs_cons (en_c (en_tup (ecs_cons (en_c en_int) (ecs_cons (en_c en_int) (ecs_cons (en_c en_int) ecs_nil))))) ecs_nil))))))))) ecs_nil))) (d' := encN N7) rfl)) ?_ sc_law.nd)
  refine gss_seq (gs_ifP (et_w (ew_or (et_ne hr.u4 (en_a (en_is (en_call ((ok_counts T).mono (by decide)) hr T.counts.g T.counts.F.kp T.counts.b (ecs_cons ((ec_var 5)) (ecs_cons (en_c (en_lst (ecs_cons (en_c en_int) (ecs_cons (en_c en_int) (ecs_cons (en_c en_int) (ecs_cons (en_c en_int) (ecs_cons (en_c en_int) (ecs_cons (en_c en_int) (ecs_cons (en_c en_int) ecs_nil))))))))) (ecs_cons (en_c (en_lst ecs_nil)) ecs_nil))) (⟨N7, [0, 1, 0, 0, 1, 0, 1], [], rfl, net7, stOk_of (by decide +kernel), hsOk_of (by decide +kernel), rfl⟩)) (d' := dI [0, 0, 0, 0, 0, 0, 1]) (by rw [v7]; rfl))) (en_a (en_is (en_cat (en_c (en_is (en_rep (k := 6) (en_a (en_lst (ecs_cons (en_c en_int) ecs_nil))) (ea_is (en_a en_int) rfl) (fun x hx => by rw [List.mem_singleton.mp hx]; rfl) (by decide) (by rw [sizeLine_eq]; decide)) (congrArg PyData.list (rep_dI 6 0)))) (en_c (en_lst (ecs_cons (en_c en_int) ecs_nil))) (by rw [sizeLine_eq]; decide)) (d' := dI [0, 0, 0, 0, 0, 0, 1]) rfl)) (sh_dI _).ok (sh_dI _).ok)
    (fun _ => ew_or1 (et_ne hr.u4 (en_a (en_is (en_call ((ok_last_standing T).mono (by decide)) hr T.last_standing.g T.last_standing.F.kp T.last_standing.b (ecs_cons ((ec_var 5)) (ecs_cons (en_c (en_lst (ecs_cons (en_c en_int) (ecs_cons (en_c en_int) (ecs_cons (en_c en_int) (ecs_cons (en_c en_int) (ecs_cons (en_c en_int) (ecs_cons (en_c en_int) (ecs_cons (en_c en_int) ecs_nil))))))))) (ecs_cons (en_c (en_lst ecs_nil)) ecs_nil))) (⟨N7, [0, 1, 0, 0, 1, 0, 1], [], rfl, net7, stOk_of (by decide +kernel), hsOk_of (by decide +kernel), rfl⟩)) (d' := dI [0, 1, 0, 0, 1, 0, 0]) l7)) (en_a (en_is (en_lst (ecs_cons (en_c en_int) (ecs_cons (en_c en_int) (ecs_cons (en_c en_int) (ecs_cons (en_c en_int) (ecs_cons (en_c en_int) (ecs_cons (en_c en_int) (ecs_cons (en_c en_int) ecs_nil)))))))) (d' := dI [0, 1, 0, 0, 1, 0, 0]) rfl)) (sh_dI _).ok (sh_dI _).ok)))) (fun z => ?_) (fun _ => gss_nil ?_))
  · rw [eqv_dI, eqv_dI] at z
    simp at z
  refine gss_seq (gs_parVV 6 7 (en_c (en_lst ecs_nil)) (en_c (en_is (en_lst (ecs_cons (en_c en_int) (ecs_cons (en_c en_int) (ecs_cons (en_c en_int) (ecs_cons (en_c en_int) (ecs_cons (en_c en_int) (ecs_cons (en_c en_int) (ecs_cons (en_c en_int) (ecs_cons (en_c en_int) (ecs_cons (en_c en_int) (ecs_cons (en_c en_int) (ecs_cons (en_c en_int) (ecs_cons (en_c en_int) (ecs_cons (en_c en_int) (ecs_cons (en_c en_int) (ecs_cons (en_c en_int) (ecs_cons (en_c en_int) (ecs_cons (en_c en_int) (ecs_cons (en_c en_int) (ecs_cons (en_c en_int) (ecs_cons (en_c en_int) (ecs_cons (en_c en_int) (ecs_cons (en_c en_int) (ecs_cons (en_c en_int) (ecs_cons (en_c en_int) (ecs_cons (en_c en_int) (ecs_cons (en_c en_int) (ecs_cons (en_c en_int) (ecs_cons (en_c en_int) ecs_nil))))))))))))))))))))))))))))) (d' := dI held) rfl)) ?_ sc_law.nd)
  refine gss_seq (gs_forP (ei_range1 (en_a en_int) T.B.range (by decide) (by decide)) (fun i ρ gs1 => ∃ e8, ρ = [.val sd, e1, .un, .val (encN N), .val (dI s), .val (encN N7), .val (.list ((preR i).map encR)), .val (dI held), e8, .un, .un, .un, .un, .un]) ⟨_, rfl⟩ ?_ ?_)
  · rintro i d ρ' gs1 hd ⟨e8, rfl⟩
    have hi := (List.getElem?_eq_some_iff.mp hd).1
    rw [List.length_map, rgI_len] at hi
    rw [List.getElem?_map, rgI_at hi, Int.zero_add] at hd
    cases hd
    have hi7 : i < 7 := hi
    refine ⟨_, [.val sd, e1, .un, .val (encN N), .val (dI s), .val (encN N7), .val (.list ((preR i).map encR)), .val (dI held), .val (.int (i : Int)), .un, .un, .un, .un, .un], at_name 8 sc_law.nd, by show 2 < 14; decide, ?_⟩
    refine gss_one (gs_setP 6 (en_c (en_is (en_cat (ec_var 6) (en_c (en_lc (own := [("_law_high", 13)]) (xs := rgI ((i : Int) + 1) 8) (enc := PyData.int) (c := fun _ => true) (f := fun h => encR ((i : Int), h, 1)) (ei_range2 (en_a (en_add (ec_a (ec_var 8)) (en_a en_int))) (en_a en_int) T.B.range (by omega)) (fun h hm => ⟨_, _, fun s_ H_ C_ cl_ fp_ => at_name 13 sc_law.nd, by decide, fun s_ H_ C_ cl_ fp_ => ets_nil, fun _ => fun s_ H_ C_ cl_ fp_ => en_c (en_tup (ecs_cons ((ec_var 8)) (ecs_cons ((ec_var 13)) (ecs_cons (en_c en_int) ecs_nil))))⟩)
      (blkOk_by (N := N_law) (sc := defScope st_law) (by decide +kernel)) sc_law.nd (by rw [rgI_len]; omega))) ?_) (d' := .list ((preR (i + 1)).map encR)) ?_)) ⟨_, rfl⟩ sc_law.nd)
    · rw [filter_true, List.length_map, List.length_map, rgI_len, sizeLine_eq]
      have : ∀ j : Nat, j ≤ 7 → (preR j).length ≤ 100 := by decide +kernel
      have := this i (by omega)
      omega
    · rw [filter_true]
      show _ = PyData.list ((preR i ++ rowR i).map encR)
      rw [List.map_append]
      unfold rowR
      rw [List.map_map]; rfl
  rintro ρ' gs1 ⟨e8, rfl⟩
  rw [show ((rgI 0 7).map PyData.int).length = 7 from rfl]
  refine gss_seq (gs_ifP (et_w (ew_or (et_ne hr.u4 (en_a (en_is (en_call ((ok_counts T).mono (by decide)) hr T.counts.g T.counts.F.kp T.counts.b (ecs_cons (en_c (en_tup (ecs_cons (en_c en_int) (ecs_cons ((ec_var 6)) ecs_nil)))) (ecs_cons ((ec_var 7)) (ecs_cons (en_c (en_lst ecs_nil)) ecs_nil))) (⟨N8, held, [], rfl, ok8, stOk_of (by decide +kernel), hsOk_of (by decide +kernel), rfl⟩)) (d' := dI (List.replicate 8 0)) (by rw [v8]; rfl))) (en_a (en_is (en_rep (k := 8) (en_a (en_lst (ecs_cons (en_c en_int) ecs_nil))) (ea_is (en_a en_int) rfl) (fun x hx => by rw [List.mem_singleton.mp hx]; rfl) (by decide) (by rw [sizeLine_eq]; decide)) (congrArg PyData.list (rep_dI 8 0)))) (sh_dI _).ok (sh_dI _).ok)
    (fun _ => ew_or1 (et_ne hr.u4 (en_a (en_is (en_call ((ok_last_standing T).mono (by decide)) hr T.last_standing.g T.last_standing.F.kp T.last_standing.b (ecs_cons (en_c (en_tup (ecs_cons (en_c en_int) (ecs_cons ((ec_var 6)) ecs_nil)))) (ecs_cons ((ec_var 7)) (ecs_cons (en_c (en_lst ecs_nil)) ecs_nil))) (⟨N8, held, [], rfl, ok8, stOk_of (by decide +kernel), hsOk_of (by decide +kernel), rfl⟩)) (d' := dI held) l8)) (ec_a (ec_var 7)) (sh_dI _).ok (sh_dI _).ok)))) (fun z => ?_) (fun _ => gss_nil ?_))
  · rw [eqv_dI, eqv_dI] at z
    simp at z
  refine gss_seq (gs_parVV 9 10 (en_c (en_is (en_tup (ecs_cons (en_c en_int) (ecs_cons (en_c (en_lst (ecs_cons (en_c (en_tup (ecs_cons (en_c en_int) (ecs_cons (en_c en_int) (ecs_cons (en_c en_int) ecs_nil))))) (ecs_cons (en_c (en_tup (ecs_cons (en_c en_int) (ecs_cons (en_c en_int) (ecs_cons (en_c en_int) ecs_nil))))) (ecs_cons (en_c (en_tup (ecs_cons (en_c en_int) (ecs_cons (en_c en_int) (ecs_cons (en_c en_int) ecs_nil))))) ecs_nil))))) ecs_nil))) (d' := encN Nr) rfl)) (en_c (en_is (en_tup (ecs_cons (en_c en_int) (ecs_cons (en_c (en_lst (ecs_cons (en_c (en_tup (ecs_cons (en_c en_int) (ecs_cons (en_c en_int) (ecs_cons (en_c en_int) ecs_nil))))) (ecs_cons (en_c (en_tup (ecs_cons (en_c en_int) (ecs_cons (en_c en_int) (ecs_cons (en_c en_int) ecs_nil))))) (ecs_cons (en_c (en_tup (ecs_cons (en_c en_int) (ecs_cons (en_c en_int) (ecs_cons (en_c en_int) ecs_nil))))) (ecs_cons (en_c (en_tup (ecs_cons (en_c en_int) (ecs_cons (en_c en_int) (ecs_cons (en_c en_int) ecs_nil))))) ecs_nil)))))) ecs_nil))) (d' := encN Nt) rfl)) ?_ sc_law.nd)
  refine gss_seq (gs_ifP (et_w (ew_or (et_ne hr.u4 (en_a (en_is (en_call ((ok_counts T).mono (by decide)) hr T.counts.g T.counts.F.kp T.counts.b (ecs_cons ((ec_var 9)) (ecs_cons (en_c (en_lst (ecs_cons (en_c en_int) (ecs_cons (en_c en_int) (ecs_cons (en_c en_int) ecs_nil))))) (ecs_cons (en_c (en_lst (ecs_cons (en_c en_int) ecs_nil))) ecs_nil))) (⟨Nr, [1, 2, 0], [0], rfl, okr, stOk_of (by decide +kernel), hsOk_of (by decide +kernel), rfl⟩)) (d' := dI [0, 1, 3, 3]) (by rw [vr]; rfl))) (en_a (en_is (en_lst (ecs_cons (en_c en_int) (ecs_cons (en_c en_int) (ecs_cons (en_c en_int) (ecs_cons (en_c en_int) ecs_nil))))) (d' := dI [0, 1, 3, 3]) rfl)) (sh_dI _).ok (sh_dI _).ok)
    (fun _ => ew_or (et_ne hr.u4 (en_a (en_is (en_call ((ok_counts T).mono (by decide)) hr T.counts.g T.counts.F.kp T.counts.b (ecs_cons ((ec_var 10)) (ecs_cons (en_c (en_lst (ecs_cons (en_c en_int) (ecs_cons (en_c en_int) (ecs_cons (en_c en_int) (ecs_cons (en_c en_int) ecs_nil)))))) (ecs_cons (en_c (en_lst ecs_nil)) ecs_nil))) (⟨Nt, [0, 1, 0, 1], [], rfl, okt, stOk_of (by decide +kernel), hsOk_of (by decide +kernel), rfl⟩)) (d' := dI [0, 0, 0, 1]) (by rw [vt]; rfl))) (en_a (en_is (en_lst (ecs_cons (en_c en_int) (ecs_cons (en_c en_int) (ecs_cons (en_c en_int) (ecs_cons (en_c en_int) ecs_nil))))) (d' := dI [0, 0, 0, 1]) rfl)) (sh_dI _).ok (sh_dI _).ok)
    (fun _ => ew_or1 (et_ne hr.u4 (en_a (en_is (en_call ((ok_counts T).mono (by decide)) hr T.counts.g T.counts.F.kp T.counts.b (ecs_cons (en_c (en_tup (ecs_cons (en_c en_int) (ecs_cons (en_c (en_lst ecs_nil)) ecs_nil)))) (ecs_cons (en_c (en_lst ecs_nil)) (ecs_cons (en_c (en_lst ecs_nil)) ecs_nil))) (⟨N1, [], [], rfl, ok1, stOk_of (by decide +kernel), hsOk_of (by decide +kernel), rfl⟩)) (d' := .list [.none]) (by rw [v1]; rfl))) (en_a (en_lst (ecs_cons (en_c en_none) ecs_nil))) (sh_list (n := 0) (fun x hx => by rw [List.mem_singleton.mp hx]; exact sh_none)).ok (sh_list (n := 0) (fun x hx => by rw [List.mem_singleton.mp hx]; exact sh_none)).ok))))) (fun z => ?_) (fun _ => gss_nil ?_))
  · rw [eqv_dI, eqv_dI, eqv_none1] at z
    simp at z
  refine gss_seq (gs_setP 11 (en_c (en_is (en_tup (ecs_cons (en_c en_int) (ecs_cons (en_c (en_lc (own := [("_law_house", 12)]) (xs := rgI 0 11) (enc := PyData.int) (c := fun _ => true) (f := fun h => encR (h, h + 1, 9)) (ei_range1 (en_a en_int) T.B.range (by decide) (by decide)) (fun h hm => ⟨_, _, fun s_ H_ C_ cl_ fp_ => at_name 12 sc_law.nd, by decide, fun s_ H_ C_ cl_ fp_ => ets_nil, fun _ => fun s_ H_ C_ cl_ fp_ => en_c (en_tup (ecs_cons ((ec_var 12)) (ecs_cons (en_c (en_add (ec_a (ec_var 12)) (en_a en_int))) (ecs_cons (en_c en_int) ecs_nil))))⟩)
      (blkOk_by (N := N_law) (sc := defScope st_law) (by decide +kernel)) sc_law.nd (by rw [rgI_len]; decide))) ecs_nil))) (d' := encN Nl) (by rw [filter_true]; rfl))) ?_ sc_law.nd)
  refine gss_one (gs_retP (en_and (en_eq hr.u4 (en_a (en_is (en_call ((ok_counts T).mono (by decide)) hr T.counts.g T.counts.F.kp T.counts.b (ecs_cons ((ec_var 11)) (ecs_cons (en_c (en_is (en_rep (k := 11) (en_a (en_lst (ecs_cons (en_c en_int) ecs_nil))) (ea_is (en_a en_int) rfl) (fun x hx => by rw [List.mem_singleton.mp hx]; rfl) (by decide) (by rw [sizeLine_eq]; decide)) (congrArg PyData.list (rep_dI 11 9)))) (ecs_cons (en_c (en_lst (ecs_cons (en_c en_int) ecs_nil))) ecs_nil))) (⟨Nl, nine, [0], rfl, okl, stOk_of (by decide +kernel), hsOk_of (by decide +kernel), rfl⟩)) (d' := dI ((rgI 0 12).map fun h => 9 * h)) (by rw [vl]; rfl))) (en_a (en_is (en_lc (own := [("_law_house", 12)]) (xs := rgI 0 12) (enc := PyData.int) (c := fun _ => true) (f := fun h => .int (9 * h)) (ei_range1 (en_a en_int) T.B.range (by decide) (by decide)) (fun h hm => ⟨_, _, fun s_ H_ C_ cl_ fp_ => at_name 12 sc_law.nd, by decide, fun s_ H_ C_ cl_ fp_ => ets_nil, fun _ => fun s_ H_ C_ cl_ fp_ => en_c (en_mul (en_a en_int) (ec_a (ec_var 12)) (.inl ⟨by decide, by decide⟩))⟩)
      (blkOk_by (N := N_law) (sc := defScope st_law) (by decide +kernel)) sc_law.nd (by rw [rgI_len]; decide)) (d' := dI ((rgI 0 12).map fun h => 9 * h)) (by rw [filter_true]; unfold dI; rw [List.map_map]; rfl))) (sh_dI _).ok (sh_dI _).ok)
    (fun _ => en_one (en_eq hr.u4 (en_a (en_is (en_call ((ok_last_standing T).mono (by decide)) hr T.last_standing.g T.last_standing.F.kp T.last_standing.b (ecs_cons ((ec_var 11)) (ecs_cons (en_c (en_is (en_rep (k := 11) (en_a (en_lst (ecs_cons (en_c en_int) ecs_nil))) (ea_is (en_a en_int) rfl) (fun x hx => by rw [List.mem_singleton.mp hx]; rfl) (by decide) (by rw [sizeLine_eq]; decide)) (congrArg PyData.list (rep_dI 11 9)))) (ecs_cons (en_c (en_lst (ecs_cons (en_c en_int) ecs_nil))) ecs_nil))) (⟨Nl, nine, [0], rfl, okl, stOk_of (by decide +kernel), hsOk_of (by decide +kernel), rfl⟩)) (d' := dI (List.replicate 11 0)) ll)) (en_a (en_is (en_rep (k := 11) (en_a (en_lst (ecs_cons (en_c en_int) ecs_nil))) (ea_is (en_a en_int) rfl) (fun x hx => by rw [List.mem_singleton.mp hx]; rfl) (by decide) (by rw [sizeLine_eq]; decide)) (congrArg PyData.list (rep_dI 11 0)))) (sh_dI _).ok (sh_dI _).ok))) ?_)
  rw [eqv_dI, eqv_dI]
  simp
end
end KR
/-! the plain law: walks, keys -/
namespace KR
open PySem L2
/-! ### walks, the last house first -/
inductive Wk (S : Int → Prop) (E : Int → Int → Prop) (w : Int → Int → Int) : List Int → Int → Prop
  | one {v : Int} : S v → Wk S E w [v] 0
  | cons {u v : Int} {p : List Int} {L : Int} : Wk S E w (u :: p) L → E u v → Wk S E w (v :: u :: p) (L + w u v)
section
variable {S : Int → Prop} {E : Int → Int → Prop} {w : Int → Int → Int}
theorem Wk.nn (hw : ∀ u v, E u v → 0 ≤ w u v) {p : List Int} {L : Int} (h : Wk S E w p L) : 0 ≤ L := by
  induction h with
  | one _ => exact Int.le_refl _
  | cons h e ih => have := hw _ _ e; omega
/-- what stands behind a house of the walk -/
theorem Wk.cut (hw : ∀ u v, E u v → 0 ≤ w u v) {p : List Int} {L : Int} (h : Wk S E w p L) : p.Nodup → ∀ c ∈ p, ∃ q M, Wk S E w (c :: q) M ∧ M ≤ L ∧ (c :: q).Nodup ∧ (c :: q).length ≤ p.length := by
  induction h with
  | one s =>
    intro nd c hc
    rw [List.mem_singleton.mp hc]
    exact ⟨[], 0, .one s, Int.le_refl _, nd, Nat.le_refl _⟩
  | @cons u v p L h e ih =>
    intro nd c hc
    have ew := hw _ _ e
    rcases List.mem_cons.mp hc with rfl | hc
    · exact ⟨_, _, .cons h e, Int.le_refl _, nd, Nat.le_refl _⟩
    · obtain ⟨q, M, h1, h2, h3, h4⟩ := ih (List.nodup_cons.mp nd).2 c hc
      exact ⟨q, M, h1, by omega, h3, by rw [List.length_cons (a := v)]; omega⟩
/-- no house twice -/
theorem Wk.short (hw : ∀ u v, E u v → 0 ≤ w u v) {p : List Int} {L : Int} (h : Wk S E w p L) : ∀ v q, p = v :: q → ∃ q' M, Wk S E w (v :: q') M ∧ M ≤ L ∧ (v :: q').Nodup := by
  induction h with
  | @one u s =>
    intro v q e
    injection e with e1 e2
    subst e1 e2
    exact ⟨[], 0, .one s, Int.le_refl _, by simp⟩
  | @cons u z p L h e ih =>
    intro v q he
    injection he with e1 e2
    subst e1 e2
    have ew := hw _ _ e
    obtain ⟨q', M, h1, h2, h3⟩ := ih u p rfl
    by_cases hz : z ∈ u :: q'
    · obtain ⟨q2, M2, k1, k2, k3, _⟩ := h1.cut hw h3 z hz
      exact ⟨q2, M2, k1, by omega, k3⟩
    · exact ⟨u :: q', M + w u z, .cons h1 e, by omega, List.nodup_cons.mpr ⟨hz, h3⟩⟩
theorem Wk.le {b : Int} (hw : ∀ u v, E u v → w u v ≤ b) {p : List Int} {L : Int} (h : Wk S E w p L) : L ≤ b * ((p.length : Int) - 1) := by
  induction h with
  | one _ => simp
  | @cons u v p L h e ih =>
    have := hw _ _ e
    rw [List.length_cons (a := v)]
    have e2 : b * (((u :: p).length + 1 : Nat) - 1 : Int) = b * (((u :: p).length : Int) - 1) + b := by
      rw [show (((u :: p).length + 1 : Nat) - 1 : Int) = (((u :: p).length : Int) - 1) + 1 by omega, Int.mul_add, Int.mul_one]
    omega
theorem Wk.in_ {R : Int → Prop} (hs : ∀ v, S v → R v) (he : ∀ u v, E u v → R v) {p : List Int} {L : Int} (h : Wk S E w p L) : ∀ v ∈ p, R v := by
  induction h with
  | one s => intro v hv; rw [List.mem_singleton.mp hv]; exact hs _ s
  | cons h e ih =>
    intro v hv
    rcases List.mem_cons.mp hv with rfl | hv
    · exact he _ _ e
    · exact ih v hv
end

/-! ### keys -/
section
variable {N : Net} {s : List Int}
theorem getD_at {s : List Int} {j : Nat} (h : j < s.length) : s[j]? = some (s.getD j 0) := by
  rw [List.getD_eq_getElem?_getD, List.getElem?_eq_getElem h]; rfl
/-- what is free ahead, and what is behind, make the road's keys -/
theorem key_bd (ok : NetOk N) (sok : StOk N s) {u v : Int} (h : Joined N u v) : 0 ≤ key N s u v ∧ key N s u v ≤ 9 := by
  obtain ⟨j, r, hj, o⟩ := h.at
  rw [key_at ok sok.len hj o]
  have lj := (List.getElem?_eq_some_iff.mp hj).1
  have hs := getD_at (s := s) (j := j) (by rw [sok.len]; exact lj)
  have b := sok.bd _ (List.mem_of_getElem? (show (s.zip N.rs)[j]? = some (s.getD j 0, r) from List.getElem?_zip_eq_some.mpr ⟨hs, hj⟩))
  have m9 := (ok.road r (List.mem_of_getElem? hj)).m9
  have b1 : 0 ≤ s.getD j 0 := b.1
  have b2 : s.getD j 0 ≤ r.2.2 := b.2
  split <;> omega
theorem behind_len (hl : s.length = N.rs.length) (x : List Int) : (behind N s x).length = N.rs.length := by
  unfold behind
  rw [List.length_map, List.length_zip]; omega
theorem behind_at {x : List Int} {j : Nat} {r : Road} (hl : s.length = N.rs.length) (hj : N.rs[j]? = some r) : (behind N s x).getD j 0 = s.getD j 0 + gI x r.1 - gI x r.2.1 := by
  have lj := (List.getElem?_eq_some_iff.mp hj).1
  have hs := getD_at (s := s) (j := j) (by rw [hl]; exact lj)
  rw [List.getD_eq_getElem?_getD]
  unfold behind
  rw [List.getElem?_map, show (s.zip N.rs)[j]? = some (s.getD j 0, r) from List.getElem?_zip_eq_some.mpr ⟨hs, hj⟩]
  rfl
/-- works move keys -/
theorem key_behind (ok : NetOk N) (hl : s.length = N.rs.length) {x : List Int} {u v : Int} (h : Joined N u v) : key N (behind N s x) u v = key N s u v + gI x u - gI x v := by
  obtain ⟨j, r, hj, o⟩ := h.at
  rw [key_at ok hl hj o, key_at ok (behind_len hl x) hj o, behind_at hl hj]
  have lt := (ok.road r (List.mem_of_getElem? hj)).lt
  unfold onR at o
  rcases o with ⟨e1, e2⟩ | ⟨e1, e2⟩
  · rw [e1, e2, if_pos (by omega), if_pos (by omega)]
  · rw [e1, e2, if_neg (by omega), if_neg (by omega)]
    omega
theorem gI_inc {x : List Int} {h u : Int} (h0 : 0 ≤ h) (hl : h.toNat < x.length) (u0 : 0 ≤ u) : gI (inc x h) u = gI x u + (if u = h then 1 else 0) := by
  unfold gI inc
  rw [List.getD_eq_getElem?_getD, List.getD_eq_getElem?_getD]
  by_cases e : u = h
  · subst e
    rw [List.getElem?_set_self hl, if_pos rfl]
    unfold gI
    rw [List.getD_eq_getElem?_getD]
    rfl
  · rw [List.getElem?_set_ne (by omega), if_neg e, Int.add_zero]
theorem wk_behind (ok : NetOk N) (hl : s.length = N.rs.length) {x : List Int} {h : Int} (h0 : 0 ≤ h) (h1 : h.toNat < x.length) : wk N (behind N s x) h = behind N s (inc x h) := by
  have lb := behind_len hl x
  refine List.ext_getElem? fun j => ?_
  by_cases hj : j < N.rs.length
  · have er : N.rs[j]? = some N.rs[j] := List.getElem?_eq_getElem hj
    have kr := ok.road _ (List.getElem_mem hj)
    have hs := getD_at (s := s) (j := j) (by rw [hl]; exact hj)
    have hb := getD_at (s := behind N s x) (j := j) (by rw [lb]; exact hj)
    rw [behind_at hl er] at hb
    unfold wk
    rw [List.getElem?_map, show ((behind N s x).zip N.rs)[j]? = some (s.getD j 0 + gI x N.rs[j].1 - gI x N.rs[j].2.1, N.rs[j]) from List.getElem?_zip_eq_some.mpr ⟨hb, er⟩]
    rw [show behind N s (inc x h) = (s.zip N.rs).map fun p => p.1 + gI (inc x h) p.2.1 - gI (inc x h) p.2.2.1 from rfl, List.getElem?_map, show (s.zip N.rs)[j]? = some (s.getD j 0, N.rs[j]) from List.getElem?_zip_eq_some.mpr ⟨hs, er⟩]
    show some (_ + (if decide (N.rs[j].1 = h) = true then (1 : Int) else 0) - (if decide (N.rs[j].2.1 = h) = true then 1 else 0)) = some (s.getD j 0 + gI (inc x h) N.rs[j].1 - gI (inc x h) N.rs[j].2.1)
    rw [gI_inc h0 h1 kr.lo, gI_inc h0 h1 (by have := kr.lo; have := kr.lt; omega)]
    simp only [decide_eq_true_iff]
    have := kr.lt
    congr 1
    split <;> split <;> omega
  · rw [List.getElem?_eq_none (by rw [wk_len lb]; omega), List.getElem?_eq_none (by rw [behind_len hl]; omega)]
theorem behind_zero (hl : s.length = N.rs.length) (k : Nat) : behind N s (List.replicate k 0) = s := by
  have z : ∀ i : Int, gI (List.replicate k 0) i = 0 := fun i => by
    unfold gI
    rw [List.getD_eq_getElem?_getD, List.getElem?_replicate]
    split <;> rfl
  refine List.ext_getElem? fun j => ?_
  by_cases hj : j < N.rs.length
  · have er : N.rs[j]? = some N.rs[j] := List.getElem?_eq_getElem hj
    have hs := getD_at (s := s) (j := j) (by rw [hl]; exact hj)
    have hb := getD_at (s := behind N s (List.replicate k 0)) (j := j) (by rw [behind_len hl]; exact hj)
    rw [hb, behind_at hl er, z, z, hs, Int.add_zero, Int.sub_zero]
  · rw [List.getElem?_eq_none (by rw [behind_len hl]; omega), List.getElem?_eq_none (by omega)]
end
end KR
/-! the plain law: lengths -/
namespace KR
open PySem L2
def AtL (f : Ct) (v L : Int) : Prop := ∃ a, gC f v = some a ∧ a ≤ L
theorem AtL.mono {f : Ct} {v L M : Int} (h : AtL f v L) (e : L ≤ M) : AtL f v M := by
  obtain ⟨a, h1, h2⟩ := h
  exact ⟨a, h1, by omega⟩
theorem gC_set {f : Ct} {v w : Int} {o : Option Int} (v0 : 0 ≤ v) (hv : v.toNat < f.length) (w0 : 0 ≤ w) : gC (f.set v.toNat o) w = if w = v then o else gC f w := by
  unfold gC
  rw [List.getD_eq_getElem?_getD, List.getD_eq_getElem?_getD]
  by_cases e : w = v
  · subst e
    rw [List.getElem?_set_self hv, if_pos rfl]; rfl
  · rw [List.getElem?_set_ne (by omega), if_neg e]
theorem relax_two (N : Net) (s : List Int) (f : Ct) (u v : Int) : relax1 N s f [u, v] = match gC f u with
    | none => f
    | some a => if better (a + key N s u v) (gC f v) then f.set v.toNat (some (a + key N s u v)) else f := rfl
section
variable {N : Net} {s hs : List Int}
theorem relax_at {f : Ct} {u v w L : Int} (v0 : 0 ≤ v) (hv : v.toNat < f.length) (w0 : 0 ≤ w) (h : AtL f w L) : AtL (relax1 N s f [u, v]) w L := by
  rw [relax_two]
  split
  · exact h
  · rename_i a ha
    split
    · rename_i hb
      obtain ⟨b, h1, h2⟩ := h
      unfold AtL
      rw [gC_set v0 hv w0]
      by_cases e : w = v
      · subst e
        rw [h1] at hb
        have hb' : a + key N s u w < b := of_decide_eq_true hb
        exact ⟨_, if_pos rfl, by omega⟩
      · exact ⟨b, by rw [if_neg e]; exact h1, h2⟩
    · exact h
theorem relax_edge {f : Ct} {u v L : Int} (v0 : 0 ≤ v) (hv : v.toNat < f.length) (h : AtL f u L) : AtL (relax1 N s f [u, v]) v (L + key N s u v) := by
  obtain ⟨a, h1, h2⟩ := h
  rw [relax_two, h1]
  show AtL (if better (a + key N s u v) (gC f v) = true then _ else _) _ _
  split
  · exact ⟨a + key N s u v, by rw [gC_set v0 hv v0, if_pos rfl], by omega⟩
  · rename_i hb
    cases q : gC f v with
    | none => rw [q] at hb; exact absurd rfl hb
    | some b =>
      rw [q] at hb
      have hb' : ¬ a + key N s u v < b := fun z => hb (decide_eq_true z)
      exact ⟨b, q, by omega⟩
theorem fold_at (ok : NetOk N) {w L : Int} (w0 : 0 ≤ w) : ∀ {ps : List (List Int)} {f : Ct}, (∀ p ∈ ps, p ∈ dirs N) → f.length = N.n.toNat → AtL f w L → AtL (ps.foldl (relax1 N s) f) w L
  | [], _, _, _, h => h
  | p :: ps, f, hp, hl, h => by
    obtain ⟨u, v, rfl, j⟩ := dir_of ok (hp p List.mem_cons_self)
    have bd := j.bd ok
    exact fold_at ok w0 (ps := ps) (fun q hq => hp q (List.mem_cons_of_mem _ hq)) ((relax1_len ..).trans hl) (relax_at (by omega) (by omega) w0 h)
theorem joined_dir {u v : Int} (h : Joined N u v) : [u, v] ∈ dirs N := by
  obtain ⟨r, hr, o⟩ := h
  refine mem_dirs.mpr ⟨r, hr, ?_⟩
  rcases o with ⟨e1, e2⟩ | ⟨e1, e2⟩
  · exact .inl (by rw [e1, e2])
  · exact .inr (by rw [e1, e2])
theorem round_edge (ok : NetOk N) {f : Ct} {u v L : Int} (hl : f.length = N.n.toNat) (j : Joined N u v) (h : AtL f u L) : AtL ((dirs N).foldl (relax1 N s) f) v (L + key N s u v) := by
  obtain ⟨l1, l2, e⟩ := List.append_of_mem (joined_dir j)
  have bd := j.bd ok
  have sub : ∀ p ∈ l1 ++ [u, v] :: l2, p ∈ dirs N := fun p hp => e ▸ hp
  rw [e, List.foldl_append, List.foldl_cons]
  have h1 := fold_at (s := s) ok (w := u) (by omega) (ps := l1) (fun p hp => sub p (List.mem_append_left _ hp)) hl h
  have hl1 : (l1.foldl (relax1 N s) f).length = N.n.toNat := (foldl_len ..).trans hl
  have h2 := relax_edge (N := N) (s := s) (v := v) (by omega) (by omega) h1
  exact fold_at ok (by omega) (fun p hp => sub p (List.mem_append_right _ (List.mem_cons_of_mem _ hp))) ((relax1_len ..).trans hl1) h2
theorem lenN_keep (ok : NetOk N) {v L : Int} (v0 : 0 ≤ v) {j : Nat} (h : AtL (lenN N s hs j) v L) : ∀ d, AtL (lenN N s hs (j + d)) v L
  | 0 => h
  | d + 1 => fold_at ok v0 (fun _ hp => hp) (lenN_len ..) (lenN_keep ok v0 h d)
theorem init_at {v : Int} (hv : 0 ≤ v ∧ v < N.n) : gC (init0 N hs) v = if v ∈ hs then some 0 else none := by
  unfold gC init0
  rw [List.getD_eq_getElem?_getD, List.getElem?_map, rgI_at (by omega)]
  rw [show (0 : Int) + ((v.toNat : Nat) : Int) = v by omega]
  rfl
abbrev Src (N : Net) (hs : List Int) (v : Int) : Prop := v ∈ hs ∧ 0 ≤ v ∧ v < N.n
abbrev WkL (N : Net) (s hs : List Int) : List Int → Int → Prop := Wk (Src N hs) (Joined N) (key N s)
theorem walk_at (ok : NetOk N) {p : List Int} {L : Int} (h : WkL N s hs p L) : ∀ v q, p = v :: q → ∀ k, q.length ≤ k → AtL (lenN N s hs k) v L := by
  induction h with
  | @one u src =>
    intro v q e k _
    injection e with e1 _
    subst e1
    have := lenN_keep (s := s) (hs := hs) ok src.2.1 (j := 0) (L := 0) ⟨0, by show gC (init0 N hs) u = _; rw [init_at src.2, if_pos src.1], Int.le_refl _⟩ k
    rw [Nat.zero_add] at this
    exact this
  | @cons u z p L h e ih =>
    intro v q he k hk
    injection he with e1 e2
    subst e1 e2
    obtain ⟨k', rfl⟩ : ∃ k', k = k' + 1 := ⟨k - 1, by rw [List.length_cons] at hk; omega⟩
    exact round_edge ok (lenN_len ..) e (ih u p rfl k' (by rw [List.length_cons] at hk; omega))
/-- each number comes from a walk -/
def Real (N : Net) (s hs : List Int) (f : Ct) : Prop := ∀ v a, 0 ≤ v → gC f v = some a → ∃ p, WkL N s hs (v :: p) a
theorem real_relax {f : Ct} (ok : NetOk N) (hl : f.length = N.n.toNat) {u v : Int} (j : Joined N u v) (h : Real N s hs f) : Real N s hs (relax1 N s f [u, v]) := by
  have bd := j.bd ok
  rw [relax_two]
  split
  · exact h
  · rename_i a ha
    split
    · intro w b w0 hw
      rw [gC_set (by omega) (by omega) w0] at hw
      by_cases e : w = v
      · subst e
        rw [if_pos rfl] at hw
        cases hw
        obtain ⟨p, hp⟩ := h u a (by omega) ha
        exact ⟨_, .cons hp j⟩
      · rw [if_neg e] at hw
        exact h w b w0 hw
    · exact h
theorem real_fold (ok : NetOk N) : ∀ {ps : List (List Int)} {f : Ct}, (∀ p ∈ ps, p ∈ dirs N) → f.length = N.n.toNat → Real N s hs f → Real N s hs (ps.foldl (relax1 N s) f)
  | [], _, _, _, h => h
  | p :: ps, f, hp, hl, h => by
    obtain ⟨u, v, rfl, j⟩ := dir_of ok (hp p List.mem_cons_self)
    exact real_fold ok (ps := ps) (fun q hq => hp q (List.mem_cons_of_mem _ hq)) ((relax1_len ..).trans hl) (real_relax ok hl j h)
theorem gC_lt {f : Ct} {v a : Int} (h : gC f v = some a) (v0 : 0 ≤ v) : v.toNat < f.length := by
  unfold gC at h
  rw [List.getD_eq_getElem?_getD] at h
  cases q : f[v.toNat]? with
  | none => rw [q] at h; cases h
  | some o => exact (List.getElem?_eq_some_iff.mp q).1
theorem real_len (ok : NetOk N) : ∀ k, Real N s hs (lenN N s hs k)
  | 0 => fun v a v0 h => by
    have lt := gC_lt h v0
    have hl : (lenN N s hs 0).length = N.n.toNat := lenN_len ..
    have hv : 0 ≤ v ∧ v < N.n := ⟨v0, by omega⟩
    have h' : gC (init0 N hs) v = some a := h
    rw [init_at hv] at h'
    split at h'
    · cases h'
      exact ⟨[], .one ⟨by assumption, hv⟩⟩
    · cases h'
  | k + 1 => real_fold ok (fun _ hp => hp) (lenN_len ..) (real_len ok k)
/-- the lengths after as many rounds as there are houses -/
abbrev Dn (N : Net) (s hs : List Int) : Ct := lenN N s hs N.n.toNat
theorem range_walk (ok : NetOk N) {p : List Int} {L : Int} (h : WkL N s hs p L) : ∀ v ∈ p, 0 ≤ v ∧ v < N.n := h.in_ (R := fun v => 0 ≤ v ∧ v < N.n) (fun _ h => h.2) fun u v j => by
  have := j.bd ok
  omega
theorem d_short (ok : NetOk N) (sok : StOk N s) {v : Int} {p : List Int} {L : Int} (h : WkL N s hs (v :: p) L) : ∃ M, AtL (Dn N s hs) v M ∧ M ≤ L ∧ M ≤ 108 := by
  have n1 := ok.n1
  have n12 := ok.n12
  obtain ⟨q, M, h1, h2, h3⟩ := h.short (fun u v j => (key_bd ok sok j).1) v p rfl
  have lq := nodup_few N.n.toNat (lo := 0) h3 fun z hz => by
    have := range_walk ok h1 z hz
    omega
  rw [List.length_cons] at lq
  have le := h1.le (b := 9) fun u v j => (key_bd ok sok j).2
  rw [List.length_cons] at le
  exact ⟨M, walk_at ok h1 v q rfl _ (by omega), h2, by omega⟩
theorem d_conv (ok : NetOk N) (sok : StOk N s) {u v L : Int} (j : Joined N u v) (h : AtL (Dn N s hs) u L) : AtL (Dn N s hs) v (L + key N s u v) := by
  have bd := j.bd ok
  obtain ⟨a, h1, h2⟩ := h
  obtain ⟨p, hp⟩ := real_len ok _ u a (by omega) h1
  obtain ⟨M, k1, k2, _⟩ := d_short ok sok (Wk.cons hp j)
  exact k1.mono (by omega)
theorem d_small (ok : NetOk N) (sok : StOk N s) {v a : Int} (v0 : 0 ≤ v) (h : gC (Dn N s hs) v = some a) : 0 ≤ a ∧ a ≤ 108 := by
  obtain ⟨p, hp⟩ := real_len ok _ v a v0 h
  obtain ⟨M, ⟨b, k0, k1⟩, _, k3⟩ := d_short ok sok hp
  rw [h] at k0
  cases k0
  exact ⟨hp.nn fun u v j => (key_bd ok sok j).1, by omega⟩
theorem fold_fix (ok : NetOk N) (sok : StOk N s) : ∀ {ps : List (List Int)}, (∀ p ∈ ps, p ∈ dirs N) → ps.foldl (relax1 N s) (Dn N s hs) = Dn N s hs
  | [], _ => rfl
  | p :: ps, hp => by
    obtain ⟨u, v, rfl, j⟩ := dir_of ok (hp p List.mem_cons_self)
    have e : relax1 N s (Dn N s hs) [u, v] = Dn N s hs := by
      rw [relax_two]
      split
      · rfl
      · rename_i a ha
        obtain ⟨b, h1, h2⟩ := d_conv ok sok j ⟨a, ha, Int.le_refl _⟩
        rw [h1, if_neg]
        intro z
        have : a + key N s u v < b := of_decide_eq_true z
        omega
    rw [List.foldl_cons, e]
    exact fold_fix ok sok fun q hq => hp q (List.mem_cons_of_mem _ hq)
theorem len_fix (ok : NetOk N) (sok : StOk N s) : lenN N s hs (N.n.toNat + 1) = lenN N s hs N.n.toNat := fold_fix ok sok fun _ hp => hp
end
end KR
/-! the plain law: stuck houses -/
namespace KR
open PySem L2
def Zs (N : Net) (s : List Int) (u v : Int) : Prop := Joined N u v ∧ key N s u v = 0
inductive ZR (N : Net) (s : List Int) (u : Int) : Int → Prop
  | one {v : Int} : Zs N s u v → ZR N s u v
  | step {w v : Int} : ZR N s u w → Zs N s w v → ZR N s u v
abbrev WZ (N : Net) (s : List Int) (h : Int) : List Int → Int → Prop := Wk (Zs N s h) (Zs N s) (fun _ _ => 0)
section
variable {N : Net} {s : List Int}
theorem ZR.walk {h v : Int} (z : ZR N s h v) : ∃ p L, WZ N s h (v :: p) L := by
  induction z with
  | one e => exact ⟨[], 0, .one e⟩
  | step _ e ih =>
    obtain ⟨p, L, w⟩ := ih
    exact ⟨_, _, .cons w e⟩
theorem ZR.short {h v : Int} (z : ZR N s h v) : ∃ p L, WZ N s h (v :: p) L ∧ (v :: p).Nodup := by
  obtain ⟨p, L, w⟩ := z.walk
  obtain ⟨q, M, h1, _, h3⟩ := w.short (fun _ _ _ => Int.le_refl _) v p rfl
  exact ⟨q, M, h1, h3⟩
theorem nodup_sub : ∀ {l m : List Int}, l.Nodup → (∀ x ∈ l, x ∈ m) → l.length ≤ m.length
  | [], _, _, _ => Nat.zero_le _
  | x :: l, m, nd, sub => by
    have hx := sub x List.mem_cons_self
    have nd' := List.nodup_cons.mp nd
    have ih := nodup_sub (l := l) (m := m.erase x) nd'.2 fun y hy => (List.mem_erase_of_ne fun z => nd'.1 (by rw [← z]; exact hy)).mpr (sub y (List.mem_cons_of_mem _ hy))
    have := (List.perm_cons_erase hx).length_eq
    rw [List.length_cons] at this ⊢
    omega
theorem rch_up {h v : Int} {j : Nat} (hv : v ∈ rch N s h j) : ∀ d, v ∈ rch N s h (j + d)
  | 0 => hv
  | d + 1 => List.mem_append_left _ (rch_up hv d)
theorem rchL_up {h v : Int} {j : Nat} (hv : v ∈ rchL N s h j) : ∀ d, v ∈ rchL N s h (j + d)
  | 0 => hv
  | d + 1 => List.mem_append_left _ (rchL_up hv d)
theorem rch_of (ok : NetOk N) {h : Int} : ∀ k v, v ∈ rch N s h k → ZR N s h v
  | 0, v, hv => .one ((out_mem ok).mp hv)
  | k + 1, v, hv => by
    rcases List.mem_append.mp hv with hv | hv
    · exact rch_of ok k v hv
    · obtain ⟨u, hu, e⟩ := (freeA_mem ok).mp (List.mem_filter.mp hv).1
      exact .step (rch_of ok k u hu) e
theorem rch_to (ok : NetOk N) {h : Int} {p : List Int} {L : Int} (w : WZ N s h p L) : ∀ v q, p = v :: q → ∀ k, q.length ≤ k → v ∈ rch N s h k := by
  induction w with
  | @one u e =>
    intro v q he k _
    injection he with e1 _
    subst e1
    have := rch_up (s := s) (j := 0) (show u ∈ rch N s h 0 from (out_mem ok).mpr e) k
    rw [Nat.zero_add] at this
    exact this
  | @cons u z p L w e ih =>
    intro v q he k hk
    injection he with e1 e2
    subst e1 e2
    obtain ⟨k', rfl⟩ : ∃ k', k = k' + 1 := ⟨k - 1, by rw [List.length_cons] at hk; omega⟩
    have hu := ih u p rfl k' (by rw [List.length_cons] at hk; omega)
    by_cases hz : z ∈ rch N s h k'
    · exact List.mem_append_left _ hz
    · exact List.mem_append_right _ (List.mem_filter.mpr ⟨(freeA_mem ok).mpr ⟨u, hu, e⟩, decide_eq_true hz⟩)
theorem steps_mem (ok : NetOk N) {u v : Int} : [u, v] ∈ stepsL N s ↔ Zs N s u v := by
  constructor
  · intro h
    obtain ⟨u', v', e, j, k⟩ := step_of ok h
    injection e with e1 e2
    injection e2 with e2 _
    subst e1 e2
    exact ⟨j, k⟩
  · rintro ⟨j, k⟩
    exact List.mem_filter.mpr ⟨joined_dir j, decide_eq_true k⟩
theorem rchL_of (ok : NetOk N) {h : Int} : ∀ k v, v ∈ rchL N s h k → ZR N s h v
  | 0, v, hv => by
    obtain ⟨p, hp, e⟩ := List.mem_map.mp hv
    obtain ⟨hp, q⟩ := List.mem_filter.mp hp
    obtain ⟨a, b, rfl, j, k⟩ := step_of ok hp
    have q' : a = h := of_decide_eq_true q
    have e' : b = v := e
    subst q' e'
    exact .one ⟨j, k⟩
  | k + 1, v, hv => by
    rcases List.mem_append.mp hv with hv | hv
    · exact rchL_of ok k v hv
    · obtain ⟨p, hp, e⟩ := List.mem_map.mp hv
      obtain ⟨hp, q⟩ := List.mem_filter.mp hp
      obtain ⟨a, b, rfl, j, z⟩ := step_of ok hp
      rw [Bool.and_eq_true] at q
      have q' : a ∈ rchL N s h k := of_decide_eq_true q.1
      have e' : b = v := e
      subst e'
      exact .step (rchL_of ok k a q') ⟨j, z⟩
theorem rchL_to (ok : NetOk N) {h : Int} {p : List Int} {L : Int} (w : WZ N s h p L) : ∀ v q, p = v :: q → ∀ k, q.length ≤ k → v ∈ rchL N s h k := by
  induction w with
  | @one u e =>
    intro v q he k _
    injection he with e1 _
    subst e1
    have := rchL_up (s := s) (j := 0) (show u ∈ rchL N s h 0 from List.mem_map.mpr ⟨[h, u], List.mem_filter.mpr ⟨(steps_mem ok).mpr e, decide_eq_true rfl⟩, rfl⟩) k
    rw [Nat.zero_add] at this
    exact this
  | @cons u z p L w e ih =>
    intro v q he k hk
    injection he with e1 e2
    subst e1 e2
    obtain ⟨k', rfl⟩ : ∃ k', k = k' + 1 := ⟨k - 1, by rw [List.length_cons] at hk; omega⟩
    have hu := ih u p rfl k' (by rw [List.length_cons] at hk; omega)
    by_cases hz : z ∈ rchL N s h k'
    · exact List.mem_append_left _ hz
    · refine List.mem_append_right _ (List.mem_map.mpr ⟨[u, z], List.mem_filter.mpr ⟨(steps_mem ok).mpr e, ?_⟩, rfl⟩)
      rw [Bool.and_eq_true]
      exact ⟨decide_eq_true hu, decide_eq_true hz⟩
theorem joined_hs {u v : Int} (j : Joined N u v) : v ∈ hsR N := by
  obtain ⟨r, hr, o⟩ := j
  rcases o with ⟨_, e⟩ | ⟨e, _⟩
  · exact hsR_mem.mpr ⟨r, hr, .inr e.symm⟩
  · exact hsR_mem.mpr ⟨r, hr, .inl e.symm⟩
theorem ZR.in_ {h v : Int} (z : ZR N s h v) : v ∈ hsR N := by
  cases z with
  | one e => exact joined_hs e.1
  | step _ e => exact joined_hs e.1
theorem stk_mem (ok : NetOk N) {h : Int} : h ∈ stk N s ↔ ZR N s h h := by
  constructor
  · intro hh
    exact rch_of ok _ h (of_decide_eq_true (List.mem_filter.mp hh).2)
  · intro z
    obtain ⟨p, L, w, nd⟩ := z.short
    have l := nodup_sub nd fun x hx => w.in_ (R := fun v => v ∈ hsR N) (fun v e => joined_hs e.1) (fun u v e => joined_hs e.1) x hx
    rw [List.length_cons] at l
    exact List.mem_filter.mpr ⟨z.in_, decide_eq_true (rch_to ok w h p rfl _ (by omega))⟩
theorem stkL_mem (ok : NetOk N) {h : Int} : h ∈ stkL N s ↔ ZR N s h h := by
  constructor
  · intro hh
    exact rchL_of ok _ h (of_decide_eq_true (List.mem_filter.mp hh).2)
  · intro z
    obtain ⟨p, L, w, nd⟩ := z.short
    have n1 := ok.n1
    have l := nodup_few N.n.toNat (lo := 0) nd fun x hx => by
      have := hsR_bd ok (w.in_ (R := fun v => v ∈ hsR N) (fun v e => joined_hs e.1) (fun u v e => joined_hs e.1) x hx)
      omega
    rw [List.length_cons] at l
    exact List.mem_filter.mpr ⟨mem_rgI.mpr (hsR_bd ok z.in_), decide_eq_true (rchL_to ok w h p rfl _ (by omega))⟩
theorem ends_same (ok : NetOk N) (rest : List Int) : endsL N s rest = ends N s rest :=
  strict_eq (srtU_srt _) (srtU_srt _) fun z => by
    unfold endsL ends
    rw [srtU_mem, srtU_mem, List.mem_append, List.mem_append, stk_mem ok, stkL_mem ok]
theorem cnt_same (ok : NetOk N) (sok : StOk N s) (rest : List Int) : cntL N s rest = cnt N s rest := by
  unfold cntL cnt
  rw [ends_same ok, len_fix ok sok]
theorem ends_mem (ok : NetOk N) {rest : List Int} {h : Int} : h ∈ ends N s rest ↔ h ∈ rest ∨ ZR N s h h := by
  unfold ends
  rw [srtU_mem, List.mem_append, stk_mem ok]
end
end KR
/-! the plain law: what works do -/
namespace KR
open PySem L2
/-- the works so far -/
structure Good (N : Net) (s rest x : List Int) : Prop where
  len : x.length = N.n.toNat
  ed : ∀ u v, Joined N u v → gI x v ≤ gI x u + key N s u v
  end_ : ∀ e ∈ ends N s rest, gI x e = 0
section
variable {N : Net} {s rest : List Int}
theorem gI_zero (k : Nat) (i : Int) : gI (List.replicate k 0) i = 0 := by
  unfold gI
  rw [List.getD_eq_getElem?_getD, List.getElem?_replicate]
  split <;> rfl
theorem good_zero (ok : NetOk N) (sok : StOk N s) : Good N s rest (List.replicate N.n.toNat 0) :=
  ⟨List.length_replicate, fun u v j => by rw [gI_zero, gI_zero]; have := (key_bd ok sok j).1; omega, fun e _ => gI_zero _ _⟩
theorem ZR.le {x : List Int} (g : Good N s rest x) {u v : Int} (z : ZR N s u v) : gI x v ≤ gI x u := by
  induction z with
  | one e => have := g.ed _ _ e.1; rw [e.2] at this; omega
  | step _ e ih => have := g.ed _ _ e.1; rw [e.2] at this; omega
theorem can_iff (ok : NetOk N) {th : List Int} {h : Int} : can N th h = true ↔ ∀ m, Joined N m h → key N th m h ≠ 0 := by
  unfold can
  rw [List.isEmpty_iff, List.filter_eq_nil_iff]
  constructor
  · intro q m j z
    exact q m ((nb_mem ok).mpr j.symm) (decide_eq_true z)
  · intro q m hm z
    exact q m ((nb_mem ok).mp hm).symm (of_decide_eq_true z)
theorem can_gap (ok : NetOk N) (sok : StOk N s) {x : List Int} (g : Good N s rest x) {h : Int} (c : can N (behind N s x) h = true) {m : Int} (j : Joined N m h) : gI x h + 1 ≤ gI x m + key N s m h := by
  have h1 := (can_iff ok).mp c m j
  rw [key_behind ok sok.len j] at h1
  have h2 := g.ed m h j
  omega
theorem ends_bd (ok : NetOk N) (rok : HsOk N rest) {e : Int} (h : e ∈ ends N s rest) : 0 ≤ e ∧ e < N.n := by
  rcases (ends_mem ok).mp h with z | z
  · exact rok.bd e z
  · exact hsR_bd ok z.in_
/-- a work that can be done -/
theorem good_inc (ok : NetOk N) (sok : StOk N s) (rok : HsOk N rest) {x : List Int} (g : Good N s rest x) {h : Int} (h0 : 0 ≤ h) (h1 : h < N.n) (hr : h ∉ rest) (c : can N (behind N s x) h = true) : Good N s rest (inc x h) := by
  have hl : h.toNat < x.length := by rw [g.len]; omega
  have notEnd : h ∉ ends N s rest := fun z => by
    rcases (ends_mem ok).mp z with z | z
    · exact hr z
    · have last : ∃ m, Zs N s m h ∧ (m = h ∨ ZR N s h m) := by
        cases z with
        | one e => exact ⟨h, e, .inl rfl⟩
        | step w e => exact ⟨_, e, .inr w⟩
      obtain ⟨m, e, w⟩ := last
      have gap := can_gap ok sok g c e.1
      rw [e.2] at gap
      rcases w with rfl | w
      · omega
      · have := w.le g
        omega
  refine ⟨(inc_len _ _).trans g.len, fun u v j => ?_, fun e he => ?_⟩
  · have bd := j.bd ok
    rw [gI_inc h0 hl (by omega), gI_inc h0 hl (by omega)]
    have := g.ed u v j
    by_cases e : v = h
    · subst e
      have := can_gap ok sok g c j
      rw [if_pos rfl, if_neg (by omega)]
      omega
    · rw [if_neg e]
      split <;> omega
  · have hne : e ≠ h := fun z => notEnd (by rw [← z]; exact he)
    rw [gI_inc h0 hl (ends_bd ok rok he).1, g.end_ e he, if_neg hne]; rfl
/-! ### never more than is due -/
theorem walk_up {x : List Int} (g : Good N s rest x) {p : List Int} {L : Int} (w : WkL N s (ends N s rest) p L) : ∀ v q, p = v :: q → gI x v ≤ L := by
  induction w with
  | one src =>
    intro v q e
    injection e with e1 _
    subst e1
    rw [g.end_ _ src.1]; exact Int.le_refl _
  | @cons u z p L w e ih =>
    intro v q he
    injection he with e1 _
    subst e1
    have := ih u p rfl
    have := g.ed _ _ e
    omega
theorem due_up (ok : NetOk N) {x : List Int} (g : Good N s rest x) {v a : Int} (v0 : 0 ≤ v) (h : gC (cnt N s rest) v = some a) : gI x v ≤ a := by
  obtain ⟨p, w⟩ := real_len ok _ v a v0 h
  exact walk_up g w v p rfl
theorem due_end (ok : NetOk N) (rok : HsOk N rest) {e : Int} (h : e ∈ ends N s rest) : AtL (cnt N s rest) e 0 := walk_at ok (Wk.one ⟨h, ends_bd ok rok h⟩) e [] rfl _ (Nat.zero_le _)
/-! ### a run -/
theorem tally_nil : tally N [] = List.replicate N.n.toNat 0 := by
  unfold tally
  show (rgI 0 N.n).map (fun _ => ((0 : Nat) : Int)) = _
  rw [List.map_const', rgI_len, Int.sub_zero]; rfl
theorem tally_len (run : List Int) : (tally N run).length = N.n.toNat := by
  unfold tally
  rw [List.length_map, rgI_len, Int.sub_zero]
theorem tally_at (run : List Int) {i : Nat} (h : i < N.n.toNat) : (tally N run)[i]? = some ((run.filter fun u => decide (u = (i : Int))).length : Int) := by
  unfold tally
  rw [List.getElem?_map, rgI_at (by omega), Int.zero_add]; rfl
theorem tally_snoc (run : List Int) {h : Int} (h0 : 0 ≤ h) (h1 : h < N.n) : tally N (run ++ [h]) = inc (tally N run) h := by
  refine List.ext_getElem? fun i => ?_
  by_cases hi : i < N.n.toNat
  · rw [tally_at _ hi]
    unfold inc
    by_cases e : i = h.toNat
    · rw [e, List.getElem?_set_self (by rw [tally_len]; omega)]
      unfold gI
      rw [List.getD_eq_getElem?_getD, tally_at _ (by omega), List.filter_append]
      rw [show ((h.toNat : Nat) : Int) = h by omega]
      simp
    · rw [List.getElem?_set_ne (fun z => e z.symm), tally_at _ hi, List.filter_append]
      have : ¬ h = (i : Int) := by omega
      simp [this]
  · rw [List.getElem?_eq_none (by rw [tally_len]; omega), List.getElem?_eq_none (by rw [inc_len, tally_len]; omega)]
theorem run_good (ok : NetOk N) (sok : StOk N s) (rok : HsOk N rest) {run th : List Int} (r : RunOf N rest s run th) : th = behind N s (tally N run) ∧ Good N s rest (tally N run) ∧ run.foldl (step1 N) (s, List.replicate N.n.toNat 0) = (th, tally N run) := by
  induction r with
  | nil => exact ⟨by rw [tally_nil, behind_zero sok.len], by rw [tally_nil]; exact good_zero ok sok, by rw [tally_nil]; rfl⟩
  | @snoc run th h r m ih =>
    obtain ⟨e, g, f⟩ := ih
    obtain ⟨⟨h0, h1⟩, hr, c⟩ := able_mem.mp m
    subst e
    have hl : h.toNat < (tally N run).length := by rw [tally_len]; omega
    rw [tally_snoc run h0 h1]
    refine ⟨wk_behind ok sok.len h0 hl, good_inc ok sok rok g h0 h1 hr c, ?_⟩
    rw [List.foldl_append, f]; rfl
/-! ### a round -/
theorem fold2_good (ok : NetOk N) (sok : StOk N s) (rok : HsOk N rest) : ∀ (l : List Int) (x : List Int), (∀ h ∈ l, (0 ≤ h ∧ h < N.n) ∧ h ∉ rest) → Good N s rest x →
    ∃ y, l.foldl (step2 N) (behind N s x, x) = (behind N s y, y) ∧ Good N s rest y ∧ (∀ u, 0 ≤ u → gI x u ≤ gI y u) ∧ ∀ u, 0 ≤ u → u ∉ l → gI y u = gI x u
  | [], x, _, g => ⟨x, rfl, g, fun _ _ => Int.le_refl _, fun _ _ _ => rfl⟩
  | h :: l, x, hl, g => by
    obtain ⟨⟨h0, h1⟩, hr⟩ := hl h List.mem_cons_self
    have hx : h.toNat < x.length := by rw [g.len]; omega
    have hl' := fun u hu => hl u (List.mem_cons_of_mem _ hu)
    by_cases c : can N (behind N s x) h = true
    · obtain ⟨y, e, gy, mono, same⟩ := fold2_good ok sok rok l (inc x h) hl' (good_inc ok sok rok g h0 h1 hr c)
      refine ⟨y, ?_, gy, fun u u0 => ?_, fun u u0 hu => ?_⟩
      · rw [List.foldl_cons, ← e, ← wk_behind ok sok.len h0 hx]
        unfold step2
        rw [if_pos c]; rfl
      · have := mono u u0
        rw [gI_inc h0 hx u0] at this
        split at this <;> omega
      · rw [same u u0 fun z => hu (List.mem_cons_of_mem _ z), gI_inc h0 hx u0, if_neg fun z => hu (by rw [z]; exact List.mem_cons_self), Int.add_zero]
    · obtain ⟨y, e, gy, mono, same⟩ := fold2_good ok sok rok l x hl' g
      refine ⟨y, ?_, gy, mono, fun u u0 hu => same u u0 fun z => hu (List.mem_cons_of_mem _ z)⟩
      rw [List.foldl_cons, ← e]
      congr 1
      unfold step2
      rw [if_neg c]
theorem able_lt (th : List Int) : (able N th rest).Pairwise (· < ·) := (rg_ok (N := N)).asc.filter _
theorem turn_good (ok : NetOk N) (sok : StOk N s) (rok : HsOk N rest) {x : List Int} (g : Good N s rest x) : ∃ y, turn2 N rest (behind N s x, x) = (behind N s y, y) ∧ Good N s rest y ∧ (∀ u, 0 ≤ u → gI x u ≤ gI y u) ∧ ∀ h ∈ able N (behind N s x) rest, gI x h + 1 ≤ gI y h := by
  have inl : ∀ h ∈ able N (behind N s x) rest, (0 ≤ h ∧ h < N.n) ∧ h ∉ rest := fun h hh => ⟨(able_mem.mp hh).1, (able_mem.mp hh).2.1⟩
  obtain ⟨y, e, gy, mono, _⟩ := fold2_good ok sok rok (able N (behind N s x) rest) x inl g
  refine ⟨y, e, gy, mono, fun h hh => ?_⟩
  obtain ⟨l1, l2, el⟩ := List.append_of_mem hh
  have pw := able_lt (N := N) (rest := rest) (behind N s x)
  have c0 := (able_mem.mp hh).2.2
  obtain ⟨⟨h0, h1⟩, hr⟩ := inl h hh
  rw [el] at e inl pw
  have nl : h ∉ l1 := fun z => by
    have := (List.pairwise_append.mp pw).2.2 h z h List.mem_cons_self
    omega
  obtain ⟨y1, e1, g1, m1, s1⟩ := fold2_good ok sok rok l1 x (fun u hu => inl u (List.mem_append_left _ hu)) g
  have hy : h.toNat < y1.length := by rw [g1.len]; omega
  have c1 : can N (behind N s y1) h = true := (can_iff ok).mpr fun m j z => by
    rw [key_behind ok sok.len j, s1 h h0 nl] at z
    have := can_gap ok sok g c0 j
    have := m1 m (by have := j.bd ok; omega)
    omega
  obtain ⟨y2, e2, g2, m2, _⟩ := fold2_good ok sok rok l2 (inc y1 h) (fun u hu => inl u (List.mem_append_right _ (List.mem_cons_of_mem _ hu))) (good_inc ok sok rok g1 h0 h1 hr c1)
  have : y = y2 := by
    rw [List.foldl_append, e1, List.foldl_cons] at e
    have st : step2 N (behind N s y1, y1) h = (behind N s (inc y1 h), inc y1 h) := by
      unfold step2
      rw [if_pos c1]
      show (wk N (behind N s y1) h, inc y1 h) = _
      rw [wk_behind ok sok.len h0 hy]
    rw [st, e2] at e
    exact (congrArg Prod.snd e).symm
  subst this
  have := m2 h h0
  rw [gI_inc h0 hy h0, if_pos rfl, s1 h h0 nl] at this
  exact this
end
end KR
/-! the plain law: in as many rounds as there are houses each unfinished house works -/
namespace KR
open PySem L2
section
variable {N : Net} {s rest : List Int}
/-- houses that wait, each for the next -/
inductive Ch (N : Net) (s x : List Int) : List Int → Prop
  | one (v : Int) : Ch N s x [v]
  | cons {m h : Int} {p : List Int} : Ch N s x (m :: p) → Joined N m h → gI x h = gI x m + key N s m h → Ch N s x (h :: m :: p)
variable {x : List Int}
theorem Ch.down (ok : NetOk N) (sok : StOk N s) {c : Int} (hc : AtL (cnt N s rest) c (gI x c)) {l : List Int} (h : Ch N s x l) : ∀ v q, l = v :: q → c ∈ l → AtL (cnt N s rest) v (gI x v) := by
  induction h with
  | one u =>
    intro v q e hm
    injection e with e1 _
    subst e1
    rw [List.mem_singleton.mp hm] at hc
    exact hc
  | @cons m h p w j e ih =>
    intro v q he hm
    injection he with e1 _
    subst e1
    rcases List.mem_cons.mp hm with rfl | hm
    · exact hc
    · rw [e]
      exact d_conv ok sok j (ih m p rfl hm)
theorem Ch.le (ok : NetOk N) (sok : StOk N s) {l : List Int} (h : Ch N s x l) : ∀ v q, l = v :: q → ∀ c ∈ l, gI x c ≤ gI x v := by
  induction h with
  | one u =>
    intro v q e c hm
    injection e with e1 _
    subst e1
    rw [List.mem_singleton.mp hm]; exact Int.le_refl _
  | @cons m h p w j e ih =>
    intro v q he c hm
    injection he with e1 _
    subst e1
    rcases List.mem_cons.mp hm with rfl | hm
    · exact Int.le_refl _
    · have := ih m p rfl c hm
      have := (key_bd ok sok j).1
      omega
theorem Ch.eq (ok : NetOk N) (sok : StOk N s) {l : List Int} (h : Ch N s x l) : ∀ v q, l = v :: q → ∀ c ∈ q, gI x c = gI x v → ZR N s c v := by
  induction h with
  | one u =>
    intro v q e c hm
    injection e with _ e2
    subst e2
    cases hm
  | @cons m h p w j e ih =>
    intro v q he c hm hx
    injection he with e1 e2
    subst e1 e2
    have l1 := w.le ok sok m p rfl c hm
    have k0 := (key_bd ok sok j).1
    have z : Zs N s m h := ⟨j, by omega⟩
    rcases List.mem_cons.mp hm with rfl | hm
    · exact .one z
    · exact .step (ih m p rfl c hm (by omega)) z
theorem Ch.cyc (ok : NetOk N) (sok : StOk N s) {l : List Int} (h : Ch N s x l) : ¬ l.Nodup → ∃ c ∈ l, ZR N s c c := by
  induction h with
  | one u => intro nd; exact absurd (by simp) nd
  | @cons m h p w j e ih =>
    intro nd
    by_cases hm : h ∈ m :: p
    · exact ⟨h, List.mem_cons_self, (Ch.cons w j e).eq ok sok h _ rfl h hm rfl⟩
    · obtain ⟨c, hc, z⟩ := ih fun q => nd (List.nodup_cons.mpr ⟨hm, q⟩)
      exact ⟨c, List.mem_cons_of_mem _ hc, z⟩
theorem Ch.in_ (ok : NetOk N) {l : List Int} (h : Ch N s x l) : ∀ v q, l = v :: q → 0 ≤ v ∧ v < N.n → ∀ c ∈ l, 0 ≤ c ∧ c < N.n := by
  induction h with
  | one u =>
    intro v q e hv c hm
    injection e with e1 _
    subst e1
    rw [List.mem_singleton.mp hm]; exact hv
  | @cons m h p w j e ih =>
    intro v q he hv c hm
    injection he with e1 _
    subst e1
    rcases List.mem_cons.mp hm with rfl | hm
    · exact hv
    · have := j.bd ok
      exact ih m p rfl (by omega) c hm

/-! ### rounds -/
/-- the works after t rounds -/
def Xt (N : Net) (s rest x0 : List Int) (t : Nat) : List Int := (rep (turn2 N rest) t (behind N s x0, x0)).2
theorem xt_good (ok : NetOk N) (sok : StOk N s) (rok : HsOk N rest) {x0 : List Int} (g : Good N s rest x0) : ∀ t, rep (turn2 N rest) t (behind N s x0, x0) = (behind N s (Xt N s rest x0 t), Xt N s rest x0 t) ∧ Good N s rest (Xt N s rest x0 t)
  | 0 => ⟨rfl, g⟩
  | t + 1 => by
    obtain ⟨e, gt⟩ := xt_good ok sok rok g t
    obtain ⟨y, ey, gy, _⟩ := turn_good ok sok rok gt
    have h : rep (turn2 N rest) (t + 1) (behind N s x0, x0) = (behind N s y, y) := by
      show turn2 N rest (rep (turn2 N rest) t (behind N s x0, x0)) = _
      rw [e, ey]
    have hx : Xt N s rest x0 (t + 1) = y := by unfold Xt; rw [h]
    rw [hx]
    exact ⟨h, gy⟩
theorem xt_step (ok : NetOk N) (sok : StOk N s) (rok : HsOk N rest) {x0 : List Int} (g : Good N s rest x0) (t : Nat) : (∀ u, 0 ≤ u → gI (Xt N s rest x0 t) u ≤ gI (Xt N s rest x0 (t + 1)) u) ∧ ∀ h ∈ able N (behind N s (Xt N s rest x0 t)) rest, gI (Xt N s rest x0 t) h + 1 ≤ gI (Xt N s rest x0 (t + 1)) h := by
  obtain ⟨e, gt⟩ := xt_good ok sok rok g t
  obtain ⟨y, ey, gy, mono, ab⟩ := turn_good ok sok rok gt
  have hx : Xt N s rest x0 (t + 1) = y := by
    show (turn2 N rest (rep (turn2 N rest) t (behind N s x0, x0))).2 = y
    rw [e, ey]
  rw [hx]
  exact ⟨mono, ab⟩
theorem xt_mono (ok : NetOk N) (sok : StOk N s) (rok : HsOk N rest) {x0 : List Int} (g : Good N s rest x0) (t : Nat) {u : Int} (u0 : 0 ≤ u) : ∀ j, gI (Xt N s rest x0 t) u ≤ gI (Xt N s rest x0 (t + j)) u
  | 0 => Int.le_refl _
  | j + 1 => Int.le_trans (xt_mono ok sok rok g t u0 j) ((xt_step ok sok rok g (t + j)).1 u u0)
/-- no work in j rounds: finished, or a long chain -/
theorem window (ok : NetOk N) (sok : StOk N s) (rok : HsOk N rest) {x0 : List Int} (g : Good N s rest x0) (t : Nat) : ∀ (j : Nat) (h : Int), 0 ≤ h ∧ h < N.n → gI (Xt N s rest x0 (t + j)) h = gI (Xt N s rest x0 t) h →
    AtL (cnt N s rest) h (gI (Xt N s rest x0 t) h) ∨ ∃ p, Ch N s (Xt N s rest x0 t) (h :: p) ∧ p.length = j
  | 0, h, _, _ => .inr ⟨[], .one h, rfl⟩
  | j + 1, h, hb, same => by
    have m1 := xt_mono ok sok rok g t hb.1 j
    have st := xt_step ok sok rok g (t + j)
    have m2 := st.1 h hb.1
    have same' : gI (Xt N s rest x0 (t + j + 1)) h = gI (Xt N s rest x0 t) h := same
    have gt := (xt_good ok sok rok g t).2
    have gj := (xt_good ok sok rok g (t + j)).2
    by_cases hr : h ∈ rest
    · have he : h ∈ ends N s rest := (ends_mem ok).mpr (.inl hr)
      rw [gt.end_ h he]
      exact .inl (due_end ok rok he)
    · have nab : h ∉ able N (behind N s (Xt N s rest x0 (t + j))) rest := fun z => by
        have := st.2 h z
        omega
      have nc : ¬ can N (behind N s (Xt N s rest x0 (t + j))) h = true := fun c => nab (able_mem.mpr ⟨hb, hr, c⟩)
      have ex : ∃ m, Joined N m h ∧ key N (behind N s (Xt N s rest x0 (t + j))) m h = 0 := by
        by_cases q : ∃ m, Joined N m h ∧ key N (behind N s (Xt N s rest x0 (t + j))) m h = 0
        · exact q
        · exact absurd ((can_iff ok).mpr fun m jm z => q ⟨m, jm, z⟩) nc
      obtain ⟨m, jm, km⟩ := ex
      rw [key_behind ok sok.len jm] at km
      have bm := jm.bd ok
      have mm := xt_mono ok sok rok g t (u := m) (by omega) j
      have ed := gt.ed m h jm
      have sm : gI (Xt N s rest x0 (t + j)) m = gI (Xt N s rest x0 t) m := by omega
      have link : gI (Xt N s rest x0 t) h = gI (Xt N s rest x0 t) m + key N s m h := by omega
      rcases window ok sok rok g t j m (by omega) sm with a | ⟨p, c, lp⟩
      · refine .inl ?_
        rw [link]
        exact d_conv ok sok jm a
      · exact .inr ⟨m :: p, .cons c jm link, by rw [List.length_cons, lp]⟩
theorem window_n (ok : NetOk N) (sok : StOk N s) (rok : HsOk N rest) {x0 : List Int} (g : Good N s rest x0) (t : Nat) {h : Int} (hb : 0 ≤ h ∧ h < N.n) (same : gI (Xt N s rest x0 (t + N.n.toNat)) h = gI (Xt N s rest x0 t) h) : AtL (cnt N s rest) h (gI (Xt N s rest x0 t) h) := by
  rcases window ok sok rok g t N.n.toNat h hb same with a | ⟨p, c, lp⟩
  · exact a
  · have gt := (xt_good ok sok rok g t).2
    have nd : ¬ (h :: p).Nodup := fun nd => by
      have := nodup_few N.n.toNat (lo := 0) nd fun z hz => by
        have := c.in_ ok h p rfl hb z hz
        omega
      rw [List.length_cons] at this
      omega
    obtain ⟨e, he, z⟩ := c.cyc ok sok nd
    have hE : e ∈ ends N s rest := (ends_mem ok).mpr (.inr z)
    exact c.down ok sok (by rw [gt.end_ e hE]; exact due_end ok rok hE) h p rfl he
/-- after n * q rounds -/
theorem grown (ok : NetOk N) (sok : StOk N s) (rok : HsOk N rest) {x0 : List Int} (g : Good N s rest x0) (z0 : ∀ u, 0 ≤ gI x0 u) {h : Int} (hb : 0 ≤ h ∧ h < N.n) : ∀ q : Nat, AtL (cnt N s rest) h (gI (Xt N s rest x0 (N.n.toNat * q)) h) ∨ (q : Int) ≤ gI (Xt N s rest x0 (N.n.toNat * q)) h
  | 0 => .inr (z0 h)
  | q + 1 => by
    have m := xt_mono ok sok rok g (N.n.toNat * q) hb.1 N.n.toNat
    rw [Nat.mul_succ]
    rcases grown ok sok rok g z0 hb q with a | a
    · exact .inl (a.mono m)
    · by_cases e : gI (Xt N s rest x0 (N.n.toNat * q + N.n.toNat)) h = gI (Xt N s rest x0 (N.n.toNat * q)) h
      · exact .inl ((window_n ok sok rok g _ hb e).mono m)
      · exact .inr (by omega)
end
end KR
/-! the plain law -/
namespace KR
open PySem L2
section
variable {N : Net} {s rest : List Int}
theorem gC_nat {f : Ct} {i : Nat} {o : Option Int} (h : f[i]? = some o) : gC f (i : Int) = o := by
  unfold gC
  rw [List.getD_eq_getElem?_getD, Int.toNat_natCast, h]; rfl
theorem most_nat (ok : NetOk N) : (mostW N s rest).toNat = N.n.toNat * (maxD (cnt N s rest) + 2).toNat := by
  have n1 := ok.n1
  have m0 := maxD_le (cnt N s rest) 0 List.mem_cons_self
  unfold mostW
  have e : N.n * (maxD (cnt N s rest) + 2) = ((N.n.toNat * (maxD (cnt N s rest) + 2).toNat : Nat) : Int) := by
    rw [Int.natCast_mul, Int.toNat_of_nonneg (by omega), Int.toNat_of_nonneg (by omega)]
  rw [e, Int.toNat_natCast]
theorem tally_nn (run : List Int) (u : Int) : 0 ≤ gI (tally N run) u := by
  unfold gI
  rw [List.getD_eq_getElem?_getD]
  cases q : (tally N run)[u.toNat]? with
  | none => exact Int.le_refl _
  | some v =>
    obtain ⟨h, _, e⟩ := List.mem_map.mp (List.mem_of_getElem? q)
    subst e
    show 0 ≤ ((_ : Nat) : Int)
    omega
theorem go_xt (ok : NetOk N) (sok : StOk N s) (rok : HsOk N rest) {run th : List Int} (r : RunOf N rest s run th) (most : Nat) : goOn N s rest run most = (behind N s (Xt N s rest (tally N run) most), Xt N s rest (tally N run) most) ∧ Good N s rest (Xt N s rest (tally N run) most) := by
  obtain ⟨e, g, f⟩ := run_good ok sok rok r
  unfold goOn
  rw [f, e]
  exact xt_good ok sok rok g most
theorem cnt_some {f : Ct} (h : allC f = true) {i : Nat} (hi : i < f.length) : ∃ a, f[i]? = some (some a) := by
  have e : f[i]? = some f[i] := List.getElem?_eq_getElem hi
  cases q : f[i] with
  | some a => exact ⟨a, by rw [e, q]⟩
  | none =>
    exfalso
    unfold allC at h
    have : f.any Option.isNone = true := List.any_eq_true.mpr ⟨none, q ▸ List.getElem_mem hi, rfl⟩
    rw [this] at h
    cases h
theorem full_of (ok : NetOk N) (sok : StOk N s) (rok : HsOk N rest) {run th : List Int} (r : RunOf N rest s run th) (h : Nat) (a : Int) (ha : (cnt N s rest)[h]? = some (some a)) : gI (Xt N s rest (tally N run) (mostW N s rest).toNat) h = a := by
  have n1 := ok.n1
  obtain ⟨_, g, _⟩ := run_good ok sok rok r
  have gm := (xt_good ok sok rok g (mostW N s rest).toNat).2
  have hi := (List.getElem?_eq_some_iff.mp ha).1
  rw [cnt_len] at hi
  have up := due_up ok gm (v := (h : Int)) (by omega) (gC_nat ha)
  have am := maxD_le (cnt N s rest) a (List.mem_cons_of_mem _ (nums_mem.mpr (List.mem_of_getElem? ha)))
  rw [most_nat ok] at up ⊢
  rcases grown ok sok rok g (tally_nn run) (h := (h : Int)) (by omega) (maxD (cnt N s rest) + 2).toNat with ⟨b, k1, k2⟩ | k
  · rw [gC_nat ha] at k1
    cases k1
    omega
  · omega
theorem open_of (ok : NetOk N) (sok : StOk N s) (rok : HsOk N rest) {run th : List Int} (r : RunOf N rest s run th) (h : Nat) (ha : (cnt N s rest)[h]? = some none) : maxD (cnt N s rest) + 2 ≤ gI (Xt N s rest (tally N run) (mostW N s rest).toNat) h := by
  have n1 := ok.n1
  obtain ⟨_, g, _⟩ := run_good ok sok rok r
  have hi := (List.getElem?_eq_some_iff.mp ha).1
  rw [cnt_len] at hi
  rw [most_nat ok]
  rcases grown ok sok rok g (tally_nn run) (h := (h : Int)) (by omega) (maxD (cnt N s rest) + 2).toNat with ⟨b, k1, k2⟩ | k
  · rw [gC_nat ha] at k1; cases k1
  · omega
theorem ended_of (ok : NetOk N) (sok : StOk N s) (rok : HsOk N rest) {run th : List Int} (r : RunOf N rest s run th) : (able N (behind N s (Xt N s rest (tally N run) (mostW N s rest).toNat)) rest).isEmpty = allC (cnt N s rest) := by
  obtain ⟨_, g, _⟩ := run_good ok sok rok r
  have lC : (cnt N s rest).length = N.n.toNat := cnt_len ..
  cases q : allC (cnt N s rest) with
  | true =>
    cases e : able N (behind N s (Xt N s rest (tally N run) (mostW N s rest).toNat)) rest with
    | nil => rfl
    | cons h l =>
      exfalso
      have hm : h ∈ able N (behind N s (Xt N s rest (tally N run) (mostW N s rest).toNat)) rest := by rw [e]; exact List.mem_cons_self
      have hb := (able_mem.mp hm).1
      obtain ⟨a, ha⟩ := cnt_some q (i := h.toNat) (by omega)
      have k1 := full_of ok sok rok r h.toNat a ha
      have k2 := (xt_step ok sok rok g (mostW N s rest).toNat).2 h hm
      have hh : ((h.toNat : Nat) : Int) = h := by omega
      have k3 := due_up ok (xt_good ok sok rok g ((mostW N s rest).toNat + 1)).2 (v := h) hb.1 (by have := gC_nat ha; rw [hh] at this; exact this)
      rw [hh] at k1
      omega
  | false =>
    cases e : able N (behind N s (Xt N s rest (tally N run) (mostW N s rest).toNat)) rest with
    | cons h l => rfl
    | nil =>
      exfalso
      have an : (cnt N s rest).any Option.isNone = true := by unfold allC at q; simpa using q
      obtain ⟨o, ho, on⟩ := List.any_eq_true.mp an
      cases o with
      | some a => cases on
      | none =>
        obtain ⟨i, hi⟩ := List.getElem?_of_mem ho
        have li := (List.getElem?_eq_some_iff.mp hi).1
        have stay : ∀ j, rep (turn2 N rest) ((mostW N s rest).toNat + j) (behind N s (tally N run), tally N run) = rep (turn2 N rest) (mostW N s rest).toNat (behind N s (tally N run), tally N run) := by
          intro j
          induction j with
          | zero => rfl
          | succ j ih =>
            show turn2 N rest (rep (turn2 N rest) ((mostW N s rest).toNat + j) _) = _
            rw [ih, (xt_good ok sok rok g _).1]
            unfold turn2
            show (able N (behind N s _) rest).foldl _ _ = _
            rw [e]; rfl
        have same : gI (Xt N s rest (tally N run) ((mostW N s rest).toNat + N.n.toNat)) (i : Int) = gI (Xt N s rest (tally N run) (mostW N s rest).toNat) (i : Int) := by
          unfold Xt
          rw [stay]
        obtain ⟨b, k1, _⟩ := window_n ok sok rok g _ (h := (i : Int)) (by omega) same
        rw [gC_nat hi] at k1
        cases k1
theorem num_eq (ok : NetOk N) (sok : StOk N s) (rok : HsOk N rest) {run th : List Int} (r : RunOf N rest s run th) (h : allC (cnt N s rest) = true) : Xt N s rest (tally N run) (mostW N s rest).toNat = numC (cnt N s rest) := by
  obtain ⟨_, g, _⟩ := run_good ok sok rok r
  have gl := (xt_good ok sok rok g (mostW N s rest).toNat).2.len
  have lC : (cnt N s rest).length = N.n.toNat := cnt_len ..
  refine List.ext_getElem? fun i => ?_
  by_cases hi : i < N.n.toNat
  · obtain ⟨a, ha⟩ := cnt_some h (i := i) (by omega)
    have k := full_of ok sok rok r i a ha
    rw [getD_at (by omega)]
    unfold numC
    rw [List.getElem?_map, ha]
    unfold gI at k
    rw [Int.toNat_natCast] at k
    rw [k]; rfl
  · rw [List.getElem?_eq_none (by omega), List.getElem?_eq_none (by unfold numC; rw [List.length_map]; omega)]
theorem idle_of (ok : NetOk N) (sok : StOk N s) : last N s (rgI 0 N.n) = dI s := by
  have n1 := ok.n1
  have lC : (cnt N s (rgI 0 N.n)).length = N.n.toNat := cnt_len ..
  have e : cnt N s (rgI 0 N.n) = List.replicate N.n.toNat (some 0) := by
    refine List.ext_getElem? fun i => ?_
    by_cases hi : i < N.n.toNat
    · have he : (i : Int) ∈ ends N s (rgI 0 N.n) := (ends_mem ok).mpr (.inl (mem_rgI.mpr (by omega)))
      obtain ⟨a, k1, k2⟩ := due_end ok rg_ok he
      have k3 := d_small ok sok (by omega) k1
      have eg : (cnt N s (rgI 0 N.n))[i]? = some (cnt N s (rgI 0 N.n))[i] := List.getElem?_eq_getElem (by omega)
      rw [gC_nat eg] at k1
      rw [eg, k1, List.getElem?_replicate, if_pos hi, show a = 0 by omega]
    · rw [List.getElem?_eq_none (by omega), List.getElem?_eq_none (by rw [List.length_replicate]; omega)]
  have nm : numC (List.replicate N.n.toNat (some 0)) = List.replicate N.n.toNat 0 := by
    unfold numC
    rw [List.map_replicate]; rfl
  have al : allC (List.replicate N.n.toNat (some (0 : Int))) = true := by
    unfold allC
    rw [show (List.replicate N.n.toNat (some (0 : Int))).any Option.isNone = false from List.any_eq_false.mpr fun o ho => by rw [(List.mem_replicate.mp ho).2]; decide]
    rfl
  unfold last
  rw [e, if_pos al, nm, behind_zero sok.len]
theorem plain (N : Net) (s rest : List Int) (ok : NetOk N) (h10 : N.n ≤ 10) (sok : StOk N s) (rok : HsOk N rest) : Plain N s rest where
  same := cnt_same ok sok rest
  small := fun a ha => by
    obtain ⟨i, hi⟩ := List.getElem?_of_mem ha
    have := d_small ok sok (v := (i : Int)) (by omega) (gC_nat hi)
    omega
  few := fun run th r h a ha => due_up ok (run_good ok sok rok r).2.1 (by omega) (gC_nat ha)
  full := fun run th r _ h a ha => by rw [(go_xt ok sok rok r _).1]; exact full_of ok sok rok r h a ha
  open_ := fun run th r _ h ha => by
    rw [(go_xt ok sok rok r _).1]
    have k := open_of ok sok rok r h ha
    have m0 := maxD_le (cnt N s rest) 0 List.mem_cons_self
    have le : mostW N s rest ≤ 10 * (maxD (cnt N s rest) + 2) := Int.mul_le_mul_of_nonneg_right h10 (by omega)
    exact ⟨by show 1 ≤ gI (Xt N s rest (tally N run) (mostW N s rest).toNat) h; omega, by show _ ≤ gI (Xt N s rest (tally N run) (mostW N s rest).toNat) h; omega⟩
  ended := fun run th r _ => by rw [(go_xt ok sok rok r _).1]; exact ended_of ok sok rok r
  there := fun run th r _ h => by rw [(go_xt ok sok rok r _).1, ← num_eq ok sok rok r h]
  idle := idle_of ok sok
end
end KR
/-! the law's call behind the top, for a def that asks for repr -/
namespace KR
open PySem L2
open PyProof.Rows in
theorem law_run {prog : Program} {w : World} {K : PySem.W.Frag} {names blt : Str → Option Value} {k : Nat} {fun_ scr : Addr} {fd : FuncData} {par : Str} {top : Shared} {vals : List Value} {ns : List Int}
    (inTop : K.In top.heap) (glob : top.heap.Ns mainGlobals names) (bl : top.heap.Ns builtinsNs blt) (boot : ∀ y : Str, y ≠ "__name__" → blt y = bootBuiltins y) (nolim : top.heap.NoLimit) (nogen : top.gens = #[])
    (there : top.heap.get? scr = some { cls := .type "list", data := .seq vals.toArray }) (allInt : IntsAre vals ns) (size : ns.length ≤ sizeLine) (room : Room k callerA)
    (promise : ∀ base : Heap, K.In base → base.Ns mainGlobals names → Calm prog w K names base k fun_ fd [par] (spLaw K)) (binds : Binds K fd [par] []) :
    codeAny (model prog w) callerA (.call (.ref fun_) ⟨[.ref scr], []⟩) (fun r st => r = .ok (.ret (.bool true)) ∧ OldK top.heap st.heap ∧ st.os = top.os ∧ AllBare st.gens) top := by
  have rel := vals_ints allInt
  have many := allInt.length
  -- Hs: what is tracked: nothing, or the script as the object it is
  have main : ∀ (Hs : Hp) (sd : PyData), (∀ b u, Hs b = some u → b = scr ∧ u = .frz { cls := .type "list", data := .seq vals.toArray } (.lst (ns.map V.int))) → Dq Hs (.ref scr) sd → ScrD K ns sd → HOk prog w Hs top.heap → (Hs scr ≠ none → K.lookup scr = none) →
      codeAny (model prog w) callerA (.call (.ref fun_) ⟨[.ref scr], []⟩) (fun r st => r = .ok (.ret (.bool true)) ∧ OldK top.heap st.heap ∧ st.os = top.os ∧ AllBare st.gens) top := by
    intro Hs sd only isd scrd hok notK
    have away : ∀ {b : Addr}, b ≠ scr → Hs b = none := fun {b} ne => by
      cases q : Hs b with
      | none => rfl
      | some u => exact absurd (only b u q).1 ne
    have dictAway : ∀ {b : Addr} {o : Obj} {es : Array DictEntry} {ep : Nat}, top.heap.get? b = some o → o.data = .dict es ep → Hs b = none := fun {b o es ep} got isDict => away fun z => by
      subst z
      rw [there] at got
      cases got
      cases isDict
    have nsOf : ∀ {b : Addr} {m : Str → Option Value}, top.heap.Ns b m → (hidT top.heap Hs).Ns b m := by
      rintro b m ⟨o, es, ep, got, isDict, rest⟩
      exact ⟨o, es, ep, hidT_get got (dictAway got isDict), isDict, rest⟩
    have kBase : K.In (hidT top.heap Hs) := fun b o look => hidT_get (inTop b o look) (by
      by_cases z : b = scr
      · subst z
        cases q : Hs b with
        | none => rfl
        | some u =>
          have := notK (by rw [q]; exact nofun)
          rw [look] at this; cases this
      · exact away z)
    obtain ⟨mc, n1, n2⟩ := nolim
    have env : Env0 prog w K names (hidT top.heap Hs) callerA [] top Hs :=
      ⟨rfl, ⟨kBase, nsOf glob, ⟨blt, nsOf bl, boot⟩, ⟨mc, nsOf n1, n2⟩⟩, fun _ _ got => of_hidT got, Nat.le_of_eq (hidT_size _ _), trivial, fun b mem => absurd (show b ∈ ([] : List Addr) from mem) List.not_mem_nil, hok, .of_eq nogen⟩
    refine codeAny_mono ((promise _ kBase (nsOf glob)).go callerA [] top Hs ⟨[.ref scr], []⟩ [.ref scr] [.ref scr] (fun v _ => v = .bl true) (fun _ _ _ => False) rfl room env (binds top [.ref scr] inTop rfl) (.cons rfl .nil) ⟨Hs, sd, ns, Same.refl _, .cons isd .nil, scrd, fun _ => rfl⟩) fun how st got => ?_
    cases how with
    | error z => exact got.elim
    | ok fl => cases fl with
      | next => exact got.elim
      | brk => exact got.elim
      | cont => exact got.elim
      | ret u =>
        obtain ⟨v, Hy, os, bare, un, hok2, rv, q⟩ := got
        have q' : v = .bl true := q
        subst q'
        have eu : u = Value.bool true := rv
        subst eu
        refine ⟨rfl, OldK.of_keep fun b o was => ?_, os, bare⟩
        cases q : Hs b with
        | none => exact un.keep b o was q (fun mem => absurd (show b ∈ ([] : List Addr) from mem) List.not_mem_nil) List.not_mem_nil
        | some u =>
          obtain ⟨rfl, rfl⟩ := only b u q
          have still := (hok2 b _ (un.frzs b _ _ q)).1
          rw [there] at was
          cases was
          exact still
  cases hk : K.lookup scr with
  | some o =>
    have same := inTop scr o hk
    rw [there] at same
    cases same
    exact main (fun _ => none) _ (fun _ _ z => by cases z) (.opq scr) (.opq ⟨_, vals.toArray, _, hk, rfl, rfl, rfl, by rw [List.size_toArray, many]; exact size, by simpa using rel⟩) (fun _ _ z => by cases z) fun z => absurd rfl z
  | none =>
    have at_ : (fun b : Addr => if b = scr then some (HO.frz { cls := .type "list", data := .seq vals.toArray } (.lst (ns.map V.int))) else none) scr = some (HO.frz { cls := .type "list", data := .seq vals.toArray } (.lst (ns.map V.int))) := if_pos rfl
    refine main (fun b => if b = scr then some (.frz { cls := .type "list", data := .seq vals.toArray } (.lst (ns.map V.int))) else none) _ (fun b u z => ?_) (.fz at_) .fz (fun b u z => ?_) fun _ => hk
    · by_cases e : b = scr
      · rw [if_pos e] at z
        cases z
        exact ⟨e, rfl⟩
      · rw [if_neg e] at z; cases z
    · by_cases e : b = scr
      · have z' := (if_pos e).symm.trans z
        cases z'
        subst e
        exact ⟨there, by rw [List.length_map]; exact size, vals, _, rel, there⟩
      · have z' := (if_neg e).symm.trans z
        cases z'
/-- a def where it stands -/
def Ex (K : PySem.W.Frag) (mg : Str → Option Value) (x : Str) (st : Stmt) (ps : List Str) : Prop := ∃ f fd, At K mg x st ps f fd
abbrev ExOf {K : PySem.W.Frag} {h : Heap} (_ : K.In h) (mg : Str → Option Value) (x : Str) (st : Stmt) (ps : List Str) : Prop := Ex K mg x st ps
theorem ex_mk {K : PySem.W.Frag} {h : Heap} {mg : Str → Option Value} {x : Str} {st : Stmt} {ps : List Str} {f : Addr} {od an : Option Addr} {sl : Array (Option Value)} {oc kV dc pm cd ct : Value} (X : K.In h) (G : h.Ns mainGlobals mg)
    (hb : ∀ (kV doc pm : Value) (an : Option Addr) (cdv ct : Value) (us : List Value), us.length = ps.length → bindArgs (PySem.W.fnOf x x (defArgs st) (defBody st) (defScope st) .none kV doc pm an cdv ct) ⟨us, []⟩ = pure (ps.zip us))
    (a : PySem.W.nsIn K mainGlobals x = some (some (.ref f))) (l : K.lookup f = some ⟨oc, od, .func (PySem.W.fnOf x x (defArgs st) (defBody st) (defScope st) .none kV dc pm an cd ct), sl⟩) (c : PySem.W.codeIn K cd x = true) (kp : PySem.W.keepIn K (.ref f) = true) : Ex K mg x st ps :=
  have F := fun_mk (st := st) l c kp
  ⟨f, _, F, F.binds hb, PySem.W.mg_of X G a⟩
theorem walk_calm {l : PySem.W.OpenLaw} {q : Program} {loose : List Str} {XP : (Str → Option Value) → Heap → Prop} {YP : World → Heap → Prop} {d : DefRec} {K : Params → PySem.W.Frag} {par : Str} (hn : l.most = some 63) (hdf : d.params.defaults = []) (inK : ∀ (w : World) (h : Heap), YP w h → (K w.params).In h)
    (F : ∀ (w : World) (mg : Str → Option Value) (h : Heap), (K w.params).In h → h.Ns mainGlobals mg → ∃ f fd, mg d.name = some (.ref f) ∧ Binds (K w.params) fd [par] [] ∧ ∀ base : Heap, (K w.params).In base → base.Ns mainGlobals mg → Calm l.prog w (K w.params) mg base 11 f fd [par] (spLaw (K w.params))) :
    PySem.W.WalkO q loose XP YP l.row.toRowW d [] (fun f vs => PySem.call f vs) := by
  refine Att.attach_call hn hdf fun w s₀ s₁ mg mb fa o pm cd doc a vs ns G Y ho hd hcd hmg there allInt few nogen => ?_
  obtain ⟨f, fd, hf, hb, promise⟩ := F w mg s₁.heap (inK w _ Y) G.T.g
  rw [hmg] at hf
  cases hf
  exact law_run (inK w _ Y) G.T.g G.T.b G.T.builtins G.T.nolimit nogen there allInt (Nat.le_trans few (by decide)) ⟨rfl, by decide, by decide⟩ promise hb
end KR
namespace KR
open PySem L2
theorem fin {prog : Program} {w : World} {K : PySem.W.Frag} {mg : Str → Option Value}
    (h6 : Ex K mg "is_whole" st_is_whole P_is_whole)
    (h7 : Ex K mg "is_between" st_is_between P_is_between)
    (h8 : Ex K mg "is_road" st_is_road P_is_road)
    (h9 : Ex K mg "is_net" st_is_net P_is_net)
    (h10 : Ex K mg "check_net" st_check_net P_check_net)
    (h11 : Ex K mg "is_standing" st_is_standing P_is_standing)
    (h12 : Ex K mg "check_standing" st_check_standing P_check_standing)
    (h13 : Ex K mg "is_house" st_is_house P_is_house)
    (h14 : Ex K mg "are_houses" st_are_houses P_are_houses)
    (h15 : Ex K mg "check_houses" st_check_houses P_check_houses)
    (h16 : Ex K mg "neighbours_of" st_neighbours_of P_neighbours_of)
    (h17 : Ex K mg "directions_of" st_directions_of P_directions_of)
    (h18 : Ex K mg "road_at" st_road_at P_road_at)
    (h19 : Ex K mg "keys_in" st_keys_in P_keys_in)
    (h20 : Ex K mg "with_works" st_with_works P_with_works)
    (h21 : Ex K mg "lengths_from" st_lengths_from P_lengths_from)
    (h22 : Ex K mg "free_ahead" st_free_ahead P_free_ahead)
    (h23 : Ex K mg "stuck_houses" st_stuck_houses P_stuck_houses)
    (h25 : Ex K mg "ends_of" st_ends_of P_ends_of)
    (h26 : Ex K mg "counts_in" st_counts_in P_counts_in)
    (h27 : Ex K mg "check_resting" st_check_resting P_check_resting)
    (h28 : Ex K mg "counts" st_counts P_counts)
    (h29 : Ex K mg "last_standing" st_last_standing P_last_standing)
    (h31 : Ex K mg "_law_cell" st_L_cell P_L_cell)
    (h32 : Ex K mg "_law_hash" st_L_hash P_L_hash)
    (h33 : Ex K mg "_law_generator" st_L_generator P_L_generator)
    (h34 : Ex K mg "_law_random" st_L_random P_L_random)
    (h35 : Ex K mg "_law_net" st_L_net P_L_net)
    (h36 : Ex K mg "_law_standing" st_L_standing P_L_standing)
    (h37 : Ex K mg "_law_houses" st_L_houses P_L_houses)
    (h38 : Ex K mg "_law_mates" st_L_mates P_L_mates)
    (h39 : Ex K mg "_law_keys" st_L_keys P_L_keys)
    (h40 : Ex K mg "_law_pairs" st_L_pairs P_L_pairs)
    (h41 : Ex K mg "_law_lengths" st_L_lengths P_L_lengths)
    (h42 : Ex K mg "_law_stuck" st_L_stuck P_L_stuck)
    (h43 : Ex K mg "_law_ends" st_L_ends P_L_ends)
    (h44 : Ex K mg "_law_counts" st_L_counts P_L_counts)
    (h45 : Ex K mg "_law_can" st_L_can P_L_can)
    (h46 : Ex K mg "_law_worked" st_L_worked P_L_worked)
    (h47 : Ex K mg "_law_meant" st_L_meant P_L_meant)
    (h48 : Ex K mg "_law_able" st_L_able P_L_able)
    (h49 : Ex K mg "_law_run" st_L_run P_L_run)
    (h50 : Ex K mg "_law_tally" st_L_tally P_L_tally)
    (h51 : Ex K mg "_law_gone_on" st_L_gone_on P_L_gone_on)
    (h52 : Ex K mg "_law_right" st_L_right P_L_right)
    (h53 : Ex K mg "_law_seven" st_L_seven P_L_seven)
    (h54 : Ex K mg "law" st_law P_law)
    (B : Bt mg) : ∃ f fd, mg "law" = some (.ref f) ∧ Binds K fd ["_law_script"] [] ∧ ∀ base : Heap, K.In base → base.Ns mainGlobals mg → Calm prog w K mg base 11 f fd ["_law_script"] (spLaw K) := by
  obtain ⟨f6, d6, a6⟩ := h6
  obtain ⟨f7, d7, a7⟩ := h7
  obtain ⟨f8, d8, a8⟩ := h8
  obtain ⟨f9, d9, a9⟩ := h9
  obtain ⟨f10, d10, a10⟩ := h10
  obtain ⟨f11, d11, a11⟩ := h11
  obtain ⟨f12, d12, a12⟩ := h12
  obtain ⟨f13, d13, a13⟩ := h13
  obtain ⟨f14, d14, a14⟩ := h14
  obtain ⟨f15, d15, a15⟩ := h15
  obtain ⟨f16, d16, a16⟩ := h16
  obtain ⟨f17, d17, a17⟩ := h17
  obtain ⟨f18, d18, a18⟩ := h18
  obtain ⟨f19, d19, a19⟩ := h19
  obtain ⟨f20, d20, a20⟩ := h20
  obtain ⟨f21, d21, a21⟩ := h21
  obtain ⟨f22, d22, a22⟩ := h22
  obtain ⟨f23, d23, a23⟩ := h23
  obtain ⟨f25, d25, a25⟩ := h25
  obtain ⟨f26, d26, a26⟩ := h26
  obtain ⟨f27, d27, a27⟩ := h27
  obtain ⟨f28, d28, a28⟩ := h28
  obtain ⟨f29, d29, a29⟩ := h29
  obtain ⟨f31, d31, a31⟩ := h31
  obtain ⟨f32, d32, a32⟩ := h32
  obtain ⟨f33, d33, a33⟩ := h33
  obtain ⟨f34, d34, a34⟩ := h34
  obtain ⟨f35, d35, a35⟩ := h35
  obtain ⟨f36, d36, a36⟩ := h36
  obtain ⟨f37, d37, a37⟩ := h37
  obtain ⟨f38, d38, a38⟩ := h38
  obtain ⟨f39, d39, a39⟩ := h39
  obtain ⟨f40, d40, a40⟩ := h40
  obtain ⟨f41, d41, a41⟩ := h41
  obtain ⟨f42, d42, a42⟩ := h42
  obtain ⟨f43, d43, a43⟩ := h43
  obtain ⟨f44, d44, a44⟩ := h44
  obtain ⟨f45, d45, a45⟩ := h45
  obtain ⟨f46, d46, a46⟩ := h46
  obtain ⟨f47, d47, a47⟩ := h47
  obtain ⟨f48, d48, a48⟩ := h48
  obtain ⟨f49, d49, a49⟩ := h49
  obtain ⟨f50, d50, a50⟩ := h50
  obtain ⟨f51, d51, a51⟩ := h51
  obtain ⟨f52, d52, a52⟩ := h52
  obtain ⟨f53, d53, a53⟩ := h53
  obtain ⟨f54, d54, a54⟩ := h54
  have T : Txt K mg (fun i => match i with | 6 => f6 | 7 => f7 | 8 => f8 | 9 => f9 | 10 => f10 | 11 => f11 | 12 => f12 | 13 => f13 | 14 => f14 | 15 => f15 | 16 => f16 | 17 => f17 | 18 => f18 | 19 => f19 | 20 => f20 | 21 => f21 | 22 => f22 | 23 => f23 | 25 => f25 | 26 => f26 | 27 => f27 | 28 => f28 | 29 => f29 | 31 => f31 | 32 => f32 | 33 => f33 | 34 => f34 | 35 => f35 | 36 => f36 | 37 => f37 | 38 => f38 | 39 => f39 | 40 => f40 | 41 => f41 | 42 => f42 | 43 => f43 | 44 => f44 | 45 => f45 | 46 => f46 | 47 => f47 | 48 => f48 | 49 => f49 | 50 => f50 | 51 => f51 | 52 => f52 | 53 => f53 | 54 => f54 | _ => f6) (fun i => match i with | 6 => d6 | 7 => d7 | 8 => d8 | 9 => d9 | 10 => d10 | 11 => d11 | 12 => d12 | 13 => d13 | 14 => d14 | 15 => d15 | 16 => d16 | 17 => d17 | 18 => d18 | 19 => d19 | 20 => d20 | 21 => d21 | 22 => d22 | 23 => d23 | 25 => d25 | 26 => d26 | 27 => d27 | 28 => d28 | 29 => d29 | 31 => d31 | 32 => d32 | 33 => d33 | 34 => d34 | 35 => d35 | 36 => d36 | 37 => d37 | 38 => d38 | 39 => d39 | 40 => d40 | 41 => d41 | 42 => d42 | 43 => d43 | 44 => d44 | 45 => d45 | 46 => d46 | 47 => d47 | 48 => d48 | 49 => d49 | 50 => d50 | 51 => d51 | 52 => d52 | 53 => d53 | 54 => d54 | _ => d6) := ⟨B, a6, a7, a8, a9, a10, a11, a12, a13, a14, a15, a16, a17, a18, a19, a20, a21, a22, a23, a25, a26, a27, a28, a29, a31, a32, a33, a34, a35, a36, a37, a38, a39, a40, a41, a42, a43, a44, a45, a46, a47, a48, a49, a50, a51, a52, a53, a54⟩
  exact ⟨_, _, T.law.g, T.law.b, fun base _ _ => ok_law T plain⟩
end KR
open PySem PySem.W PyProof.Rows
set_option maxHeartbeats 0 in
theorem PySem.Challenge.cw_keyroads_k20_whole_exact_counts_holds : PySem.Challenge.rw_keyroads_k20_whole_exact_counts.Holds := by
  w_on; o_law; k_head; (case hw => w_witness2)
  k_fill
  refine KR.walk_calm (l := PySem.Challenge.rw_keyroads_k20_whole_exact_counts) (par := "_law_script") rfl rfl (fun w h Y => PySem.W.kIn_of Y) ?F
  case F =>
    intro w mg h KX G
    have h6 : KR.ExOf KX mg "is_whole" KR.st_is_whole KR.P_is_whole := by
      refine' KR.ex_mk KX G (fun _ _ _ _ _ _ us hl => match us, hl with | [_], _ => rfl) ?a ?l ?c ?k
      (case a => k_is); (case l => k_is); (case c => k_is); (case k => k_is)
    have h7 : KR.ExOf KX mg "is_between" KR.st_is_between KR.P_is_between := by
      refine' KR.ex_mk KX G (fun _ _ _ _ _ _ us hl => match us, hl with | [_, _, _], _ => rfl) ?a ?l ?c ?k
      (case a => k_is); (case l => k_is); (case c => k_is); (case k => k_is)
    have h8 : KR.ExOf KX mg "is_road" KR.st_is_road KR.P_is_road := by
      refine' KR.ex_mk KX G (fun _ _ _ _ _ _ us hl => match us, hl with | [_, _], _ => rfl) ?a ?l ?c ?k
      (case a => k_is); (case l => k_is); (case c => k_is); (case k => k_is)
    have h9 : KR.ExOf KX mg "is_net" KR.st_is_net KR.P_is_net := by
      refine' KR.ex_mk KX G (fun _ _ _ _ _ _ us hl => match us, hl with | [_], _ => rfl) ?a ?l ?c ?k
      (case a => k_is); (case l => k_is); (case c => k_is); (case k => k_is)
    have h10 : KR.ExOf KX mg "check_net" KR.st_check_net KR.P_check_net := by
      refine' KR.ex_mk KX G (fun _ _ _ _ _ _ us hl => match us, hl with | [_], _ => rfl) ?a ?l ?c ?k
      (case a => k_is); (case l => k_is); (case c => k_is); (case k => k_is)
    have h11 : KR.ExOf KX mg "is_standing" KR.st_is_standing KR.P_is_standing := by
      refine' KR.ex_mk KX G (fun _ _ _ _ _ _ us hl => match us, hl with | [_, _], _ => rfl) ?a ?l ?c ?k
      (case a => k_is); (case l => k_is); (case c => k_is); (case k => k_is)
    have h12 : KR.ExOf KX mg "check_standing" KR.st_check_standing KR.P_check_standing := by
      refine' KR.ex_mk KX G (fun _ _ _ _ _ _ us hl => match us, hl with | [_, _], _ => rfl) ?a ?l ?c ?k
      (case a => k_is); (case l => k_is); (case c => k_is); (case k => k_is)
    have h13 : KR.ExOf KX mg "is_house" KR.st_is_house KR.P_is_house := by
      refine' KR.ex_mk KX G (fun _ _ _ _ _ _ us hl => match us, hl with | [_, _], _ => rfl) ?a ?l ?c ?k
      (case a => k_is); (case l => k_is); (case c => k_is); (case k => k_is)
    have h14 : KR.ExOf KX mg "are_houses" KR.st_are_houses KR.P_are_houses := by
      refine' KR.ex_mk KX G (fun _ _ _ _ _ _ us hl => match us, hl with | [_, _], _ => rfl) ?a ?l ?c ?k
      (case a => k_is); (case l => k_is); (case c => k_is); (case k => k_is)
    have h15 : KR.ExOf KX mg "check_houses" KR.st_check_houses KR.P_check_houses := by
      refine' KR.ex_mk KX G (fun _ _ _ _ _ _ us hl => match us, hl with | [_, _], _ => rfl) ?a ?l ?c ?k
      (case a => k_is); (case l => k_is); (case c => k_is); (case k => k_is)
    have h16 : KR.ExOf KX mg "neighbours_of" KR.st_neighbours_of KR.P_neighbours_of := by
      refine' KR.ex_mk KX G (fun _ _ _ _ _ _ us hl => match us, hl with | [_, _], _ => rfl) ?a ?l ?c ?k
      (case a => k_is); (case l => k_is); (case c => k_is); (case k => k_is)
    have h17 : KR.ExOf KX mg "directions_of" KR.st_directions_of KR.P_directions_of := by
      refine' KR.ex_mk KX G (fun _ _ _ _ _ _ us hl => match us, hl with | [_], _ => rfl) ?a ?l ?c ?k
      (case a => k_is); (case l => k_is); (case c => k_is); (case k => k_is)
    have h18 : KR.ExOf KX mg "road_at" KR.st_road_at KR.P_road_at := by
      refine' KR.ex_mk KX G (fun _ _ _ _ _ _ us hl => match us, hl with | [_, _, _], _ => rfl) ?a ?l ?c ?k
      (case a => k_is); (case l => k_is); (case c => k_is); (case k => k_is)
    have h19 : KR.ExOf KX mg "keys_in" KR.st_keys_in KR.P_keys_in := by
      refine' KR.ex_mk KX G (fun _ _ _ _ _ _ us hl => match us, hl with | [_, _, _, _], _ => rfl) ?a ?l ?c ?k
      (case a => k_is); (case l => k_is); (case c => k_is); (case k => k_is)
    have h20 : KR.ExOf KX mg "with_works" KR.st_with_works KR.P_with_works := by
      refine' KR.ex_mk KX G (fun _ _ _ _ _ _ us hl => match us, hl with | [_, _, _], _ => rfl) ?a ?l ?c ?k
      (case a => k_is); (case l => k_is); (case c => k_is); (case k => k_is)
    have h21 : KR.ExOf KX mg "lengths_from" KR.st_lengths_from KR.P_lengths_from := by
      refine' KR.ex_mk KX G (fun _ _ _ _ _ _ us hl => match us, hl with | [_, _, _], _ => rfl) ?a ?l ?c ?k
      (case a => k_is); (case l => k_is); (case c => k_is); (case k => k_is)
    have h22 : KR.ExOf KX mg "free_ahead" KR.st_free_ahead KR.P_free_ahead := by
      refine' KR.ex_mk KX G (fun _ _ _ _ _ _ us hl => match us, hl with | [_, _, _], _ => rfl) ?a ?l ?c ?k
      (case a => k_is); (case l => k_is); (case c => k_is); (case k => k_is)
    have h23 : KR.ExOf KX mg "stuck_houses" KR.st_stuck_houses KR.P_stuck_houses := by
      refine' KR.ex_mk KX G (fun _ _ _ _ _ _ us hl => match us, hl with | [_, _], _ => rfl) ?a ?l ?c ?k
      (case a => k_is); (case l => k_is); (case c => k_is); (case k => k_is)
    have h25 : KR.ExOf KX mg "ends_of" KR.st_ends_of KR.P_ends_of := by
      refine' KR.ex_mk KX G (fun _ _ _ _ _ _ us hl => match us, hl with | [_, _, _], _ => rfl) ?a ?l ?c ?k
      (case a => k_is); (case l => k_is); (case c => k_is); (case k => k_is)
    have h26 : KR.ExOf KX mg "counts_in" KR.st_counts_in KR.P_counts_in := by
      refine' KR.ex_mk KX G (fun _ _ _ _ _ _ us hl => match us, hl with | [_, _, _], _ => rfl) ?a ?l ?c ?k
      (case a => k_is); (case l => k_is); (case c => k_is); (case k => k_is)
    have h27 : KR.ExOf KX mg "check_resting" KR.st_check_resting KR.P_check_resting := by
      refine' KR.ex_mk KX G (fun _ _ _ _ _ _ us hl => match us, hl with | [_, _, _], _ => rfl) ?a ?l ?c ?k
      (case a => k_is); (case l => k_is); (case c => k_is); (case k => k_is)
    have h28 : KR.ExOf KX mg "counts" KR.st_counts KR.P_counts := by
      refine' KR.ex_mk KX G (fun _ _ _ _ _ _ us hl => match us, hl with | [_, _, _], _ => rfl) ?a ?l ?c ?k
      (case a => k_is); (case l => k_is); (case c => k_is); (case k => k_is)
    have h29 : KR.ExOf KX mg "last_standing" KR.st_last_standing KR.P_last_standing := by
      refine' KR.ex_mk KX G (fun _ _ _ _ _ _ us hl => match us, hl with | [_, _, _], _ => rfl) ?a ?l ?c ?k
      (case a => k_is); (case l => k_is); (case c => k_is); (case k => k_is)
    have h31 : KR.ExOf KX mg "_law_cell" KR.st_L_cell KR.P_L_cell := by
      refine' KR.ex_mk KX G (fun _ _ _ _ _ _ us hl => match us, hl with | [_, _], _ => rfl) ?a ?l ?c ?k
      (case a => k_is); (case l => k_is); (case c => k_is); (case k => k_is)
    have h32 : KR.ExOf KX mg "_law_hash" KR.st_L_hash KR.P_L_hash := by
      refine' KR.ex_mk KX G (fun _ _ _ _ _ _ us hl => match us, hl with | [_, _], _ => rfl) ?a ?l ?c ?k
      (case a => k_is); (case l => k_is); (case c => k_is); (case k => k_is)
    have h33 : KR.ExOf KX mg "_law_generator" KR.st_L_generator KR.P_L_generator := by
      refine' KR.ex_mk KX G (fun _ _ _ _ _ _ us hl => match us, hl with | [_, _], _ => rfl) ?a ?l ?c ?k
      (case a => k_is); (case l => k_is); (case c => k_is); (case k => k_is)
    have h34 : KR.ExOf KX mg "_law_random" KR.st_L_random KR.P_L_random := by
      refine' KR.ex_mk KX G (fun _ _ _ _ _ _ us hl => match us, hl with | [_, _], _ => rfl) ?a ?l ?c ?k
      (case a => k_is); (case l => k_is); (case c => k_is); (case k => k_is)
    have h35 : KR.ExOf KX mg "_law_net" KR.st_L_net KR.P_L_net := by
      refine' KR.ex_mk KX G (fun _ _ _ _ _ _ us hl => match us, hl with | [_, _, _], _ => rfl) ?a ?l ?c ?k
      (case a => k_is); (case l => k_is); (case c => k_is); (case k => k_is)
    have h36 : KR.ExOf KX mg "_law_standing" KR.st_L_standing KR.P_L_standing := by
      refine' KR.ex_mk KX G (fun _ _ _ _ _ _ us hl => match us, hl with | [_, _], _ => rfl) ?a ?l ?c ?k
      (case a => k_is); (case l => k_is); (case c => k_is); (case k => k_is)
    have h37 : KR.ExOf KX mg "_law_houses" KR.st_L_houses KR.P_L_houses := by
      refine' KR.ex_mk KX G (fun _ _ _ _ _ _ us hl => match us, hl with | [_, _, _], _ => rfl) ?a ?l ?c ?k
      (case a => k_is); (case l => k_is); (case c => k_is); (case k => k_is)
    have h38 : KR.ExOf KX mg "_law_mates" KR.st_L_mates KR.P_L_mates := by
      refine' KR.ex_mk KX G (fun _ _ _ _ _ _ us hl => match us, hl with | [_, _], _ => rfl) ?a ?l ?c ?k
      (case a => k_is); (case l => k_is); (case c => k_is); (case k => k_is)
    have h39 : KR.ExOf KX mg "_law_keys" KR.st_L_keys KR.P_L_keys := by
      refine' KR.ex_mk KX G (fun _ _ _ _ _ _ us hl => match us, hl with | [_, _, _, _], _ => rfl) ?a ?l ?c ?k
      (case a => k_is); (case l => k_is); (case c => k_is); (case k => k_is)
    have h40 : KR.ExOf KX mg "_law_pairs" KR.st_L_pairs KR.P_L_pairs := by
      refine' KR.ex_mk KX G (fun _ _ _ _ _ _ us hl => match us, hl with | [_], _ => rfl) ?a ?l ?c ?k
      (case a => k_is); (case l => k_is); (case c => k_is); (case k => k_is)
    have h41 : KR.ExOf KX mg "_law_lengths" KR.st_L_lengths KR.P_L_lengths := by
      refine' KR.ex_mk KX G (fun _ _ _ _ _ _ us hl => match us, hl with | [_, _, _], _ => rfl) ?a ?l ?c ?k
      (case a => k_is); (case l => k_is); (case c => k_is); (case k => k_is)
    have h42 : KR.ExOf KX mg "_law_stuck" KR.st_L_stuck KR.P_L_stuck := by
      refine' KR.ex_mk KX G (fun _ _ _ _ _ _ us hl => match us, hl with | [_, _], _ => rfl) ?a ?l ?c ?k
      (case a => k_is); (case l => k_is); (case c => k_is); (case k => k_is)
    have h43 : KR.ExOf KX mg "_law_ends" KR.st_L_ends KR.P_L_ends := by
      refine' KR.ex_mk KX G (fun _ _ _ _ _ _ us hl => match us, hl with | [_, _, _], _ => rfl) ?a ?l ?c ?k
      (case a => k_is); (case l => k_is); (case c => k_is); (case k => k_is)
    have h44 : KR.ExOf KX mg "_law_counts" KR.st_L_counts KR.P_L_counts := by
      refine' KR.ex_mk KX G (fun _ _ _ _ _ _ us hl => match us, hl with | [_, _, _], _ => rfl) ?a ?l ?c ?k
      (case a => k_is); (case l => k_is); (case c => k_is); (case k => k_is)
    have h45 : KR.ExOf KX mg "_law_can" KR.st_L_can KR.P_L_can := by
      refine' KR.ex_mk KX G (fun _ _ _ _ _ _ us hl => match us, hl with | [_, _, _], _ => rfl) ?a ?l ?c ?k
      (case a => k_is); (case l => k_is); (case c => k_is); (case k => k_is)
    have h46 : KR.ExOf KX mg "_law_worked" KR.st_L_worked KR.P_L_worked := by
      refine' KR.ex_mk KX G (fun _ _ _ _ _ _ us hl => match us, hl with | [_, _, _], _ => rfl) ?a ?l ?c ?k
      (case a => k_is); (case l => k_is); (case c => k_is); (case k => k_is)
    have h47 : KR.ExOf KX mg "_law_meant" KR.st_L_meant KR.P_L_meant := by
      refine' KR.ex_mk KX G (fun _ _ _ _ _ _ us hl => match us, hl with | [_, _, _], _ => rfl) ?a ?l ?c ?k
      (case a => k_is); (case l => k_is); (case c => k_is); (case k => k_is)
    have h48 : KR.ExOf KX mg "_law_able" KR.st_L_able KR.P_L_able := by
      refine' KR.ex_mk KX G (fun _ _ _ _ _ _ us hl => match us, hl with | [_, _, _], _ => rfl) ?a ?l ?c ?k
      (case a => k_is); (case l => k_is); (case c => k_is); (case k => k_is)
    have h49 : KR.ExOf KX mg "_law_run" KR.st_L_run KR.P_L_run := by
      refine' KR.ex_mk KX G (fun _ _ _ _ _ _ us hl => match us, hl with | [_, _, _, _, _], _ => rfl) ?a ?l ?c ?k
      (case a => k_is); (case l => k_is); (case c => k_is); (case k => k_is)
    have h50 : KR.ExOf KX mg "_law_tally" KR.st_L_tally KR.P_L_tally := by
      refine' KR.ex_mk KX G (fun _ _ _ _ _ _ us hl => match us, hl with | [_, _], _ => rfl) ?a ?l ?c ?k
      (case a => k_is); (case l => k_is); (case c => k_is); (case k => k_is)
    have h51 : KR.ExOf KX mg "_law_gone_on" KR.st_L_gone_on KR.P_L_gone_on := by
      refine' KR.ex_mk KX G (fun _ _ _ _ _ _ us hl => match us, hl with | [_, _, _, _, _], _ => rfl) ?a ?l ?c ?k
      (case a => k_is); (case l => k_is); (case c => k_is); (case k => k_is)
    have h52 : KR.ExOf KX mg "_law_right" KR.st_L_right KR.P_L_right := by
      refine' KR.ex_mk KX G (fun _ _ _ _ _ _ us hl => match us, hl with | [_, _, _, _], _ => rfl) ?a ?l ?c ?k
      (case a => k_is); (case l => k_is); (case c => k_is); (case k => k_is)
    have h53 : KR.ExOf KX mg "_law_seven" KR.st_L_seven KR.P_L_seven := by
      refine' KR.ex_mk KX G (fun _ _ _ _ _ _ us hl => match us, hl with | [_], _ => rfl) ?a ?l ?c ?k
      (case a => k_is); (case l => k_is); (case c => k_is); (case k => k_is)
    have h54 : KR.ExOf KX mg "law" KR.st_law KR.P_law := by
      refine' KR.ex_mk KX G (fun _ _ _ _ _ _ us hl => match us, hl with | [_], _ => rfl) ?a ?l ?c ?k
      (case a => k_is); (case l => k_is); (case c => k_is); (case k => k_is)
    have b_isinstance : mg "isinstance" = none := by
      refine' PySem.W.mg_none_of KX G ?z
      (case z => k_is)
    have b_int : mg "int" = none := by
      refine' PySem.W.mg_none_of KX G ?z
      (case z => k_is)
    have b_bool : mg "bool" = none := by
      refine' PySem.W.mg_none_of KX G ?z
      (case z => k_is)
    have b_tuple : mg "tuple" = none := by
      refine' PySem.W.mg_none_of KX G ?z
      (case z => k_is)
    have b_list : mg "list" = none := by
      refine' PySem.W.mg_none_of KX G ?z
      (case z => k_is)
    have b_len : mg "len" = none := by
      refine' PySem.W.mg_none_of KX G ?z
      (case z => k_is)
    have b_sorted : mg "sorted" = none := by
      refine' PySem.W.mg_none_of KX G ?z
      (case z => k_is)
    have b_range : mg "range" = none := by
      refine' PySem.W.mg_none_of KX G ?z
      (case z => k_is)
    have b_min : mg "min" = none := by
      refine' PySem.W.mg_none_of KX G ?z
      (case z => k_is)
    have b_max : mg "max" = none := by
      refine' PySem.W.mg_none_of KX G ?z
      (case z => k_is)
    have b_zip : mg "zip" = none := by
      refine' PySem.W.mg_none_of KX G ?z
      (case z => k_is)
    have b_enumerate : mg "enumerate" = none := by
      refine' PySem.W.mg_none_of KX G ?z
      (case z => k_is)
    have b_set : mg "set" = none := by
      refine' PySem.W.mg_none_of KX G ?z
      (case z => k_is)
    have b_sum : mg "sum" = none := by
      refine' PySem.W.mg_none_of KX G ?z
      (case z => k_is)
    have b_repr : mg "repr" = none := by
      refine' PySem.W.mg_none_of KX G ?z
      (case z => k_is)
    exact KR.fin h6 h7 h8 h9 h10 h11 h12 h13 h14 h15 h16 h17 h18 h19 h20 h21 h22 h23 h25 h26 h27 h28 h29 h31 h32 h33 h34 h35 h36 h37 h38 h39 h40 h41 h42 h43 h44 h45 h46 h47 h48 h49 h50 h51 h52 h53 h54 ⟨b_isinstance, b_int, b_bool, b_tuple, b_list, b_len, b_sorted, b_range, b_min, b_max, b_zip, b_enumerate, b_set, b_sum, b_repr⟩
