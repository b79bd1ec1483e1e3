import PyProof.Rows.All
import Wide.All
import OpenK.AllK
import Wide.FinOn
import HandS.ForMost
import HandS.Evl
import HandS.Walk
import HandS.Star
import HandS.Zip
import HandS.TupAny
import HandS.TupMul
import HandS.SortInts
import KE.SortData
import KE.DatumOrd
import KE.DataMinMax
import HandS.TupLe
import KE.GoesNew
import KE.GoesEnum
import KE.KItemsList
import KE.KDictZip
import PySem.Challenge.RW_owedbeside_k96_returns_in_a_cut_that_lea
set_option Elab.async false
set_option linter.all false
set_option maxRecDepth 100000
set_option maxHeartbeats 4000000
/-! A layer of judgements over plain data (PyData) and a store of mutable lists. -/
namespace Dt
open PySem PySem.Spec PyProof.Rows L2
open Evl (Ex)

/-- the mutable lists: where, what they hold -/
abbrev Mm := List (Addr × List PyData)
/-- what a value is: data that never changes, or a mutable list -/
inductive Ent where
  | d (x : PyData)
  | m (a : Addr)
  | s (xs : List PyData)
abbrev Rho := List (Option Ent)

def msk (H : Hp) (M : Mm) : Hp := fun a => if a ∈ M.map (·.1) then none else H a
theorem msk_sub {H : Hp} {M : Mm} : Ex (msk H M) H := fun a o h => by
  unfold msk at h
  split at h
  · cases h
  · exact h
theorem msk_out {H : Hp} {M : Mm} {a : Addr} (h : a ∉ M.map (·.1)) : msk H M a = H a := by unfold msk; rw [if_neg h]
theorem msk_nil {H : Hp} : msk H [] = H := by funext a; unfold msk; simp

variable {K : PySem.W.Frag}
mutual
/-- v is the data d: None, a truth, an int, a text, a list (tracked), a tuple -/
inductive Dp (K : PySem.W.Frag) (H : Hp) : V → PyData → Prop
  | non : Dp K H .non .none
  | bl (b : Bool) : Dp K H (.bl b) (.bool b)
  | int (i : Int) : Dp K H (.int i) (.int i)
  | str (x : Str) : Dp K H (.str x) (.str x)
  | lst {a : Addr} {xs : List V} {ds : List PyData} : H a = some (.lst xs) → DpAll K H xs ds → Dp K H (.ref a) (.list ds)
  | tup {a : Addr} {xs : List V} {ds : List PyData} : SqT K H a xs → DpAll K H xs ds → Dp K H (.ref a) (.tuple ds)
inductive DpAll (K : PySem.W.Frag) (H : Hp) : List V → List PyData → Prop
  | nil : DpAll K H [] []
  | cons {v : V} {vs : List V} {d : PyData} {ds : List PyData} : Dp K H v d → DpAll K H vs ds → DpAll K H (v :: vs) (d :: ds)
end
mutual
theorem Dp.toL {H : Hp} : ∀ (d : PyData) (v : V), Dp K H v d → L2.Dp K H v d
  | .none, _, h => by cases h; exact .non
  | .bool b, _, h => by cases h; exact .bl b
  | .int i, _, h => by cases h; exact .int i
  | .str x, _, h => by cases h; exact .str x
  | .list ds, _, h => by
    cases h with
    | lst hs ha => exact .lst (.inl (.inl hs)) (DpAll.toL ds _ ha)
  | .tuple ds, _, h => by
    cases h with
    | tup hs ha => exact .tup hs (DpAll.toL ds _ ha)
  | .dict _, _, h => by cases h
theorem DpAll.toL {H : Hp} : ∀ (ds : List PyData) (vs : List V), DpAll K H vs ds → L2.DpAll K H vs ds
  | [], _, h => by cases h; exact .nil
  | d :: ds, _, h => by
    cases h with
    | cons h1 h2 => exact .cons (Dp.toL d _ h1) (DpAll.toL ds _ h2)
end
mutual
theorem dp_ex {H H' : Hp} (e : Ex H H') : ∀ (d : PyData) (v : V), Dp K H v d → Dp K H' v d
  | .none, _, h => by cases h; exact .non
  | .bool b, _, h => by cases h; exact .bl b
  | .int i, _, h => by cases h; exact .int i
  | .str x, _, h => by cases h; exact .str x
  | .list ds, _, h => by
    cases h with
    | lst hs ha => exact .lst (e _ _ hs) (dpa_ex e ds _ ha)
  | .tuple ds, _, h => by
    cases h with
    | tup hs ha => exact .tup (Evl.ex_t e hs) (dpa_ex e ds _ ha)
  | .dict _, _, h => by cases h
theorem dpa_ex {H H' : Hp} (e : Ex H H') : ∀ (ds : List PyData) (vs : List V), DpAll K H vs ds → DpAll K H' vs ds
  | [], _, h => by cases h; exact .nil
  | d :: ds, _, h => by
    cases h with
    | cons h1 h2 => exact .cons (dp_ex e d _ h1) (dpa_ex e ds _ h2)
end
theorem DpAll.len {H : Hp} : ∀ {vs : List V} {ds : List PyData}, DpAll K H vs ds → vs.length = ds.length
  | _, _, .nil => rfl
  | _, _, .cons _ t => by rw [List.length_cons, List.length_cons, DpAll.len t]
theorem DpAll.app {H : Hp} : ∀ {vs ws : List V} {ds es : List PyData}, DpAll K H vs ds → DpAll K H ws es → DpAll K H (vs ++ ws) (ds ++ es)
  | _, _, _, _, .nil, h => h
  | _, _, _, _, .cons a t, h => .cons a (DpAll.app t h)
theorem DpAll.get {H : Hp} : ∀ {vs : List V} {ds : List PyData} {i : Nat} {d : PyData}, DpAll K H vs ds → ds[i]? = some d → ∃ v, vs[i]? = some v ∧ Dp K H v d
  | _, _, _, _, .nil, e => by simp at e
  | _, _, 0, _, .cons a t, e => by simp at e; subst e; exact ⟨_, rfl, a⟩
  | _, _, i + 1, d, .cons a t, e => by
    obtain ⟨v, h1, h2⟩ := DpAll.get (i := i) (d := d) t (by simpa using e)
    exact ⟨v, by simpa using h1, h2⟩
theorem DpAll.take {H : Hp} : ∀ {vs : List V} {ds : List PyData} (n : Nat), DpAll K H vs ds → DpAll K H (vs.take n) (ds.take n)
  | _, _, 0, _ => by simp; exact .nil
  | _, _, _ + 1, .nil => by simp; exact .nil
  | _, _, n + 1, .cons a t => by simp only [List.take_succ_cons]; exact .cons a (DpAll.take n t)
theorem DpAll.drop {H : Hp} : ∀ {vs : List V} {ds : List PyData} (n : Nat), DpAll K H vs ds → DpAll K H (vs.drop n) (ds.drop n)
  | _, _, 0, h => by simpa using h
  | _, _, _ + 1, .nil => by simp; exact .nil
  | _, _, n + 1, .cons a t => by simp only [List.drop_succ_cons]; exact DpAll.drop n t
theorem DpAll.set {H : Hp} {v : V} {d : PyData} (hv : Dp K H v d) : ∀ {vs : List V} {ds : List PyData} (i : Nat), DpAll K H vs ds → DpAll K H (vs.set i v) (ds.set i d)
  | _, _, _, .nil => by simp; exact .nil
  | _, _, 0, .cons a t => .cons hv t
  | _, _, i + 1, .cons a t => .cons a (DpAll.set hv i t)
theorem DpAll.erase {H : Hp} : ∀ {vs : List V} {ds : List PyData} (i : Nat), DpAll K H vs ds → DpAll K H (vs.eraseIdx i) (ds.eraseIdx i)
  | _, _, _, .nil => by simp; exact .nil
  | _, _, 0, .cons a t => t
  | _, _, i + 1, .cons a t => .cons a (DpAll.erase i t)
theorem DpAll.ints {H : Hp} : ∀ (ns : List Int), DpAll K H (ns.map V.int) (ns.map PyData.int)
  | [] => .nil
  | n :: ns => .cons (.int n) (DpAll.ints ns)
theorem DpAll.ints_inv {H : Hp} : ∀ {ns : List Int} {vs : List V}, DpAll K H vs (ns.map PyData.int) → vs = ns.map V.int
  | [], _, h => by cases h; rfl
  | n :: ns, _, h => by
    cases h with
    | cons a t => cases a; rw [DpAll.ints_inv t]; rfl
theorem DpAll.bls_inv {H : Hp} : ∀ {ns : List Bool} {vs : List V}, DpAll K H vs (ns.map PyData.bool) → vs = ns.map V.bl
  | [], _, h => by cases h; rfl
  | n :: ns, _, h => by
    cases h with
    | cons a t => cases a; rw [DpAll.bls_inv t]; rfl

def Vl (K : PySem.W.Frag) (H : Hp) (v : V) : Ent → Prop
  | .d x => Dp K H v x
  | .m a => v = .ref a
  | .s ds => ∃ a xs, v = .ref a ∧ SqL K H a xs ∧ DpAll K H xs ds
theorem Vl.ex {H H' : Hp} {v : V} {e : Ent} (x : Ex H H') (h : Vl K H v e) : Vl K H' v e := by
  cases e with
  | d y => exact dp_ex x y v h
  | m a => exact h
  | s ds =>
    obtain ⟨a, xs, e, h1, h2⟩ := h
    exact ⟨a, xs, e, Evl.ex_l x h1, dpa_ex x ds _ h2⟩
structure MAt (K : PySem.W.Frag) (M : Mm) (H : Hp) : Prop where
  nd : (M.map (·.1)).Nodup
  at_ : ∀ p ∈ M, ∃ vs, H p.1 = some (.lst vs) ∧ DpAll K (msk H M) vs p.2
structure Env (K : PySem.W.Frag) (H : Hp) (σ : L2.St) (ρ : Rho) : Prop where
  len : σ.length = ρ.length
  get : ∀ (i : Nat) (e : Ent), ρ[i]? = some (some e) → ∃ v, σ[i]? = some (some v) ∧ Vl K H v e
theorem Env.ex {H H' : Hp} {σ : L2.St} {ρ : Rho} (x : Ex H H') (h : Env K H σ ρ) : Env K H' σ ρ :=
  ⟨h.len, fun i e q => let ⟨v, h1, h2⟩ := h.get i e q; ⟨v, h1, h2.ex x⟩⟩
theorem Env.set {H : Hp} {σ : L2.St} {ρ : Rho} {i : Nat} {v : V} {e : Ent} (h : Env K H σ ρ) (hv : Vl K H v e) : Env K H (σ.set i (some v)) (ρ.set i (some e)) := by
  refine ⟨by simp [h.len], fun j e' q => ?_⟩
  by_cases hj : i = j
  · subst hj
    by_cases hl : i < ρ.length
    · rw [List.getElem?_set_self hl] at q; cases q
      exact ⟨v, by rw [List.getElem?_set_self (by rw [h.len]; exact hl)], hv⟩
    · rw [List.getElem?_eq_none (by simpa using hl)] at q; cases q
  · rw [List.getElem?_set_ne hj] at q ⊢
    exact h.get j e' q
theorem MAt.fresh {M : Mm} {H : Hp} {p : Addr} (h : MAt K M H) (hp : H p = none) : p ∉ M.map (·.1) := fun hm => by
  obtain ⟨q, hq, rfl⟩ := List.mem_map.mp hm
  obtain ⟨vs, e, _⟩ := h.at_ q hq
  rw [hp] at e; cases e
/-- a new object beside the store -/
theorem ex_new {M : Mm} {H : Hp} {p : Addr} {o : HO} (hp : H p = none) : Ex (msk H M) (msk (upd H p o) M) := fun a u h => by
  unfold msk at h ⊢
  split at h
  · cases h
  · rename_i hn
    rw [if_neg hn, upd_ne (ne_of_none h hp)]; exact h
theorem MAt.ex {M : Mm} {H H' : Hp} (h : MAt K M H) (e : Ex H H') : MAt K M H' := by
  refine ⟨h.nd, fun p hp => ?_⟩
  obtain ⟨vs, q, hd⟩ := h.at_ p hp
  refine ⟨vs, e _ _ q, dpa_ex (fun a u z => ?_) _ _ hd⟩
  unfold msk at z ⊢
  split at z
  · cases z
  · rename_i hn; rw [if_neg hn]; exact e a u z
theorem ex_of {M : Mm} {H H' : Hp} (e : Ex H H') : Ex (msk H M) (msk H' M) := fun a u z => by
  unfold msk at z ⊢
  split at z
  · cases z
  · rename_i hn; rw [if_neg hn]; exact e a u z
theorem vl_new {M : Mm} {H : Hp} {p : Addr} {vs : List V} {ds : List PyData} (hM : MAt K M H) (hp : H p = none) (hd : DpAll K (msk H M) vs ds) : Vl K (msk (upd H p (.tup vs)) M) (.ref p) (.d (.tuple ds)) :=
  .tup (.inl (.inl (by rw [msk_out (hM.fresh hp), upd_same]))) (dpa_ex (ex_new hp) _ _ hd)
theorem vl_newL {M : Mm} {H : Hp} {p : Addr} {vs : List V} {ds : List PyData} (hM : MAt K M H) (hp : H p = none) (hd : DpAll K (msk H M) vs ds) : Vl K (msk (upd H p (.lst vs)) M) (.ref p) (.d (.list ds)) :=
  .lst (by rw [msk_out (hM.fresh hp), upd_same]) (dpa_ex (ex_new hp) _ _ hd)
theorem MAt.new {M : Mm} {H : Hp} {p : Addr} {o : HO} (h : MAt K M H) (hp : H p = none) : MAt K M (upd H p o) := h.ex (Evl.Ex.new hp)
/-- the store's k-th list is written -/
theorem mset {M : Mm} {k : Nat} {a : Addr} {ds es : List PyData} {ws : List V} {H : Hp} (h : MAt K M H) (hk : M[k]? = some (a, ds)) (hd : DpAll K (msk H M) ws es) :
    MAt K (M.set k (a, es)) (upd H a (.lst ws)) ∧ Ex (msk H M) (msk (upd H a (.lst ws)) (M.set k (a, es))) := by
  have hlt : k < M.length := (List.getElem?_eq_some_iff.mp hk).1
  have keys : (M.set k (a, es)).map (·.1) = M.map (·.1) := by
    rw [List.map_set]
    refine List.ext_getElem? fun j => ?_
    by_cases hj : k = j
    · subst hj; rw [List.getElem?_set_self (by simpa using hlt), List.getElem?_map, hk]; rfl
    · rw [List.getElem?_set_ne hj]
  have ham : a ∈ M.map (·.1) := List.mem_map.mpr ⟨(a, ds), List.mem_of_getElem? hk, rfl⟩
  have eqm : ∀ b, msk (upd H a (.lst ws)) (M.set k (a, es)) b = msk H M b := fun b => by
    unfold msk
    rw [keys]
    split
    · rfl
    · rename_i hb
      rw [upd_ne (fun e => hb (by rw [e]; exact ham))]
  have emsk : msk (upd H a (.lst ws)) (M.set k (a, es)) = msk H M := funext eqm
  refine ⟨⟨by rw [keys]; exact h.nd, fun p hp => ?_⟩, fun b o q => by rw [emsk]; exact q⟩
  rw [emsk]
  obtain ⟨j, hj⟩ := List.mem_iff_getElem?.mp hp
  by_cases hkj : k = j
  · subst hkj
    rw [List.getElem?_set_self hlt] at hj; cases hj
    exact ⟨ws, upd_same, hd⟩
  · rw [List.getElem?_set_ne hkj] at hj
    obtain ⟨vs, e1, e2⟩ := h.at_ p (List.mem_of_getElem? hj)
    refine ⟨vs, ?_, e2⟩
    rw [upd_ne (fun e => hkj ?_)]
    · exact e1
    · have hj' : (M.map (·.1))[j]? = some a := by rw [List.getElem?_map, hj]; exact congrArg some e
      have hk' : (M.map (·.1))[k]? = some a := by rw [List.getElem?_map, hk]; rfl
      exact nd_ix h.nd hk' hj'
/-- a new mutable list -/
theorem mnew {M : Mm} {p : Addr} {ds : List PyData} {ws : List V} {H : Hp} (h : MAt K M H) (hp : H p = none) (hd : DpAll K (msk H M) ws ds) :
    MAt K ((p, ds) :: M) (upd H p (.lst ws)) ∧ Ex (msk H M) (msk (upd H p (.lst ws)) ((p, ds) :: M)) := by
  have hn := h.fresh hp
  have em : Ex (msk H M) (msk (upd H p (.lst ws)) ((p, ds) :: M)) := fun b o q => by
    have hb : b ∉ M.map (·.1) := fun z => by unfold msk at q; rw [if_pos z] at q; cases q
    rw [msk_out hb] at q
    have hbp : b ≠ p := ne_of_none q hp
    rw [msk_out (by simp only [List.map_cons, List.mem_cons]; exact fun z => z.elim hbp hb), upd_ne hbp]; exact q
  refine ⟨⟨by simp only [List.map_cons, List.nodup_cons]; exact ⟨hn, h.nd⟩, fun q hq => ?_⟩, em⟩
  rcases List.mem_cons.mp hq with rfl | hq
  · exact ⟨ws, upd_same, dpa_ex em _ _ hd⟩
  · obtain ⟨vs, e1, e2⟩ := h.at_ q hq
    exact ⟨vs, by rw [upd_ne (ne_of_none e1 hp)]; exact e1, dpa_ex em _ _ e2⟩
/-- part of the store forgotten: its lists are data from then on -/
theorem msk_sub_of {M M' : Mm} {H : Hp} (hs : ∀ p ∈ M', p ∈ M) : Ex (msk H M) (msk H M') := fun b o q => by
  have hb : b ∉ M.map (·.1) := fun z => by unfold msk at q; rw [if_pos z] at q; cases q
  rw [msk_out hb] at q
  rw [msk_out (fun z => hb (by obtain ⟨p, hp, e⟩ := List.mem_map.mp z; exact List.mem_map.mpr ⟨p, hs p hp, e⟩))]; exact q
theorem MAt.sub {M M' : Mm} {H : Hp} (h : MAt K M H) (hs : ∀ p ∈ M', p ∈ M) (nd : (M'.map (·.1)).Nodup) : MAt K M' H :=
  ⟨nd, fun p hp => let ⟨vs, e1, e2⟩ := h.at_ p (hs p hp); ⟨vs, e1, dpa_ex (msk_sub_of hs) _ _ e2⟩⟩
theorem MAt.tail {p : Addr × List PyData} {M : Mm} {H : Hp} (h : MAt K (p :: M) H) : MAt K M H :=
  h.sub (fun q hq => List.mem_cons_of_mem _ hq) (by have := h.nd; simp only [List.map_cons, List.nodup_cons] at this; exact this.2)
theorem ex_tail {p : Addr × List PyData} {M : Mm} {H : Hp} : Ex (msk H (p :: M)) (msk H M) := msk_sub_of fun _ hq => List.mem_cons_of_mem _ hq
theorem MAt.thaw {p : Addr} {ds : List PyData} {M : Mm} {H : Hp} (h : MAt K ((p, ds) :: M) H) : Vl K (msk H M) (.ref p) (.d (.list ds)) := by
  obtain ⟨vs, e1, e2⟩ := h.at_ (p, ds) (List.mem_cons_self ..)
  have hn : p ∉ M.map (·.1) := by have := h.nd; simp only [List.map_cons, List.nodup_cons] at this; exact this.1
  exact .lst (by rw [msk_out hn]; exact e1) (dpa_ex ex_tail _ _ e2)

/-! ### the judgements' readings -/
abbrev QE := Ent → Mm → Prop
def tR (K : PySem.W.Frag) (ρ : Rho) (M : Mm) (Q : QE) : TE := fun σ H k => Env K (msk H M) σ ρ ∧ MAt K M H ∧
  ∀ v H' e M', Ex (msk H M) (msk H' M') → MAt K M' H' → Vl K (msk H' M') v e → Q e M' → k v H'
def tB (K : PySem.W.Frag) (ρ : Rho) (M : Mm) (Q : Bool → Mm → Prop) : TT := fun σ H k => Env K (msk H M) σ ρ ∧ MAt K M H ∧
  ∀ b H' M', Ex (msk H M) (msk H' M') → MAt K M' H' → Q b M' → k b H'
inductive VlAll (K : PySem.W.Frag) (H : Hp) : List V → List Ent → Prop
  | nil : VlAll K H [] []
  | cons {v e vs es} : Vl K H v e → VlAll K H vs es → VlAll K H (v :: vs) (e :: es)
theorem VlAll.ex {H H' : Hp} (x : Ex H H') : ∀ {vs : List V} {es : List Ent}, VlAll K H vs es → VlAll K H' vs es
  | _, _, .nil => .nil
  | _, _, .cons a t => .cons (a.ex x) (VlAll.ex x t)
theorem VlAll.len {H : Hp} : ∀ {vs : List V} {es : List Ent}, VlAll K H vs es → vs.length = es.length
  | _, _, .nil => rfl
  | _, _, .cons _ t => by rw [List.length_cons, List.length_cons, VlAll.len t]
def tL (K : PySem.W.Frag) (ρ : Rho) (M : Mm) (Q : List Ent → Mm → Prop) : TA := fun σ H k => Env K (msk H M) σ ρ ∧ MAt K M H ∧
  ∀ vs H' es M', Ex (msk H M) (msk H' M') → MAt K M' H' → VlAll K (msk H' M') vs es → Q es M' → k vs H'
def tPt (K : PySem.W.Frag) (ρ : Rho) (M : Mm) (Q : Option Int → Mm → Prop) : TO := fun σ H k => Env K (msk H M) σ ρ ∧ MAt K M H ∧
  ∀ o H' M', Ex (msk H M) (msk H' M') → MAt K M' H' → Q o M' → k o H'

/-- e runs, from slots ρ and store M, to a value and a store of which Q holds -/
def DE (X : Cx) (e : Expr) (ρ : Rho) (M : Mm) (Q : QE) : Prop := PE X e (tR X.K ρ M Q)
def DT (X : Cx) (e : Expr) (ρ : Rho) (M : Mm) (Q : Bool → Mm → Prop) : Prop := PT X e (tB X.K ρ M Q)
def DW (X : Cx) (e : Expr) (ρ : Rho) (M : Mm) (Q : Bool → Mm → Prop) : Prop := PW X e (tB X.K ρ M Q)
def DA (X : Cx) (es : List Expr) (ρ : Rho) (M : Mm) (Q : List Ent → Mm → Prop) : Prop := PA X es (tL X.K ρ M Q)
def DO (X : Cx) (e : Option Expr) (ρ : Rho) (M : Mm) (Q : Option Int → Mm → Prop) : Prop := PO X e (tPt X.K ρ M Q)

/-! ### whatever is shown of a part, as one reading -/
def uE (X : Cx) (e : Expr) : TE := fun σ H k => ∃ ρ M Q, DE X e ρ M Q ∧ tR X.K ρ M Q σ H k
theorem pe_u (X : Cx) (e : Expr) : PE X e (uE X e) := ⟨fun pins s σ H Q I ⟨ρ, M, Q', h, t⟩ => h.run pins s σ H Q I t⟩
def uT (X : Cx) (e : Expr) : TT := fun σ H k => ∃ ρ M Q, DT X e ρ M Q ∧ tB X.K ρ M Q σ H k
theorem pt_u (X : Cx) (e : Expr) : PT X e (uT X e) := ⟨fun pins s σ H Q I ⟨ρ, M, Q', h, t⟩ => h.run pins s σ H Q I t⟩
def uW (X : Cx) (e : Expr) : TT := fun σ H k => ∃ ρ M Q, DW X e ρ M Q ∧ tB X.K ρ M Q σ H k
theorem pw_u (X : Cx) (e : Expr) : PW X e (uW X e) := ⟨fun wh pins s σ H Q I ⟨ρ, M, Q', h, t⟩ => h.run wh pins s σ H Q I t⟩
def uA (X : Cx) (es : List Expr) : TA := fun σ H k => ∃ ρ M Q, DA X es ρ M Q ∧ tL X.K ρ M Q σ H k
theorem pa_u (X : Cx) (es : List Expr) : PA X es (uA X es) := ⟨fun ps pins s σ H Q I ⟨ρ, M, Q', h, t⟩ => h.run ps pins s σ H Q I t⟩
def uO (X : Cx) (e : Option Expr) : TO := fun σ H k => ∃ ρ M Q, DO X e ρ M Q ∧ tPt X.K ρ M Q σ H k
end Dt

namespace Dt
open PySem PySem.Spec PyProof.Rows L2
open Evl (Ex)
variable {K : PySem.W.Frag} {X : Cx} {ρ : Rho} {M : Mm} {Q : QE} {pos : Pos} {a b c e : Expr}

abbrev Go (K : PySem.W.Frag) (M : Mm) (H : Hp) (Q : QE) (k : VK) : Prop :=
  ∀ v H' e M', Ex (msk H M) (msk H' M') → MAt K M' H' → Vl K (msk H' M') v e → Q e M' → k v H'
theorem Go.on {M M1 : Mm} {H H1 : Hp} {Q : QE} {k : VK} (g : Go K M H Q k) (e : Ex (msk H M) (msk H1 M1)) : Go K M1 H1 Q k :=
  fun v H' en M' x => g v H' en M' (e.trans x)
theorem Go.at_ {M : Mm} {H : Hp} {Q : QE} {k : VK} {v : V} {e : Ent} (g : Go K M H Q k) (hM : MAt K M H) (hv : Vl K (msk H M) v e) (q : Q e M) : k v H := g v H e M (Ex.refl _) hM hv q
theorem Go.dat {M : Mm} {H : Hp} {Q : QE} {k : VK} {v : V} {d : PyData} (g : Go K M H Q k) (hM : MAt K M H) (hv : Dp K (msk H M) v d) (q : Q (.d d) M) : k v H := g v H (.d d) M (Ex.refl _) hM hv q
theorem Go.newT {M : Mm} {H : Hp} {Q : QE} {k : VK} {vs : List V} {ds : List PyData} (g : Go K M H Q k) (hM : MAt K M H) (hd : DpAll K (msk H M) vs ds) (q : Q (.d (.tuple ds)) M) (p : Addr) (hp : H p = none) : k (.ref p) (upd H p (.tup vs)) :=
  g _ _ _ M (ex_new hp) (hM.new hp) (vl_new hM hp hd) q
theorem Go.newL {M : Mm} {H : Hp} {Q : QE} {k : VK} {vs : List V} {ds : List PyData} (g : Go K M H Q k) (hM : MAt K M H) (hd : DpAll K (msk H M) vs ds) (q : Q (.d (.list ds)) M) (p : Addr) (hp : H p = none) : k (.ref p) (upd H p (.lst vs)) :=
  g _ _ _ M (ex_new hp) (hM.new hp) (vl_newL hM hp hd) q
theorem Go.newM {M : Mm} {H : Hp} {Q : QE} {k : VK} {vs : List V} {ds : List PyData} (g : Go K M H Q k) (hM : MAt K M H) (hd : DpAll K (msk H M) vs ds) (q : ∀ p, Q (.m p) ((p, ds) :: M)) (p : Addr) (hp : H p = none) : k (.ref p) (upd H p (.lst vs)) :=
  let z := mnew hM hp hd
  g _ _ (.m p) _ z.2 z.1 rfl (q p)

/-- a two-place reading of values, a one-place one, a call's, by what the values are -/
def R2D (K : PySem.W.Frag) (r : R2) (ea eb : Ent) (M : Mm) (Q : QE) : Prop := ∀ x y H k, MAt K M H → Vl K (msk H M) x ea → Vl K (msk H M) y eb → Go K M H Q k → r x y H k
def R1D (K : PySem.W.Frag) (r : V → Hp → VK → Prop) (ea : Ent) (M : Mm) (Q : QE) : Prop := ∀ x H k, MAt K M H → Vl K (msk H M) x ea → Go K M H Q k → r x H k
def RCD (K : PySem.W.Frag) (r : List V → Hp → VK → Prop) (es : List Ent) (M : Mm) (Q : QE) : Prop := ∀ vs H k, MAt K M H → VlAll K (msk H M) vs es → Go K M H Q k → r vs H k

theorem run2 {a b : Expr} {σ : L2.St} {H : Hp} {r : R2} {k : VK} (h : DE X a ρ M fun ea M1 => DE X b ρ M1 fun eb M2 => R2D X.K r ea eb M2 Q) (hE : Env X.K (msk H M) σ ρ) (hM : MAt X.K M H) (g : Go X.K M H Q k) :
    tOp r (uE X a) (uE X b) σ H k :=
  ⟨ρ, M, _, h, hE, hM, fun va H1 ea M1 x1 m1 v1 q1 => ⟨ρ, M1, _, q1, hE.ex x1, m1, fun vb H2 eb M2 x2 m2 v2 q2 => q2 va vb H2 k m2 (v1.ex x2) v2 (g.on (x1.trans x2))⟩⟩
theorem de_imp {t : TE} (h : PE X e t) (w : ∀ σ H k, Env X.K (msk H M) σ ρ → MAt X.K M H → Go X.K M H Q k → t σ H k) : DE X e ρ M Q :=
  ⟨fun pins s σ H k I ⟨h1, h2, h3⟩ => h.run pins s σ H k I (w σ H k h1 h2 h3)⟩
theorem dt_imp {t : TT} {Q : Bool → Mm → Prop} (h : PT X e t) (w : ∀ σ H k, Env X.K (msk H M) σ ρ → MAt X.K M H → (∀ b H' M', Ex (msk H M) (msk H' M') → MAt X.K M' H' → Q b M' → k b H') → t σ H k) : DT X e ρ M Q :=
  ⟨fun pins s σ H k I ⟨h1, h2, h3⟩ => h.run pins s σ H k I (w σ H k h1 h2 h3)⟩
theorem dw_imp {t : TT} {Q : Bool → Mm → Prop} (h : PW X e t) (w : ∀ σ H k, Env X.K (msk H M) σ ρ → MAt X.K M H → (∀ b H' M', Ex (msk H M) (msk H' M') → MAt X.K M' H' → Q b M' → k b H') → t σ H k) : DW X e ρ M Q :=
  ⟨fun wh pins s σ H k I ⟨h1, h2, h3⟩ => h.run wh pins s σ H k I (w σ H k h1 h2 h3)⟩
theorem de_mono {Q' : QE} (h : DE X e ρ M Q) (q : ∀ e M, Q e M → Q' e M) : DE X e ρ M Q' :=
  de_imp h fun σ H k hE hM g => ⟨hE, hM, fun v H' en M' x m vl qq => g v H' en M' x m vl (q _ _ qq)⟩

/-! ### names, constants -/
theorem de_var (i : Nat) {x : Str} {en : Ent} (hr : ρ[i]? = some (some en)) (q : Q en M) (hN : X.N[i]? = some x := by rfl) (hv : Vis X.env.scope x := by first | exact Or.inl rfl | exact Or.inr (Or.inl rfl) | exact Or.inr (Or.inr rfl)) (hd : (x == ("__debug__" : Str)) = false := by decide)
    (hcd : (x == ("__classdict__" : Str)) = false := by decide) : DE X (.Name x pos) ρ M Q :=
  de_imp (pe_var hN hv hd hcd) fun σ H k hE hM g => let ⟨v, h1, h2⟩ := hE.get i en hr; ⟨v, h1, g.at_ hM h2 q⟩
theorem de_int {i j} (q : Q (.d (.int i)) M) : DE X (.Constant (.int i) j pos) ρ M Q := de_imp pe_int fun _ _ _ _ hM g => g.dat hM (.int i) q
theorem de_bl {i j} (q : Q (.d (.bool i)) M) : DE X (.Constant (.bool i) j pos) ρ M Q := de_imp pe_bl fun _ _ _ _ hM g => g.dat hM (.bl i) q
theorem de_non {j} (q : Q (.d .none) M) : DE X (.Constant .none j pos) ρ M Q := de_imp pe_non fun _ _ _ _ hM g => g.dat hM .non q
theorem de_str {i j} (q : Q (.d (.str i)) M) : DE X (.Constant (.str i) j pos) ρ M Q := de_imp pe_str fun _ _ _ _ hM g => g.dat hM (.str i) q

/-! ### operators -/
theorem de_op {op : Operator} {r : R2} (ho : OpR X (binaryOp op) r) (h : DE X a ρ M fun ea M1 => DE X b ρ M1 fun eb M2 => R2D X.K r ea eb M2 Q) : DE X (.BinOp a op b pos) ρ M Q :=
  de_imp (pe_op ho (pe_u X a) (pe_u X b)) fun σ H k hE hM g => run2 h hE hM g
theorem de_cmp {op : CmpOp} {r : R2} (ho : OpR X (compareOp op) r) (h : DE X a ρ M fun ea M1 => DE X b ρ M1 fun eb M2 => R2D X.K r ea eb M2 Q) (hm : behindInMarks op b = false := by first | exact nomark _ | rfl) : DE X (.Compare a [op] [b] pos) ρ M Q :=
  de_imp (pe_cmpR ho (pe_u X a) (pe_u X b) hm) fun σ H k hE hM g => run2 h hE hM g
theorem de_un {op : UnaryOp} {r : V → Hp → VK → Prop} (ho : UnR X (unaryOp op) r) (h : DE X a ρ M fun ea M1 => R1D X.K r ea M1 Q) : DE X (.UnaryOp op a pos) ρ M Q :=
  de_imp (pe_un ho (pe_u X a)) fun σ H k hE hM g => ⟨ρ, M, _, h, hE, hM, fun va H1 ea M1 x1 m1 v1 q1 => q1 va H1 k m1 v1 (g.on x1)⟩
/-- ints -/
theorem r2_I0 {f : Int → Int → V} {i j : Int} {d : PyData} (hf : ∀ H, Dp K H (f i j) d) (q : Q (.d d) M) : R2D K (rI0 f) (.d (.int i)) (.d (.int j)) M Q := fun x y H k hM hx hy g => by
  cases hx; cases hy; exact ⟨i, j, rfl, rfl, g.dat hM (hf _) q⟩
theorem r2_I {C : Int → Int → Prop} {f : Int → Int → V} {i j : Int} {d : PyData} (hf : ∀ H, Dp K H (f i j) d) (hc : C i j) (q : Q (.d d) M) : R2D K (rI C f) (.d (.int i)) (.d (.int j)) M Q := fun x y H k hM hx hy g => by
  cases hx; cases hy; exact ⟨i, j, rfl, rfl, hc, g.dat hM (hf _) q⟩
theorem o_add {i j : Int} (q : Q (.d (.int (i + j))) M) : R2D K (rI0 fun i j => .int (i + j)) (.d (.int i)) (.d (.int j)) M Q := r2_I0 (fun _ => .int _) q
theorem o_sub {i j : Int} (q : Q (.d (.int (i - j))) M) : R2D K (rI0 fun i j => .int (i - j)) (.d (.int i)) (.d (.int j)) M Q := r2_I0 (fun _ => .int _) q
theorem o_mul {i j : Int} (hc : CMul i j) (q : Q (.d (.int (i * j))) M) : R2D K (rI CMul fun i j => .int (i * j)) (.d (.int i)) (.d (.int j)) M Q := r2_I (fun _ => .int _) hc q
theorem o_div {i j : Int} (hc : CDiv i j) (q : Q (.d (.int (i / j))) M) : R2D K (rI CDiv fun i j => .int (i / j)) (.d (.int i)) (.d (.int j)) M Q := r2_I (fun _ => .int _) hc q
theorem o_mod {i j : Int} (hc : 0 < j) (q : Q (.d (.int (i % j))) M) : R2D K (rI (fun _ j => 0 < j) fun i j => .int (i % j)) (.d (.int i)) (.d (.int j)) M Q := r2_I (fun _ => .int _) hc q
theorem o_pow {i j : Int} (hc : CPow i j) (q : Q (.d (.int (i ^ j.toNat))) M) : R2D K (rI CPow fun i j => .int (i ^ j.toNat)) (.d (.int i)) (.d (.int j)) M Q := r2_I (fun _ => .int _) hc q
theorem o_lt {i j : Int} (q : Q (.d (.bool (decide (i < j)))) M) : R2D K (rI0 fun i j => .bl (decide (i < j))) (.d (.int i)) (.d (.int j)) M Q := r2_I0 (fun _ => .bl _) q
theorem o_le {i j : Int} (q : Q (.d (.bool (decide (i ≤ j)))) M) : R2D K (rI0 fun i j => .bl (decide (i ≤ j))) (.d (.int i)) (.d (.int j)) M Q := r2_I0 (fun _ => .bl _) q
theorem o_gt {i j : Int} (q : Q (.d (.bool (decide (j < i)))) M) : R2D K (rI0 fun i j => .bl (decide (j < i))) (.d (.int i)) (.d (.int j)) M Q := r2_I0 (fun _ => .bl _) q
theorem o_ge {i j : Int} (q : Q (.d (.bool (decide (j ≤ i)))) M) : R2D K (rI0 fun i j => .bl (decide (j ≤ i))) (.d (.int i)) (.d (.int j)) M Q := r2_I0 (fun _ => .bl _) q
theorem o_neg {i : Int} (q : Q (.d (.int (-i))) M) : R1D K (rU fun i => .int (-i)) (.d (.int i)) M Q := fun x H k hM hx g => by cases hx; exact ⟨i, rfl, g.dat hM (.int _) q⟩
/-- == of data -/
theorem o_eq {d e : PyData} (hd : SeqAt.shaped d = true) (he : SeqAt.shaped e = true) (q : Q (.d (.bool (PyData.eqv d e))) M) : R2D K (rEqD K) (.d d) (.d e) M Q := fun x y H k hM hx hy g =>
  ⟨d, e, (dp_ex msk_sub _ _ hx).toL, (dp_ex msk_sub _ _ hy).toL, hd, he, g.dat hM (.bl _) q⟩
theorem o_ne {d e : PyData} (hd : SeqAt.shaped d = true) (he : SeqAt.shaped e = true) (q : Q (.d (.bool (!PyData.eqv d e))) M) : R2D K (rNeD K) (.d d) (.d e) M Q := fun x y H k hM hx hy g =>
  ⟨d, e, (dp_ex msk_sub _ _ hx).toL, (dp_ex msk_sub _ _ hy).toL, hd, he, g.dat hM (.bl _) q⟩
/-- == where one side is a mutable list: it is read as data -/
theorem thaw_at {M : Mm} {k : Nat} {a : Addr} {ds : List PyData} {H : Hp} (hM : MAt K M H) (hk : M[k]? = some (a, ds)) : Dp K H (.ref a) (.list ds) := by
  obtain ⟨vs, e1, e2⟩ := hM.at_ _ (List.mem_of_getElem? hk)
  exact .lst e1 (dpa_ex msk_sub _ _ e2)
theorem o_eqM {a : Addr} {ds : List PyData} (k : Nat) {e : PyData} (hk : M[k]? = some (a, ds)) (hd : SeqAt.shaped (.list ds) = true) (he : SeqAt.shaped e = true) (q : Q (.d (.bool (PyData.eqv (.list ds) e))) M) : R2D K (rEqD K) (.m a) (.d e) M Q := fun x y H kk hM hx hy g => by
  cases hx
  exact ⟨_, e, (thaw_at hM hk).toL, (dp_ex msk_sub _ _ hy).toL, hd, he, g.dat hM (.bl _) q⟩
theorem o_neM {a : Addr} {ds : List PyData} (k : Nat) {e : PyData} (hk : M[k]? = some (a, ds)) (hd : SeqAt.shaped (.list ds) = true) (he : SeqAt.shaped e = true) (q : Q (.d (.bool (!PyData.eqv (.list ds) e))) M) : R2D K (rNeD K) (.m a) (.d e) M Q := fun x y H kk hM hx hy g => by
  cases hx
  exact ⟨_, e, (thaw_at hM hk).toL, (dp_ex msk_sub _ _ hy).toL, hd, he, g.dat hM (.bl _) q⟩
/-- is None, is not None -/
def isNon : PyData → Bool
  | .none => true
  | _ => false
theorem dp_non {H : Hp} {x : V} {d : PyData} (h : Dp K H x d) : decide (x = V.non) = isNon d := by
  cases h <;> simp [isNon]
theorem o_is {d : PyData} (q : Q (.d (.bool (isNon d))) M) : R2D K (fun x y H Q => y = .non ∧ Q (.bl (decide (x = .non))) H) (.d d) (.d .none) M Q := fun x y H k hM hx hy g => by
  cases hy
  refine ⟨rfl, ?_⟩
  rw [dp_non hx]
  exact g.dat hM (.bl _) q
theorem o_isn {d : PyData} (q : Q (.d (.bool (!isNon d))) M) : R2D K (fun x y H Q => y = .non ∧ Q (.bl (!decide (x = .non))) H) (.d d) (.d .none) M Q := fun x y H k hM hx hy g => by
  cases hy
  refine ⟨rfl, ?_⟩
  rw [dp_non hx]
  exact g.dat hM (.bl _) q

/-! ### tests -/
theorem dt_val {t : Bool → Mm → Prop} (h : DE X e ρ M fun en M1 => ∃ b, en = .d (.bool b) ∧ t b M1) (he : ∀ whole, isTrue e X.env whole = (do let v ← whole; standAt e.pos; holding [v] (truthy v)) := by intro _; rfl) : DT X e ρ M t :=
  dt_imp (pt_val (pe_u X e) he) fun σ H k hE hM g => ⟨ρ, M, _, h, hE, hM, fun v H1 en M1 x1 m1 v1 ⟨b, eb, q1⟩ => by
    subst eb
    have v1' : Dp X.K (msk H1 M1) v (.bool b) := v1
    cases v1'
    exact ⟨b, rfl, g b H1 M1 x1 m1 q1⟩⟩
theorem dt_cmp {op : CmpOp} {r : R2} {t : Bool → Mm → Prop} (ho : OpR X (compareOp op) r) (h : DE X a ρ M fun ea M1 => DE X b ρ M1 fun eb M2 => R2D X.K r ea eb M2 fun en M3 => ∃ b, en = .d (.bool b) ∧ t b M3) (hm : behindInMarks op b = false := by first | exact nomark _ | rfl) : DT X (.Compare a [op] [b] pos) ρ M t :=
  dt_imp (pt_cmpR ho (pe_u X a) (pe_u X b) hm) fun σ H k hE hM g => run2 h hE hM fun v H1 en M1 x1 m1 v1 ⟨b, eb, q1⟩ => by
    subst eb
    have v1' : Dp X.K (msk H1 M1) v (.bool b) := v1
    cases v1'
    exact ⟨b, rfl, g b H1 M1 x1 m1 q1⟩
theorem dw_pt {t : Bool → Mm → Prop} (h : DW X e ρ M t) : DT X e ρ M t := h.pt
theorem dw_and1 {t : Bool → Mm → Prop} (h : DT X a ρ M t) : DW X (.BoolOp .And [a] pos) ρ M t := pw_and1 h
theorem dw_or1 {t : Bool → Mm → Prop} (h : DT X a ρ M t) : DW X (.BoolOp .Or [a] pos) ρ M t := pw_or1 h
theorem dw_and {t : Bool → Mm → Prop} {rest : List Expr} (h : DT X a ρ M fun c M1 => (c = true → DW X (.BoolOp .And (b :: rest) pos) ρ M1 t) ∧ (c = false → t false M1)) : DW X (.BoolOp .And (a :: b :: rest) pos) ρ M t :=
  dw_imp (pw_and (pt_u X a) (pw_u X _)) fun σ H k hE hM g => ⟨ρ, M, _, h, hE, hM, fun c H1 M1 x1 m1 q1 => by
    cases c with
    | true => exact ⟨ρ, M1, _, q1.1 rfl, hE.ex x1, m1, fun b H2 M2 x2 m2 q2 => g b H2 M2 (x1.trans x2) m2 q2⟩
    | false => exact g false H1 M1 x1 m1 (q1.2 rfl)⟩
theorem dw_or {t : Bool → Mm → Prop} {rest : List Expr} (h : DT X a ρ M fun c M1 => (c = false → DW X (.BoolOp .Or (b :: rest) pos) ρ M1 t) ∧ (c = true → t true M1)) : DW X (.BoolOp .Or (a :: b :: rest) pos) ρ M t :=
  dw_imp (pw_or (pt_u X a) (pw_u X _)) fun σ H k hE hM g => ⟨ρ, M, _, h, hE, hM, fun c H1 M1 x1 m1 q1 => by
    cases c with
    | false => exact ⟨ρ, M1, _, q1.1 rfl, hE.ex x1, m1, fun b H2 M2 x2 m2 q2 => g b H2 M2 (x1.trans x2) m2 q2⟩
    | true => exact g true H1 M1 x1 m1 (q1.2 rfl)⟩
theorem dt_not {t : Bool → Mm → Prop} (h : DT X a ρ M fun c M1 => t (!c) M1) : DT X (.UnaryOp .Not a pos) ρ M t :=
  dt_imp (pt_not (pt_u X a)) fun σ H k hE hM g => ⟨ρ, M, _, h, hE, hM, fun c H1 M1 x1 m1 q1 => g _ H1 M1 x1 m1 q1⟩
/-- and, or, not as values of truths -/
theorem de_one {op} (h : DE X a ρ M Q) : DE X (.BoolOp op [a] pos) ρ M Q := pe_one h
theorem de_and {rest : List Expr} (h : DE X a ρ M fun en M1 => ∃ c, en = .d (.bool c) ∧ (c = true → DE X (.BoolOp .And (b :: rest) pos) ρ M1 Q) ∧ (c = false → Q (.d (.bool false)) M1)) : DE X (.BoolOp .And (a :: b :: rest) pos) ρ M Q :=
  de_imp (pe_and (pe_u X a) (pe_u X _)) fun σ H k hE hM g => ⟨ρ, M, _, h, hE, hM, fun v H1 en M1 x1 m1 v1 ⟨c, ec, q1, q2⟩ => by
    subst ec
    have v1' : Dp X.K (msk H1 M1) v (.bool c) := v1
    cases v1'
    refine ⟨c, rfl, ?_⟩
    cases c with
    | true => exact ⟨ρ, M1, _, q1 rfl, hE.ex x1, m1, g.on x1⟩
    | false => exact (g.on x1).dat m1 (.bl false) (q2 rfl)⟩
theorem de_or {rest : List Expr} (h : DE X a ρ M fun en M1 => ∃ c, en = .d (.bool c) ∧ (c = false → DE X (.BoolOp .Or (b :: rest) pos) ρ M1 Q) ∧ (c = true → Q (.d (.bool true)) M1)) : DE X (.BoolOp .Or (a :: b :: rest) pos) ρ M Q :=
  de_imp (pe_or (pe_u X a) (pe_u X _)) fun σ H k hE hM g => ⟨ρ, M, _, h, hE, hM, fun v H1 en M1 x1 m1 v1 ⟨c, ec, q1, q2⟩ => by
    subst ec
    have v1' : Dp X.K (msk H1 M1) v (.bool c) := v1
    cases v1'
    refine ⟨c, rfl, ?_⟩
    cases c with
    | false => exact ⟨ρ, M1, _, q1 rfl, hE.ex x1, m1, g.on x1⟩
    | true => exact (g.on x1).dat m1 (.bl true) (q2 rfl)⟩
theorem de_not (h : DE X a ρ M fun en M1 => ∃ c, en = .d (.bool c) ∧ Q (.d (.bool (!c))) M1) : DE X (.UnaryOp .Not a pos) ρ M Q :=
  de_imp (pe_not (pe_u X a)) fun σ H k hE hM g => ⟨ρ, M, _, h, hE, hM, fun v H1 en M1 x1 m1 v1 ⟨c, ec, q1⟩ => by
    subst ec
    have v1' : Dp X.K (msk H1 M1) v (.bool c) := v1
    cases v1'
    exact ⟨c, rfl, (g.on x1).dat m1 (.bl _) q1⟩⟩
theorem de_ife (h : DT X c ρ M fun k M1 => (k = true → DE X a ρ M1 Q) ∧ (k = false → DE X b ρ M1 Q)) : DE X (.IfExp c a b pos) ρ M Q :=
  de_imp (pe_ifExp (pt_u X c) (pe_u X a) (pe_u X b)) fun σ H k hE hM g => ⟨ρ, M, _, h, hE, hM, fun d H1 M1 x1 m1 q1 => by
    cases d with
    | true => exact ⟨ρ, M1, _, q1.1 rfl, hE.ex x1, m1, g.on x1⟩
    | false => exact ⟨ρ, M1, _, q1.2 rfl, hE.ex x1, m1, g.on x1⟩⟩
/-- a list, a tuple, an int as a test -/
theorem sz_le {n : Nat} (h : n ≤ 100000) : n ≤ sizeLine := Nat.le_trans h (by decide)
theorem dt_truth {t : Bool → Mm → Prop} (h : DE X a ρ M fun en M1 => (∃ ds : List PyData, en = .d (.list ds) ∧ t (!ds.isEmpty) M1) ∨ (∃ ds : List PyData, en = .d (.tuple ds) ∧ t (!ds.isEmpty) M1) ∨ (∃ (p : Addr) (ds : List PyData) (k : Nat), en = .m p ∧ M1[k]? = some (p, ds) ∧ t (!ds.isEmpty) M1) ∨ (∃ i : Int, en = .d (.int i) ∧ t (i != 0) M1)) (he : ∀ whole, isTrue a X.env whole = (do let v ← whole; standAt a.pos; holding [v] (truthy v)) := by intro _; rfl) : DT X a ρ M t :=
  dt_imp (pt_truth (pe_u X a) he) fun σ H k hE hM g => ⟨ρ, M, _, h, hE, hM, fun v H1 en M1 x1 m1 v1 q => by
    rcases q with ⟨ds, rfl, q⟩ | ⟨ds, rfl, q⟩ | ⟨p, ds, kk, rfl, hk, q⟩ | ⟨i, rfl, q⟩
    · have v1' : Dp X.K (msk H1 M1) v (.list ds) := v1
      cases v1' with
      | lst hs ha =>
        rename_i aa xs
        refine ⟨!xs.isEmpty, .inl ⟨xs, .inl (.inl (msk_sub _ _ hs)), rfl⟩, ?_⟩
        have e : xs.isEmpty = ds.isEmpty := by cases ha <;> rfl
        rw [e]; exact g _ H1 M1 x1 m1 q
    · have v1' : Dp X.K (msk H1 M1) v (.tuple ds) := v1
      cases v1' with
      | tup hs ha =>
        rename_i aa xs
        refine ⟨!xs.isEmpty, .inr (.inl ⟨xs, Evl.ex_t msk_sub hs, rfl⟩), ?_⟩
        have e : xs.isEmpty = ds.isEmpty := by cases ha <;> rfl
        rw [e]; exact g _ H1 M1 x1 m1 q
    · have v1' : v = .ref p := v1
      subst v1'
      obtain ⟨vs, e1, e2⟩ := m1.at_ _ (List.mem_of_getElem? hk)
      refine ⟨!vs.isEmpty, .inl ⟨vs, .inl (.inl e1), rfl⟩, ?_⟩
      have e : vs.isEmpty = ds.isEmpty := by cases e2 <;> rfl
      rw [e]; exact g _ H1 M1 x1 m1 q
    · have v1' : Dp X.K (msk H1 M1) v (.int i) := v1
      cases v1'
      exact ⟨i != 0, rfl, g _ H1 M1 x1 m1 q⟩⟩

/-! ### arguments, displays -/
theorem da_nil {Q : List Ent → Mm → Prop} (q : Q [] M) : DA X [] ρ M Q := ⟨fun ps pins s σ H k I ⟨h1, h2, h3⟩ => pa_nil.run ps pins s σ H k I (h3 [] H [] M (Ex.refl _) h2 .nil q)⟩
theorem da_cons {es : List Expr} {Q : List Ent → Mm → Prop} (h : DE X e ρ M fun en M1 => DA X es ρ M1 fun ens M2 => Q (en :: ens) M2) (hs : starEach (e :: es) X.env = (false, eval e X.env) :: starEach es X.env := by rfl) : DA X (e :: es) ρ M Q :=
  ⟨fun ps pins s σ H k I ⟨hE, hM, g⟩ => (pa_cons (pe_u X e) (pa_u X es) hs).run ps pins s σ H k I
    ⟨ρ, M, _, h, hE, hM, fun v H1 en M1 x1 m1 v1 q1 => ⟨ρ, M1, _, q1, hE.ex x1, m1, fun vs H2 ens M2 x2 m2 v2 q2 => g _ H2 _ M2 (x1.trans x2) m2 (.cons (v1.ex x2) v2) q2⟩⟩⟩
/-- the items of a tuple or a list that is data -/
inductive SeqOf : Ent → List PyData → Prop
  | t {ds} : SeqOf (.d (.tuple ds)) ds
  | l {ds} : SeqOf (.d (.list ds)) ds
theorem VlAll.ofD {H : Hp} : ∀ {vs : List V} {ds : List PyData}, DpAll K H vs ds → VlAll K H vs (ds.map Ent.d)
  | _, _, .nil => .nil
  | _, _, .cons a t => .cons a (VlAll.ofD t)
theorem VlAll.app {H : Hp} : ∀ {vs ws : List V} {ds es : List Ent}, VlAll K H vs ds → VlAll K H ws es → VlAll K H (vs ++ ws) (ds ++ es)
  | _, _, _, _, .nil, h => h
  | _, _, _, _, .cons a t, h => .cons a (VlAll.app t h)
theorem da_star {es : List Expr} {p : Pos} {Q : List Ent → Mm → Prop} (h : DE X e ρ M fun en M1 => ∃ ds, SeqOf en ds ∧ DA X es ρ M1 fun ens M2 => Q (ds.map Ent.d ++ ens) M2) (hs : starEach (.Starred e p :: es) X.env = (true, eval e X.env) :: starEach es X.env := by rfl) : DA X (.Starred e p :: es) ρ M Q :=
  ⟨fun ps pins s σ H k I ⟨hE, hM, g⟩ => (StX.pa_star (pe_u X e) (pa_u X es) hs).run ps pins s σ H k I
    ⟨ρ, M, _, h, hE, hM, fun v H1 en M1 x1 m1 v1 ⟨ds, hd, q1⟩ => by
      cases hd with
      | t =>
        have v1' : Dp X.K (msk H1 M1) v (.tuple ds) := v1
        cases v1' with
        | tup hs ha => exact ⟨_, _, rfl, .inl (Evl.ex_t msk_sub hs), ρ, M1, _, q1, hE.ex x1, m1, fun vs H2 ens M2 x2 m2 v2 q2 => g _ H2 _ M2 (x1.trans x2) m2 (.app (.ex x2 (.ofD ha)) v2) q2⟩
      | l =>
        have v1' : Dp X.K (msk H1 M1) v (.list ds) := v1
        cases v1' with
        | lst hs ha => exact ⟨_, _, rfl, .inr (.inl (.inl (msk_sub _ _ hs))), ρ, M1, _, q1, hE.ex x1, m1, fun vs H2 ens M2 x2 m2 v2 q2 => g _ H2 _ M2 (x1.trans x2) m2 (.app (.ex x2 (.ofD ha)) v2) q2⟩⟩⟩
theorem VlAll.toD {H : Hp} : ∀ {vs : List V} {ds : List PyData}, VlAll K H vs (ds.map Ent.d) → DpAll K H vs ds
  | _, [], h => by cases h; exact .nil
  | _, d :: ds, h => by cases h with | cons a t => exact .cons a (VlAll.toD t)
theorem de_tup {es : List Expr} {x1} (h : DA X es ρ M fun ens M1 => ∃ ds : List PyData, ens = ds.map Ent.d ∧ ds.length ≤ 100000 ∧ Q (.d (.tuple ds)) M1) : DE X (.Tuple es x1 pos) ρ M Q :=
  de_imp (pe_tup (pa_u X es)) fun σ H k hE hM g => ⟨ρ, M, _, h, hE, hM, fun vs H1 ens M1 x1 m1 v1 ⟨ds, ed, hl, q⟩ => by
    subst ed
    have hd := v1.toD
    exact ⟨by rw [hd.len]; exact sz_le hl, (g.on x1).newT m1 hd q⟩⟩
theorem de_lst {es : List Expr} (h : DA X es ρ M fun ens M1 => ∃ ds : List PyData, ens = ds.map Ent.d ∧ ds.length ≤ 100000 ∧ Q (.d (.list ds)) M1) : DE X (.List es pos) ρ M Q :=
  de_imp (pe_lst (pa_u X es)) fun σ H k hE hM g => ⟨ρ, M, _, h, hE, hM, fun vs H1 ens M1 x1 m1 v1 ⟨ds, ed, hl, q⟩ => by
    subst ed
    have hd := v1.toD
    exact ⟨by rw [hd.len]; exact sz_le hl, (g.on x1).newL m1 hd q⟩⟩
/-- a list that will change -/
theorem de_lstM {es : List Expr} (h : DA X es ρ M fun ens M1 => ∃ ds : List PyData, ens = ds.map Ent.d ∧ ds.length ≤ 100000 ∧ ∀ p, Q (.m p) ((p, ds) :: M1)) : DE X (.List es pos) ρ M Q :=
  de_imp (pe_lst (pa_u X es)) fun σ H k hE hM g => ⟨ρ, M, _, h, hE, hM, fun vs H1 ens M1 x1 m1 v1 ⟨ds, ed, hl, q⟩ => by
    subst ed
    have hd := v1.toD
    exact ⟨by rw [hd.len]; exact sz_le hl, (g.on x1).newM m1 hd q⟩⟩

/-! ### items -/
theorem de_ix {r : R2} (hr : IxR X r) (h : DE X a ρ M fun ea M1 => DE X b ρ M1 fun eb M2 => R2D X.K r ea eb M2 Q) (hs : PlainIx b := by intro _ _; rfl) : DE X (.Subscript a b pos) ρ M Q :=
  de_imp (pe_ix hr (pe_u X a) (pe_u X b) hs) fun σ H k hE hM g => run2 h hE hM g
theorem atI_map {ds : List PyData} {vs : List V} {H : Hp} (hd : DpAll K H vs ds) {i : Int} {d : PyData} (h : atI ds i = some d) : ∃ v, atI vs i = some v ∧ Dp K H v d := by
  unfold atI at h ⊢
  rw [hd.len]
  cases e : ixN ds.length i with
  | none => rw [e] at h; cases h
  | some j =>
    rw [e] at h
    obtain ⟨v, h1, h2⟩ := hd.get (show ds[j]? = some d from h)
    exact ⟨v, h1, h2⟩
/-- t[i], xs[i] of data -/
theorem o_ix {en : Ent} {ds : List PyData} {i : Int} {d : PyData} (hs : SeqOf en ds) (hi : atI ds i = some d) (q : Q (.d d) M) : R2D K (rIx K) en (.d (.int i)) M Q := fun x y H k hM hx hy g => by
  cases hy
  cases hs with
  | t =>
    have hx' : Dp K (msk H M) x (.tuple ds) := hx
    cases hx' with
    | tup hs ha =>
      obtain ⟨v, h1, h2⟩ := atI_map ha hi
      exact .inr (.inl ⟨_, _, i, v, rfl, rfl, Evl.ex_t msk_sub hs, h1, g.dat hM h2 q⟩)
  | l =>
    have hx' : Dp K (msk H M) x (.list ds) := hx
    cases hx' with
    | lst hs ha =>
      obtain ⟨v, h1, h2⟩ := atI_map ha hi
      exact .inl ⟨_, _, i, v, rfl, rfl, .inl (.inl (msk_sub _ _ hs)), h1, g.dat hM h2 q⟩
/-- .. of a mutable list -/
theorem o_ixM {p : Addr} {ds : List PyData} (kk : Nat) {i : Int} {d : PyData} (hk : M[kk]? = some (p, ds)) (hi : atI ds i = some d) (q : Q (.d d) M) : R2D K (rIx K) (.m p) (.d (.int i)) M Q := fun x y H k hM hx hy g => by
  cases hy
  have hx' : x = .ref p := hx
  subst hx'
  obtain ⟨vs, e1, e2⟩ := hM.at_ _ (List.mem_of_getElem? hk)
  obtain ⟨v, h1, h2⟩ := atI_map e2 hi
  exact .inl ⟨_, _, i, v, rfl, rfl, .inl (.inl e1), h1, g.dat hM h2 q⟩
/-- slices -/
def cutD (xs : List PyData) (lo hi : Option Int) : List PyData := (xs.drop (HT.sIx xs.length 0 lo)).take (HT.sIx xs.length xs.length hi - HT.sIx xs.length 0 lo)
theorem cut_all {H : Hp} {vs : List V} {ds : List PyData} {lo hi : Option Int} (h : DpAll K H vs ds) : DpAll K H (cutV vs lo hi) (cutD ds lo hi) := by
  unfold cutV cutD
  rw [h.len]
  exact (h.drop _).take _
theorem do_none {Q : Option Int → Mm → Prop} (q : Q none M) : DO X none ρ M Q := ⟨fun pins s σ H k I ⟨h1, h2, h3⟩ => po_none.run pins s σ H k I (h3 none H M (Ex.refl _) h2 q)⟩
theorem do_some {Q : Option Int → Mm → Prop} (h : DE X e ρ M fun en M1 => ∃ i, en = .d (.int i) ∧ Q (some i) M1) : DO X (some e) ρ M Q :=
  ⟨fun pins s σ H k I ⟨hE, hM, g⟩ => (po_some (pe_u X e)).run pins s σ H k I ⟨ρ, M, _, h, hE, hM, fun v H1 en M1 x1 m1 v1 ⟨i, ei, q1⟩ => by
    subst ei
    have v1' : Dp X.K (msk H1 M1) v (.int i) := v1
    cases v1'
    exact ⟨i, rfl, g _ H1 M1 x1 m1 q1⟩⟩⟩
theorem po_u (X : Cx) (e : Option Expr) : PO X e (uO X e) := ⟨fun pins s σ H Q I ⟨ρ, M, Q', h, t⟩ => h.run pins s σ H Q I t⟩
def RSD (K : PySem.W.Frag) (r : V → Option Int → Option Int → Hp → VK → Prop) (ea : Ent) (lo hi : Option Int) (M : Mm) (Q : QE) : Prop := ∀ x H k, MAt K M H → Vl K (msk H M) x ea → Go K M H Q k → r x lo hi H k
theorem de_slice {r : V → Option Int → Option Int → Hp → VK → Prop} {lo hi : Option Expr} {p2 : Pos} (hr : SlR X r) (h : DE X e ρ M fun en M1 => DO X lo ρ M1 fun l M2 => DO X hi ρ M2 fun u M3 => RSD X.K r en l u M3 Q) : DE X (.Subscript e (.Slice lo hi none p2) pos) ρ M Q :=
  de_imp (pe_slice hr (pe_u X e) (po_u X lo) (po_u X hi)) fun σ H k hE hM g => ⟨ρ, M, _, h, hE, hM, fun v H1 en M1 x1 m1 v1 q1 => ⟨ρ, M1, _, q1, hE.ex x1, m1, fun l H2 M2 x2 m2 q2 => ⟨ρ, M2, _, q2, (hE.ex x1).ex x2, m2, fun u H3 M3 x3 m3 q3 =>
    q3 v H3 k m3 ((v1.ex x2).ex x3) (g.on ((x1.trans x2).trans x3))⟩⟩⟩
theorem o_slT {ds : List PyData} {lo hi : Option Int} (q : Q (.d (.tuple (cutD ds lo hi))) M) : RSD K (rSlA K) (.d (.tuple ds)) lo hi M Q := fun x H k hM hx g => by
  have hx' : Dp K (msk H M) x (.tuple ds) := hx
  cases hx' with
  | tup hs ha =>
    refine ⟨_, _, rfl, Evl.ex_t msk_sub hs, fun ⟨e1, e2⟩ => ?_, fun _ => g.newT hM (cut_all ha) q⟩
    have e : cutD ds lo hi = ds := by
      unfold cutD
      rw [← ha.len, e1, e2]
      simp [ha.len]
    rw [e] at q
    exact g.dat hM hx q
theorem o_slL {ds : List PyData} {lo hi : Option Int} (q : Q (.d (.list (cutD ds lo hi))) M) : RSD K (rSlL K) (.d (.list ds)) lo hi M Q := fun x H k hM hx g => by
  have hx' : Dp K (msk H M) x (.list ds) := hx
  cases hx' with
  | lst hs ha => exact ⟨_, _, rfl, .inl (.inl (msk_sub _ _ hs)), g.newL hM (cut_all ha) q⟩
theorem o_slS {ds : List PyData} {lo hi : Option Int} (q : Q (.d (.list (cutD ds lo hi))) M) : RSD K (rSlL K) (.s ds) lo hi M Q := fun x H k hM hx g => by
  obtain ⟨a, xs, e, h1, h2⟩ := hx
  exact ⟨a, xs, e, Evl.ex_l msk_sub h1, g.newL hM (cut_all h2) q⟩
theorem o_slM {p : Addr} {ds : List PyData} (kk : Nat) {lo hi : Option Int} (hk : M[kk]? = some (p, ds)) (q : Q (.d (.list (cutD ds lo hi))) M) : RSD K (rSlL K) (.m p) lo hi M Q := fun x H k hM hx g => by
  have hx' : x = .ref p := hx
  subst hx'
  obtain ⟨vs, e1, e2⟩ := hM.at_ _ (List.mem_of_getElem? hk)
  exact ⟨_, _, rfl, .inl (.inl e1), g.newL hM (cut_all e2) q⟩
end Dt

namespace Dt
open PySem PySem.Spec PyProof.Rows L2
open Evl (Ex)
variable {K : PySem.W.Frag} {X : Cx} {ρ : Rho} {M : Mm} {Q : QE} {pos : Pos} {a b c e : Expr}

/-! ### targets -/
mutual
inductive Tg where
  | nm (i : Nat)
  | tp (ts : Tgs)
inductive Tgs where
  | nil
  | cons (t : Tg) (ts : Tgs)
end
def Tgs.len : Tgs → Nat
  | .nil => 0
  | .cons _ ts => ts.len + 1
mutual
def Tg.bind : Tg → PyData → Rho → Option Rho
  | .nm i, d, ρ => some (ρ.set i (some (.d d)))
  | .tp ts, .tuple ds, ρ => ts.bind ds ρ
  | .tp _, _, _ => none
def Tgs.bind : Tgs → List PyData → Rho → Option Rho
  | .nil, [], ρ => some ρ
  | .cons t ts, d :: ds, ρ => (t.bind d ρ).bind (ts.bind ds)
  | _, _, _ => none
end
mutual
def Tg.slots : Tg → List Nat
  | .nm i => [i]
  | .tp ts => ts.slots
def Tgs.slots : Tgs → List Nat
  | .nil => []
  | .cons t ts => t.slots ++ ts.slots
end
mutual
def gT (K : PySem.W.Frag) : Tg → TG
  | .nm i => gName i
  | .tp ts => gTup K ts.len (gTs K ts)
def gTs (K : PySem.W.Frag) : Tgs → TGs
  | .nil => gNil
  | .cons t ts => gCons (gT K t) (gTs K ts)
end
theorem tgs_len : ∀ (ts : Tgs) (ds : List PyData) (ρ ρ' : Rho), ts.bind ds ρ = some ρ' → ds.length = ts.len
  | .nil, [], _, _, _ => rfl
  | .nil, _ :: _, _, _, h => by simp [Tgs.bind] at h
  | .cons t ts, [], _, _, h => by simp [Tgs.bind] at h
  | .cons t ts, d :: ds, ρ, ρ', h => by
    simp only [Tgs.bind] at h
    cases e : t.bind d ρ with
    | none => rw [e] at h; cases h
    | some ρ1 =>
      rw [e] at h
      have := tgs_len ts ds ρ1 ρ' h
      simp [Tgs.len, this]
/-- the slots at vs may differ, the others are the same -/
def SameBut (vs : List Nat) (σ σ' : L2.St) : Prop := σ'.length = σ.length ∧ ∀ i, i ∉ vs → σ'[i]? = σ[i]?
theorem SameBut.refl {vs : List Nat} {σ : L2.St} : SameBut vs σ σ := ⟨rfl, fun _ _ => rfl⟩
theorem SameBut.trans {vs : List Nat} {σ σ1 σ2 : L2.St} (a : SameBut vs σ σ1) (b : SameBut vs σ1 σ2) : SameBut vs σ σ2 := ⟨b.1.trans a.1, fun i h => (b.2 i h).trans (a.2 i h)⟩
theorem SameBut.mono {vs ws : List Nat} {σ σ1 : L2.St} (a : SameBut vs σ σ1) (h : ∀ i ∈ vs, i ∈ ws) : SameBut ws σ σ1 := ⟨a.1, fun i hi => a.2 i fun z => hi (h i z)⟩
theorem wipe_get {σ : L2.St} : ∀ {vs : List Nat} {i : Nat}, (wipe σ vs)[i]? = if i ∈ vs then (if i < σ.length then some none else none) else σ[i]?
  | [], i => by simp [wipe]
  | v :: vs, i => by
    unfold wipe
    rw [List.getElem?_set]
    by_cases hv : v = i
    · subst hv
      simp [wipe_length]
    · rw [if_neg hv, wipe_get (vs := vs)]
      simp [Ne.symm hv, List.mem_cons, eq_comm]
theorem SameBut.wipe {vs : List Nat} {σ σ' : L2.St} (h : SameBut vs σ σ') : wipe σ' vs = wipe σ vs := by
  refine List.ext_getElem? fun i => ?_
  rw [wipe_get, wipe_get, h.1]
  split
  · rfl
  · rename_i hi; exact h.2 i hi
theorem wipe_wipe {vs : List Nat} {σ : L2.St} : wipe (wipe σ vs) vs = wipe σ vs := by
  refine List.ext_getElem? fun i => ?_
  rw [wipe_get, wipe_length]
  split
  · rename_i hi; rw [wipe_get, if_pos hi]
  · rfl
mutual
theorem bind_ok {G : Hp} {H : Hp} (hG : Ex G H) : ∀ (t : Tg) (d : PyData) (v : V) (σ : L2.St) (ρ ρ' : Rho) (k : L2.St → Hp → Prop), Env K G σ ρ → Dp K G v d → t.bind d ρ = some ρ' → (∀ σ', SameBut t.slots σ σ' → Env K G σ' ρ' → k σ' H) → gT K t v σ H k
  | .nm i, d, v, σ, ρ, ρ', k, hE, hv, hb, hk => by
    simp only [Tg.bind, Option.some.injEq] at hb
    subst hb
    refine hk _ ⟨by simp, fun j hj => ?_⟩ (hE.set hv)
    rw [List.getElem?_set_ne]
    intro e; subst e; exact hj (by simp [Tg.slots])
  | .tp ts, d, v, σ, ρ, ρ', k, hE, hv, hb, hk => by
    cases d with
    | tuple ds =>
      cases hv with
      | tup hs ha => exact ⟨_, _, rfl, Evl.ex_t hG hs, by rw [ha.len]; exact tgs_len ts ds ρ ρ' hb, binds_ok hG ts ds _ σ ρ ρ' k hE ha hb hk⟩
    | _ => simp [Tg.bind] at hb
theorem binds_ok {G : Hp} {H : Hp} (hG : Ex G H) : ∀ (ts : Tgs) (ds : List PyData) (vs : List V) (σ : L2.St) (ρ ρ' : Rho) (k : L2.St → Hp → Prop), Env K G σ ρ → DpAll K G vs ds → ts.bind ds ρ = some ρ' → (∀ σ', SameBut ts.slots σ σ' → Env K G σ' ρ' → k σ' H) → gTs K ts vs σ H k
  | .nil, [], vs, σ, ρ, ρ', k, hE, hv, hb, hk => by
    cases hv
    simp only [Tgs.bind, Option.some.injEq] at hb
    subst hb
    exact ⟨rfl, hk σ SameBut.refl hE⟩
  | .nil, _ :: _, _, _, _, _, _, _, _, h, _ => by simp [Tgs.bind] at h
  | .cons t ts, [], _, _, _, _, _, _, _, h, _ => by simp [Tgs.bind] at h
  | .cons t ts, d :: ds, _, σ, ρ, ρ', k, hE, hv, hb, hk => by
    cases hv with
    | cons h1 h2 =>
      simp only [Tgs.bind] at hb
      cases e : t.bind d ρ with
      | none => rw [e] at hb; cases hb
      | some ρ1 =>
        rw [e] at hb
        refine ⟨_, _, rfl, bind_ok hG t d _ σ ρ ρ1 _ hE h1 e fun σ1 s1 e1 => binds_ok hG ts ds _ σ1 ρ1 ρ' k e1 h2 hb fun σ2 s2 e2 => hk σ2 ((s1.mono ?_).trans (s2.mono ?_)) e2⟩
        · intro i hi; simp [Tgs.slots, hi]
        · intro i hi; simp [Tgs.slots, hi]
end
def wipeR (ρ : Rho) : List Nat → Rho
  | [] => ρ
  | v :: vs => (wipeR ρ vs).set v none
theorem Env.wipe {H : Hp} {σ : L2.St} {ρ : Rho} (h : Env K H σ ρ) : ∀ vs : List Nat, Env K H (L2.wipe σ vs) (wipeR ρ vs)
  | [] => h
  | v :: vs => by
    have ih := Env.wipe h vs
    refine ⟨by simp [L2.wipe, wipeR, ih.len], fun i e q => ?_⟩
    simp only [L2.wipe, wipeR] at q ⊢
    by_cases hj : v = i
    · subst hj
      by_cases hl : v < (wipeR ρ vs).length
      · rw [List.getElem?_set_self hl] at q; cases q
      · rw [List.getElem?_eq_none (by simpa using hl)] at q; cases q
    · rw [List.getElem?_set_ne hj] at q ⊢
      exact ih.get i e q

/-! ### what is walked -/
structure Wk (K : PySem.W.Frag) (J : It) (G : Hp) (ds : List PyData) : Prop where
  goes : ∀ i H, i < ds.length → Ex G H → J.go i H
  stops : ∀ H, Ex G H → J.stop ds.length H
  yields : ∀ i H M x H' d, ds[i]? = some d → Ex G (msk H M) → MAt K M H → J.yld i H x H' → MAt K M H' ∧ Ex (msk H M) (msk H' M) ∧ Dp K (msk H' M) x d
def tI (K : PySem.W.Frag) (ρ : Rho) (M : Mm) (Q : List PyData → Mm → Prop) : TI := fun σ H R => Env K (msk H M) σ ρ ∧ MAt K M H ∧
  ∀ J H' ds M', Ex (msk H M) (msk H' M') → MAt K M' H' → Wk K J (msk H' M') ds → Q ds M' → R J H'
def DI (X : Cx) (tg e : Expr) (ρ : Rho) (M : Mm) (Q : List PyData → Mm → Prop) : Prop := PI X tg e (tI X.K ρ M Q)
def uI (X : Cx) (tg e : Expr) : TI := fun σ H R => ∃ ρ M Q, DI X tg e ρ M Q ∧ tI X.K ρ M Q σ H R
theorem pi_u (X : Cx) (tg e : Expr) : PI X tg e (uI X tg e) := ⟨fun pins s σ H R I ⟨ρ, M, Q', h, t⟩ => h.run pins s σ H R I t⟩
theorem di_imp {tg e : Expr} {t : TI} {Q : List PyData → Mm → Prop} (h : PI X tg e t) (w : ∀ σ H R, Env X.K (msk H M) σ ρ → MAt X.K M H → (∀ J H' ds M', Ex (msk H M) (msk H' M') → MAt X.K M' H' → Wk X.K J (msk H' M') ds → Q ds M' → R J H') → t σ H R) : DI X tg e ρ M Q :=
  ⟨fun pins s σ H k I ⟨h1, h2, h3⟩ => h.run pins s σ H k I (w σ H k h1 h2 h3)⟩
theorem wk_list {G : Hp} {p : Addr} {xs : List V} {ds : List PyData} (hs0 : G p = some (.lst xs)) (ha : DpAll K G xs ds) : Wk K (Itl K p) G ds where
  goes := fun i H hi x => by
    obtain ⟨v, hv, _⟩ := ha.get (List.getElem?_eq_getElem hi)
    exact ⟨xs, v, Evl.ex_l x (Evl.sq_of hs0), hv⟩
  stops := fun H x => ⟨xs, Evl.ex_l x (Evl.sq_of hs0), by rw [ha.len]; exact Nat.le_refl _⟩
  yields := fun i H M x H' d hd eg hM hy => by
    obtain ⟨rfl, hy⟩ := hy
    obtain ⟨v, hv, hdp⟩ := ha.get hd
    have e := hy xs (Evl.ex_l (eg.trans msk_sub) (Evl.sq_of hs0))
    rw [hv] at e; cases e
    exact ⟨hM, Ex.refl _, dp_ex eg _ _ hdp⟩
theorem wk_tup {G : Hp} {p : Addr} {xs : List V} {ds : List PyData} (hs : SqT K G p xs) (ha : DpAll K G xs ds) : Wk K (Itt K p) G ds where
  goes := fun i H hi x => by
    obtain ⟨v, hv, _⟩ := ha.get (List.getElem?_eq_getElem hi)
    exact ⟨xs, v, Evl.ex_t x hs, hv⟩
  stops := fun H x => ⟨xs, Evl.ex_t x hs, by rw [ha.len]; exact Nat.le_refl _⟩
  yields := fun i H M x H' d hd eg hM hy => by
    obtain ⟨rfl, hy⟩ := hy
    obtain ⟨v, hv, hdp⟩ := ha.get hd
    have e := hy xs (Evl.ex_t (eg.trans msk_sub) hs)
    rw [hv] at e; cases e
    exact ⟨hM, Ex.refl _, dp_ex eg _ _ hdp⟩
theorem wk_range {G : Hp} {lo : Int} {n : Nat} : Wk K (Itr lo n) G ((List.range n).map fun (i : Nat) => PyData.int (lo + (i : Int))) where
  goes := fun i H hi x => by show i < n; simpa using hi
  stops := fun H x => by show n ≤ _; simp
  yields := fun i H M x H' d hd eg hM hy => by
    obtain ⟨rfl, rfl⟩ := hy
    rw [List.getElem?_map] at hd
    by_cases hi : i < n
    · rw [List.getElem?_range hi] at hd
      cases hd
      exact ⟨hM, Ex.refl _, .int _⟩
    · rw [List.getElem?_eq_none (by simp; omega)] at hd; cases hd
theorem di_list {tg : Expr} {Q : List PyData → Mm → Prop} (h : DE X e ρ M fun en M1 => ∃ ds, en = .d (.list ds) ∧ Q ds M1) : DI X tg e ρ M Q :=
  di_imp (pi_list (pe_u X e)) fun σ H R hE hM g => ⟨ρ, M, _, h, hE, hM, fun v H1 en M1 x1 m1 v1 ⟨ds, ed, q⟩ => by
    subst ed
    have v1' : Dp X.K (msk H1 M1) v (.list ds) := v1
    cases v1' with
    | lst hs ha => exact ⟨_, rfl, ⟨_, Evl.sq_of (msk_sub _ _ hs)⟩, g _ H1 ds M1 x1 m1 (wk_list hs ha) q⟩⟩
theorem di_tup {tg : Expr} {Q : List PyData → Mm → Prop} (h : DE X e ρ M fun en M1 => ∃ ds, en = .d (.tuple ds) ∧ Q ds M1) : DI X tg e ρ M Q :=
  di_imp (pi_tup (pe_u X e)) fun σ H R hE hM g => ⟨ρ, M, _, h, hE, hM, fun v H1 en M1 x1 m1 v1 ⟨ds, ed, q⟩ => by
    subst ed
    have v1' : Dp X.K (msk H1 M1) v (.tuple ds) := v1
    cases v1' with
    | tup hs ha => exact ⟨_, rfl, ⟨_, Evl.ex_t msk_sub hs⟩, g _ H1 ds M1 x1 m1 (wk_tup hs ha) q⟩⟩
theorem vl1 {H : Hp} {vs : List V} {x : PyData} (h : VlAll K H vs [.d x]) : ∃ v, vs = [v] ∧ Dp K H v x := by
  cases h with | cons a t => cases t; exact ⟨_, rfl, a⟩
theorem vl2 {H : Hp} {vs : List V} {x y : PyData} (h : VlAll K H vs [.d x, .d y]) : ∃ v w, vs = [v, w] ∧ Dp K H v x ∧ Dp K H w y := by
  cases h with | cons a t => obtain ⟨w, rfl, b⟩ := vl1 t; exact ⟨_, _, rfl, a, b⟩
theorem vl3 {H : Hp} {vs : List V} {x y z : PyData} (h : VlAll K H vs [.d x, .d y, .d z]) : ∃ v w u, vs = [v, w, u] ∧ Dp K H v x ∧ Dp K H w y ∧ Dp K H u z := by
  cases h with | cons a t => obtain ⟨w, u, rfl, b, c⟩ := vl2 t; exact ⟨_, _, _, rfl, a, b, c⟩
theorem di_range1 {tg a : Expr} {p : Pos} {Q : List PyData → Mm → Prop} (hg : Gl X "range") (hm : X.mg "range" = none) (h : DA X [a] ρ M fun es M1 => ∃ n : Int, es = [.d (.int n)] ∧ n ≤ 2 ^ 40 ∧ -(2 ^ 40) ≤ n ∧ Q ((List.range n.toNat).map fun (i : Nat) => PyData.int (i : Int)) M1)
    (hs : starEach [a] X.env = [(false, eval a X.env)] := by rfl) : DI X tg (.Call (.Name "range" p) [a] [] pos) ρ M Q :=
  di_imp (pi_range1 hg hm (pa_u X [a]) hs) fun σ H R hE hM g => ⟨ρ, M, _, h, hE, hM, fun vs H1 es M1 x1 m1 v1 ⟨n, ed, hl, hl2, q⟩ => by
    subst ed
    obtain ⟨v, rfl, hv⟩ := vl1 v1
    cases hv
    have w := wk_range (K := X.K) (G := msk H1 M1) (lo := 0) (n := n.toNat)
    simp only [Int.zero_add] at w
    exact ⟨n, rfl, by omega, by omega, g _ H1 _ M1 x1 m1 w q⟩⟩
theorem di_range2 {tg a b : Expr} {p : Pos} {Q : List PyData → Mm → Prop} (hg : Gl X "range") (hm : X.mg "range" = none) (h : DA X [a, b] ρ M fun es M1 => ∃ l n : Int, es = [.d (.int l), .d (.int n)] ∧ (-(2 ^ 40) ≤ l ∧ l ≤ 2 ^ 40 ∧ n ≤ 2 ^ 40 ∧ -(2 ^ 40) ≤ n) ∧ Q ((List.range (n - l).toNat).map fun (i : Nat) => PyData.int (l + (i : Int))) M1)
    (hs : starEach [a, b] X.env = [(false, eval a X.env), (false, eval b X.env)] := by rfl) (hs2 : starEach [b] X.env = [(false, eval b X.env)] := by rfl) : DI X tg (.Call (.Name "range" p) [a, b] [] pos) ρ M Q :=
  di_imp (pi_range2 hg hm (pa_u X [a, b]) hs hs2) fun σ H R hE hM g => ⟨ρ, M, _, h, hE, hM, fun vs H1 es M1 x1 m1 v1 ⟨l, n, ed, ⟨h1, h2, h3, h4⟩, q⟩ => by
    subst ed
    obtain ⟨v, w, rfl, hv, hw⟩ := vl2 v1
    cases hv; cases hw
    exact ⟨l, n, rfl, ⟨by omega, by omega, by omega, by omega⟩, g _ H1 _ M1 x1 m1 wk_range q⟩⟩
def pairD (x y : PyData) : PyData := .tuple [x, y]
theorem wk_pair {J : It} {G : Hp} {xs ys : List V} {ds es : List PyData} (ha : DpAll K G xs ds) (hb : DpAll K G ys es)
    (hg : ∀ i H, Ex G H → i < xs.length → i < ys.length → J.go i H) (hs : ∀ i H, Ex G H → xs.length ≤ i ∨ ys.length ≤ i → J.stop i H)
    (hy : ∀ i H x H', Ex G H → J.yld i H x H' → ∃ T u w, x = .ref T ∧ H T = none ∧ H' = upd H T (.tup [u, w]) ∧ xs[i]? = some u ∧ ys[i]? = some w) : Wk K J G (List.zipWith pairD ds es) where
  goes := fun i H hi x => by
    rw [List.length_zipWith] at hi
    exact hg i H x (by rw [ha.len]; omega) (by rw [hb.len]; omega)
  stops := fun H x => hs _ H x (by rw [List.length_zipWith, ha.len, hb.len]; omega)
  yields := fun i H M x H' d hd eg hM h => by
    obtain ⟨T, u, w, rfl, nT, rfl, e1, e2⟩ := hy i H x H' (eg.trans msk_sub) h
    rw [List.getElem?_zipWith] at hd
    cases q1 : ds[i]? with
    | none => rw [q1] at hd; simp at hd
    | some d1 =>
      cases q2 : es[i]? with
      | none => rw [q1, q2] at hd; simp at hd
      | some d2 =>
        rw [q1, q2] at hd
        simp only [Option.some.injEq] at hd
        subst hd
        obtain ⟨v1, z1, y1⟩ := ha.get q1
        obtain ⟨v2, z2, y2⟩ := hb.get q2
        rw [z1] at e1; cases e1
        rw [z2] at e2; cases e2
        exact ⟨hM.new nT, ex_new nT, vl_new hM nT (.cons (dp_ex eg _ _ y1) (.cons (dp_ex eg _ _ y2) .nil))⟩
theorem di_zip {a b : Expr} {p tpos : Pos} {elts : List Expr} {kk : Nat} {Q : List PyData → Mm → Prop} (hg : Gl X "zip") (hm : X.mg "zip" = none)
    (h : DA X [a, b] ρ M fun es M1 => ∃ xs ys, (es = [.d (.tuple xs), .d (.tuple ys)] ∨ es = [.d (.list xs), .d (.list ys)]) ∧ Q (List.zipWith pairD xs ys) M1)
    (hs : starEach [a, b] X.env = (false, eval a X.env) :: starEach [b] X.env := by rfl) (hpl : (backTo pos (starEach [b] X.env)).any (·.1) = false := by rfl) : DI X (.Tuple elts kk tpos) (.Call (.Name "zip" p) [a, b] [] pos) ρ M Q :=
  di_imp (RZ.pi_zipA hg hm (pa_u X [a, b]) hs hpl) fun σ H R hE hM g => ⟨ρ, M, _, h, hE, hM, fun vs H1 es M1 x1 m1 v1 ⟨xs, ys, ed, q⟩ => by
    rcases ed with rfl | rfl
    · obtain ⟨v, w, rfl, hv, hw⟩ := vl2 v1
      cases hv with
      | tup hs ha =>
        cases hw with
        | tup hs2 hb =>
          rename_i p1 us p2 ws
          refine ⟨_, _, us, ws, rfl, .inr ⟨Evl.ex_t msk_sub hs, Evl.ex_t msk_sub hs2, g _ H1 _ M1 x1 m1 (wk_pair ha hb (fun i H' x h1 h2 => ⟨us, ws, us[i], ws[i], Evl.ex_t x hs, Evl.ex_t x hs2, List.getElem?_eq_getElem h1, List.getElem?_eq_getElem h2⟩)
            (fun i H' x hl => ⟨us, ws, Evl.ex_t x hs, Evl.ex_t x hs2, hl⟩) fun i H' x H'' xe y => ?_) q⟩⟩
          obtain ⟨T, u, w, e1, e2, e3, f1, f2⟩ := y
          exact ⟨T, u, w, e1, e2, e3, f1 _ (Evl.ex_t xe hs), f2 _ (Evl.ex_t xe hs2)⟩
    · obtain ⟨v, w, rfl, hv, hw⟩ := vl2 v1
      cases hv with
      | lst hs ha =>
        cases hw with
        | lst hs2 hb =>
          rename_i p1 us p2 ws
          refine ⟨_, _, us, ws, rfl, .inl ⟨Evl.sq_of (msk_sub _ _ hs), Evl.sq_of (msk_sub _ _ hs2), g _ H1 _ M1 x1 m1 (wk_pair ha hb (fun i H' x h1 h2 => ⟨us, ws, us[i], ws[i], Evl.sq_of (x _ _ hs), Evl.sq_of (x _ _ hs2), List.getElem?_eq_getElem h1, List.getElem?_eq_getElem h2⟩)
            (fun i H' x hl => ⟨us, ws, Evl.sq_of (x _ _ hs), Evl.sq_of (x _ _ hs2), hl⟩) fun i H' x H'' xe y => ?_) q⟩⟩
          obtain ⟨T, u, w, e1, e2, e3, f1, f2⟩ := y
          exact ⟨T, u, w, e1, e2, e3, f1 _ (Evl.sq_of (xe _ _ hs)), f2 _ (Evl.sq_of (xe _ _ hs2))⟩⟩

/-! ### comprehensions -/
def DTs (X : Cx) (ifs : List Expr) (ρ : Rho) (M : Mm) (Q : Bool → Mm → Prop) : Prop := PTs X ifs (tB X.K ρ M Q)
theorem dts_nil {Q : Bool → Mm → Prop} (q : Q true M) : DTs X [] ρ M Q := ⟨fun pins s σ H k I ⟨h1, h2, h3⟩ => pts_nil.run pins s σ H k I (h3 true H M (Ex.refl _) h2 q)⟩
theorem dts_one {Q : Bool → Mm → Prop} (h : DT X c ρ M Q) : DTs X [c] ρ M Q := pts_one h
def uEB (X : Cx) (scope : Scope) (e : Expr) : TE := fun σ H k => ∃ ρ M Q, (∀ (s : Shared) (H : Hp) (C : Addr) (cl : List (Str × Addr)) (fp : List Addr), DE (X.blk s H scope (compEnvC scope cl C X.env) fp) e ρ M Q) ∧ tR X.K ρ M Q σ H k
def uTB (X : Cx) (scope : Scope) (ifs : List Expr) : TT := fun σ H k => ∃ ρ M Q, (∀ (s : Shared) (H : Hp) (C : Addr) (cl : List (Str × Addr)) (fp : List Addr), DTs (X.blk s H scope (compEnvC scope cl C X.env) fp) ifs ρ M Q) ∧ tB X.K ρ M Q σ H k
abbrev Lcx (X : Cx) (scope : Scope) (s : Shared) (H : Hp) (C : Addr) (cl : List (Str × Addr)) (fp : List Addr) : Cx := X.blk s H scope (compEnvC scope cl C X.env) fp
/-- the walk of a comprehension, by an invariant over the turn, the list so far, the store (the new list at its head within a turn) -/
def LcP (X : Cx) (tg iter : Expr) (ifs : List Expr) (elt : Expr) (scope : Scope) (t : Tg) (vs : List Nat) (ρ : Rho) (M : Mm) (Q : QE) : Prop :=
  DI X tg iter ρ M fun ds M1 => ∃ J : Nat → List PyData → Mm → Prop, ds.length ≤ 40000 ∧ J 0 [] M1 ∧ (∀ i acc M2 d D, ds[i]? = some d → acc.length ≤ i → J i acc M2 → ∃ ρ' f, t.bind d (wipeR ρ vs) = some ρ' ∧
    (∀ s H C cl fp, DTs (Lcx X scope s H C cl fp) ifs ρ' ((D, acc) :: M2) fun b M3 => b = f ∧ M3 = (D, acc) :: M2) ∧ (f = false → J (i + 1) acc M2) ∧
    (f = true → ∀ s H C cl fp, DE (Lcx X scope s H C cl fp) elt ρ' ((D, acc) :: M2) fun en M4 => ∃ x M5, en = .d x ∧ M4 = (D, acc) :: M5 ∧ J (i + 1) (acc ++ [x]) M5)) ∧ (∀ acc M2, acc.length ≤ ds.length → J ds.length acc M2 → Q (.d (.list acc)) M2)
theorem lc_go {tg iter elt : Expr} {ifs : List Expr} {scope : Scope} {t : Tg} {vs : List Nat} {σ : L2.St} {H : Hp} {k : VK} (hv : ∀ i ∈ t.slots, i ∈ vs) (h : LcP X tg iter ifs elt scope t vs ρ M Q)
    (hE : Env X.K (msk H M) σ ρ) (hM : MAt X.K M H) (g : Go X.K M H Q k) : tLc (uI X tg iter) (gT X.K t) (uTB X scope ifs) (uEB X scope elt) vs σ H k :=
  ⟨ρ, M, _, h, hE, hM, fun It0 H1 ds M1 x1 m1 W1 ⟨J, hl, h0, hturn, hend⟩ D hD => by
    have w : Walk It0 ds.length (fun H => Ex (msk H1 M1) H) (fun i H x H' => ∀ M2 d, ds[i]? = some d → Ex (msk H1 M1) (msk H M2) → MAt X.K M2 H → MAt X.K M2 H' ∧ Ex (msk H M2) (msk H' M2) ∧ Dp X.K (msk H' M2) x d) :=
      ⟨fun i H hi q => W1.goes i H hi q, fun H q => W1.stops H q, fun i H x H' hi q y M2 d hd eg hM2 => W1.yields i H M2 x H' d hd eg hM2 y⟩
    refine lc_it w (fun i H' => ∃ acc M2, acc.length ≤ i ∧ J i acc M2 ∧ Ex (msk H1 M1) (msk H' ((D, acc) :: M2)) ∧ MAt X.K ((D, acc) :: M2) H') ?_ (fun i H' _ ⟨acc, M2, _, _, e, _⟩ => e.trans msk_sub) ?_ ?_
    · obtain ⟨a1, a2⟩ := mnew m1 hD (ds := []) .nil
      exact ⟨[], M1, Nat.le_refl _, h0, a2, a1⟩
    · rintro i x H2 H3 hi ⟨acc, M2, hla, hJ, e2, m2⟩ hy
      obtain ⟨d, hd⟩ : ∃ d, ds[i]? = some d := ⟨ds[i], List.getElem?_eq_getElem hi⟩
      obtain ⟨m3, e3, hx⟩ := hy _ d hd e2 m2
      obtain ⟨ρ', f, hb, ht, hf, he⟩ := hturn i acc M2 d D hd hla hJ
      have hE2 : Env X.K (msk H3 ((D, acc) :: M2)) (L2.wipe σ vs) (wipeR ρ vs) := (hE.ex ((x1.trans e2).trans e3)).wipe vs
      refine bind_ok msk_sub t d x _ _ ρ' _ hE2 hx hb fun σ2 s2 hE3 => ⟨?_, ?_⟩
      · rw [(s2.mono hv).wipe, wipe_wipe]
      · refine ⟨ρ', _, _, ht, hE3, m3, fun b H4 M4 x4 m4 ⟨q4, q5⟩ => ?_⟩
        subst q4; subst q5
        cases hb : b with
        | false =>
          rw [if_neg (by decide)]
          exact ⟨acc, M2, Nat.le_succ_of_le hla, hf hb, (e2.trans e3).trans x4, m4⟩
        | true =>
          rw [if_pos rfl]
          refine ⟨ρ', _, _, he hb, hE3.ex x4, m4, fun v H5 en M5 x5 m5 v5 ⟨y, M6, q6, q7, hJ'⟩ => ?_⟩
          subst q6; subst q7
          obtain ⟨ws, e5, d5⟩ := m5.at_ (D, acc) (List.mem_cons_self ..)
          have hlen := d5.len
          obtain ⟨m6, x6⟩ := mset (k := 0) m5 rfl (es := acc ++ [y]) (ws := ws ++ [v]) (d5.app (.cons v5 .nil))
          exact ⟨ws, e5, Nat.lt_of_lt_of_le (show ws.length < 100000 by rw [hlen]; show acc.length < 100000; omega) (by decide), acc ++ [y], M6, by simp; omega, hJ', (((e2.trans e3).trans x4).trans x5).trans x6, m6⟩
    · rintro H' ⟨acc, M2, hla, hJ, e2, m2⟩
      exact g _ H' (.d (.list acc)) M2 (x1.trans (e2.trans ex_tail)) m2.tail m2.thaw (hend acc M2 hla hJ)⟩
theorem pts_uB (X : Cx) (scope : Scope) (ifs : List Expr) (s : Shared) (H : Hp) (C : Addr) (cl : List (Str × Addr)) (fp : List Addr) : PTs (Lcx X scope s H C cl fp) ifs (uTB X scope ifs) :=
  ⟨fun pins s' σ H' Q I ⟨ρ, M, Q', h, t⟩ => (h s H C cl fp).run pins s' σ H' Q I t⟩
theorem pe_uB (X : Cx) (scope : Scope) (e : Expr) (s : Shared) (H : Hp) (C : Addr) (cl : List (Str × Addr)) (fp : List Addr) : PE (Lcx X scope s H C cl fp) e (uEB X scope e) :=
  ⟨fun pins s' σ H' Q I ⟨ρ, M, Q', h, t⟩ => (h s H C cl fp).run pins s' σ H' Q I t⟩
/-- a comprehension -/
theorem de_lc {tg iter elt : Expr} {ifs : List Expr} {scope : Scope} (t : Tg) (own : List (Str × Nat)) (hc : X.calm = true) (hN : X.N.Nodup) (ok : BlkOk X.N X.env.scope scope own)
    (hg : ∀ (s : Shared) (H : Hp) (C : Addr) (cl : List (Str × Addr)) (fp : List Addr), PG (Lcx X scope s H C cl fp) tg (gT X.K t)) (hv : ∀ i ∈ t.slots, i ∈ own.map (·.2))
    (h : LcP X tg iter ifs elt scope t (own.map (·.2)) ρ M Q) (hs : ∀ x, foldedSetIterable iter X.env x = pure x := by intro _; rfl) : DE X (.ListComp elt [⟨tg, iter, ifs, 0⟩] scope pos) ρ M Q :=
  de_imp (pe_lc hc hN (pi_u X tg iter) ok hg (pts_uB X scope ifs) (pe_uB X scope elt) hs) fun σ H k hE hM g => lc_go hv h hE hM g
/-- the pure case: items by a type of one's own, what is kept, what is given -/
theorem lc_pure {tg iter elt : Expr} {ifs : List Expr} {scope : Scope} {t : Tg} {vs : List Nat}
    (h : DI X tg iter ρ M fun ds M1 => ∃ (α : Type) (ι : α → PyData) (ws : List α) (f : α → Bool) (g : α → PyData), ds = ws.map ι ∧ ws.length ≤ 40000 ∧
      (∀ w ∈ ws, ∃ ρ', t.bind (ι w) (wipeR ρ vs) = some ρ' ∧ ∀ D acc, (∀ s H C cl fp, DTs (Lcx X scope s H C cl fp) ifs ρ' ((D, acc) :: M1) fun b M3 => b = f w ∧ M3 = (D, acc) :: M1) ∧
        (f w = true → ∀ s H C cl fp, DE (Lcx X scope s H C cl fp) elt ρ' ((D, acc) :: M1) fun en M4 => en = .d (g w) ∧ M4 = (D, acc) :: M1)) ∧ Q (.d (.list ((ws.filter f).map g))) M1) : LcP X tg iter ifs elt scope t vs ρ M Q := by
  refine ⟨fun pins s σ H R I ⟨hE, hM, g⟩ => h.run pins s σ H R I ⟨hE, hM, fun J H' ds M' x m W ⟨α, ι, ws, f, gg, ed, hl, ht, q⟩ => g J H' ds M' x m W ?_⟩⟩
  subst ed
  refine ⟨fun i acc M2 => acc = ((ws.take i).filter f).map gg ∧ M2 = M', by simpa using hl, ⟨by simp, rfl⟩, fun i acc M2 d D hd _ ⟨ha, hm⟩ => ?_, fun acc M2 _ ⟨ha, hm⟩ => ?_⟩
  · subst hm
    rw [List.getElem?_map] at hd
    cases hw : ws[i]? with
    | none => rw [hw] at hd; cases hd
    | some w =>
      rw [hw] at hd
      have ed : ι w = d := Option.some.inj hd
      subst ed
      obtain ⟨ρ', hb, hh⟩ := ht w (List.mem_of_getElem? hw)
      have et : ws.take (i + 1) = ws.take i ++ [w] := by rw [List.take_add_one, hw]; rfl
      refine ⟨ρ', f w, hb, (hh D acc).1, fun hf => ⟨?_, rfl⟩, fun hf s H C cl fp => de_mono ((hh D acc).2 hf s H C cl fp) fun en M4 ⟨q1, q2⟩ => ⟨gg w, M2, q1, q2, ?_, rfl⟩⟩
      · rw [ha, et]; simp [hf]
      · rw [ha, et]; simp [hf]
  · subst hm
    rw [List.length_map, List.take_length] at ha
    rw [ha]; exact q
end Dt

/-! sum, min, max of tuples of ints -/
namespace PySem
section
variable {prog : Program} {w : World} {A : Around} {E : Value → Shared → Prop} {s : Shared} {l : Addr} {xs : Array (Int × Tok)}
theorem dt_old_kept {o₀ : Obj} {h' : Heap} (hk : ∀ b o, b ∉ [s.heap.objs.size] → (s.heap.push o₀).get? b = some o → h'.get? b = some o) :
    ∀ b o, s.heap.get? b = some o → h'.get? b = some o := fun b o e => by
  refine hk b o (fun hm => ?_) (Heap.get?_push_of_some _ e)
  rcases List.mem_cons.mp hm with e1 | hm
  · exact absurd (e1 ▸ Heap.lt_size e) (Nat.lt_irrefl _)
  · cases hm
theorem dt_iter_intTup {Q : Value → Shared → Prop} (hl : s.heap.IsTuple l (intItems xs))
    (h : ∀ s₂ : Shared, s₂ = { s with heap := s.heap.push { cls := .type "tuple_iterator", data := .fields #[.ref l, .int 0 0] } } →
      (s₂.heap.IsTupleIter s.heap.objs.size l 0 ∧ s₂.heap.IsTuple l (intItems xs)) → (∀ b ∈ [s.heap.objs.size, l], b < s₂.heap.objs.size) → l ≠ s.heap.objs.size → Q (.ref s.heap.objs.size) s₂) :
    wpAny (model prog w) A (pyIter (.ref l)) Q E s := by
  have hlt : l < s.heap.objs.size := by obtain ⟨_, e, _⟩ := hl; exact Heap.lt_size e
  refine wpAny_pyIter_tuple hl (h _ rfl ⟨⟨_, Heap.get?_push_size _ rfl, rfl, rfl⟩, hl.push _⟩ (fun b hb => ?_) (Nat.ne_of_lt hlt))
  show b < (s.heap.push _).objs.size
  rw [Heap.size_push]
  rcases List.mem_cons.mp hb with rfl | hb
  · exact Nat.lt_succ_self _
  · rcases List.mem_cons.mp hb with rfl | hb
    · exact Nat.lt_succ_of_lt hlt
    · cases hb
theorem dt_sum_tup {Q : Value → Shared → Prop} (hh : A.handled = none) (hl : s.heap.IsTuple l (intItems xs))
    (h : ∀ h' tk t', (∀ b o, s.heap.get? b = some o → h'.get? b = some o) → Q (.int (preSum (numAt xs) xs.size) t') { s with heap := h', toks := tk }) :
    wpAny (model prog w) A (call (.builtin "sum") [.ref l]) Q E s := by
  refine call_sum_walkG (dt_iter_intTup hl fun s₂ e st hfp hlI => ?_)
  subst e
  refine ⟨_, _, _, _, _, _, numAt xs, rfl, Walks.tuple (A := A.in1) hh _ l hlI (intItems xs), st, hfp, (fun _ _ => intItems_at), fun h' tk t' hk => ?_⟩
  have := h h' tk t' (dt_old_kept hk)
  simpa [intItems] using this
theorem dt_min_tup {Q : Value → Shared → Prop} (hh : A.handled = none) (hl : s.heap.IsTuple l (intItems xs)) (hne : 0 < xs.size)
    (h : ∀ v h' tk, (intItems xs)[argBest (fun i j => decide (numAt xs i < numAt xs j)) (xs.size - 1)]? = some v → (∀ b o, s.heap.get? b = some o → h'.get? b = some o) → Q v { s with heap := h', toks := tk }) :
    wpAny (model prog w) A (call (.builtin "min") [.ref l]) Q E s := by
  refine call_min_walk (dt_iter_intTup hl fun s₂ e st hfp hlI => ?_)
  subst e
  refine ⟨_, _, _, _, _, _, _, rfl, Walks.tuple (A := A.in1) hh _ l hlI (intItems xs), st, hfp, by simpa [intItems] using hne, CmpOf.ints_lt (numAt xs) (fun _ _ => intItems_at), fun v h' tk hP hk => ?_⟩
  exact h v h' tk (by simpa [intItems] using hP) (dt_old_kept hk)
end
end PySem
namespace Dt
open PySem PySem.Spec PyProof.Rows L2
open Evl (Ex)
variable {K : PySem.W.Frag} {X : Cx} {ρ : Rho} {M : Mm} {Q : QE} {pos : Pos} {a b c e : Expr}
section
variable {prog : Program} {w : World} {A : Around} {E : Value → Shared → Prop} {s : Shared} {l : Addr} {its : List Value} {ns : List Int} {Q : Value → Shared → Prop}
theorem sumT_raw (hh : A.handled = none) (hl : s.heap.IsTuple l its.toArray) (hi : IntsAre its ns)
    (h : ∀ h' tk t', (∀ b o, s.heap.get? b = some o → h'.get? b = some o) → Q (.int ns.sum t') { s with heap := h', toks := tk }) : wpAny (model prog w) A (call (.builtin "sum") [.ref l]) Q E s := by
  obtain ⟨xs, e⟩ := hi.allInts.items
  have hn : numsOf (intItems xs).toList = ns := by rw [← e]; exact hi.numsOf
  rw [nums_intItems] at hn
  rw [e] at hl
  refine PySem.dt_sum_tup hh hl fun h' tk t' hk => ?_
  have := h h' tk t' hk
  rw [preSum_eq, List.take_of_length_le (by simp), hn]; exact this
theorem minT_raw (hh : A.handled = none) (hl : s.heap.IsTuple l its.toArray) (hi : IntsAre its ns) (hne : 0 < ns.length)
    (h : ∀ h' tk M t', (∀ b o, s.heap.get? b = some o → h'.get? b = some o) → M ∈ ns → (∀ a, a ∈ ns → M ≤ a) → Q (.int M t') { s with heap := h', toks := tk }) : wpAny (model prog w) A (call (.builtin "min") [.ref l]) Q E s := by
  obtain ⟨xs, e⟩ := hi.allInts.items
  have hn : numsOf (intItems xs).toList = ns := by rw [← e]; exact hi.numsOf
  rw [nums_intItems] at hn
  subst hn
  rw [e] at hl
  have hsz : 0 < xs.size := by simpa using hne
  refine PySem.dt_min_tup hh hl hsz fun v h' tk hv hk => ?_
  obtain ⟨t, rfl⟩ := intItems_at hv
  obtain ⟨h1, h2⟩ := argBest_lt (numAt xs) (xs.size - 1)
  refine h h' tk _ t hk ?_ fun a ha => ?_
  · rw [numAt_eq]; exact PySem.getD_mem (by rw [List.length_map, Array.length_toList]; omega)
  · obtain ⟨j, hj, rfl⟩ := mem_getD ha
    rw [List.length_map, Array.length_toList] at hj
    rw [← numAt_eq]; exact h2 j (by omega)
end
def rSumA (K : PySem.W.Frag) : List V → Hp → VK → Prop := fun vs H Q => ∃ (a : Addr) (ns : List Int), vs = [V.ref a] ∧ (SqL K H a (ns.map V.int) ∨ SqT K H a (ns.map V.int)) ∧ Q (.int ns.sum) H
theorem cr_sumA (hc : X.calm = true) : CallR X (.builtin "sum") (rSumA X.K) := by
  intro pins s σ H vs us Q I r h
  obtain ⟨a, ns, rfl, hs, q⟩ := h
  rcases hs with hs | hs
  · exact cr_sum hc pins s σ H _ us Q I r ⟨a, ns, rfl, hs, q⟩
  · obtain ⟨its, rv, hl, _⟩ := I.tuple hs
    rw [Vals.ref1 r]
    exact sumT_raw (I.ok.hd hc) hl rv.ints fun h' tk t' hk => ⟨.int _, H, I.kept hk, ⟨_, rfl⟩, q⟩
def rMinA (K : PySem.W.Frag) : List V → Hp → VK → Prop := fun vs H Q => ∃ (a : Addr) (ns : List Int), vs = [V.ref a] ∧ (SqL K H a (ns.map V.int) ∨ SqT K H a (ns.map V.int)) ∧ 0 < ns.length ∧ ∀ m, m ∈ ns → (∀ y, y ∈ ns → m ≤ y) → Q (.int m) H
theorem cr_minA (hc : X.calm = true) : CallR X (.builtin "min") (rMinA X.K) := by
  intro pins s σ H vs us Q I r h
  obtain ⟨a, ns, rfl, hs, hne, q⟩ := h
  rcases hs with hs | hs
  · exact cr_min hc pins s σ H _ us Q I r ⟨a, ns, rfl, hs, hne, q⟩
  · obtain ⟨its, rv, hl, _⟩ := I.tuple hs
    rw [Vals.ref1 r]
    exact minT_raw (I.ok.hd hc) hl rv.ints hne fun h' tk m t' hk h1 h2 => ⟨.int _, H, I.kept hk, ⟨_, rfl⟩, q m h1 h2⟩

/-! ### promises -/
abbrev Ctr := List Ent → Mm → QE → Prop
def Pr (K : PySem.W.Frag) (C : Ctr) : Sp := fun vs H Q _ => ∃ M es QQ, MAt K M H ∧ VlAll K (msk H M) vs es ∧ C es M QQ ∧ Go K M H QQ Q
/-- a def that may be called by its name -/
structure Cal (P : Program) (w : World) (K : PySem.W.Frag) (mg : Str → Option Value) (base : Heap) (x : Str) (k : Nat) (C : Ctr) : Prop where
  ex : ∃ f fd ps, FnOk P w K mg base CX0 k f fd ps (Pr K C) ∧ mg x = some (.ref f) ∧ PySem.W.keepIn K (.ref f) = true ∧ Binds K fd ps []
theorem de_call {x : Str} {k j : Nat} {C : Ctr} {es : List Expr} {p : Pos} (c : Cal X.prog X.w X.K X.mg X.base x k C) (hr : Room j X.A) (hk : k ≤ j) (hg : Gl X x) (h : DA X (e :: es) ρ M fun ens M1 => C ens M1 Q)
    (hdb : (x == ("__debug__" : Str)) = false := by decide) (he : starEach (e :: es) X.env = (false, eval e X.env) :: starEach es X.env := by rfl) (hpl : (backTo pos (starEach es X.env)).any (·.1) = false := by rfl) : DE X (.Call (.Name x p) (e :: es) [] pos) ρ M Q := by
  obtain ⟨f, fd, ps, F, hm, hk', hb⟩ := c.ex
  refine de_imp (pe_call F (hr.mono hk) hg hm hk' hb .nil pass0 (pa_u X (e :: es)) hdb he hpl) fun σ H kk hE hM g => ⟨ρ, M, _, h, hE, hM, fun vs H1 es' M1 x1 m1 v1 q1 => ?_⟩
  show Pr X.K C (vs ++ []) H1 kk E0
  rw [List.append_nil]
  exact ⟨M1, es', Q, m1, v1, q1, g.on x1⟩
theorem de_callB {id : String} {r : List V → Hp → VK → Prop} {x : Str} {es : List Expr} {p : Pos} (hc : CallR X (.builtin id) r) (hg : Gl X x) (hm : X.mg x = none) (hv : bootBuiltins x = some (.builtin id)) (h : DA X (e :: es) ρ M fun ens M1 => RCD X.K r ens M1 Q)
    (hn : x ≠ "__name__" := by decide) (hdb : (x == ("__debug__" : Str)) = false := by decide) (he : starEach (e :: es) X.env = (false, eval e X.env) :: starEach es X.env := by rfl) (hpl : (backTo pos (starEach es X.env)).any (·.1) = false := by rfl) : DE X (.Call (.Name x p) (e :: es) [] pos) ρ M Q :=
  de_imp (pe_callB hc hg hm hv (pa_u X (e :: es)) hn hdb he hpl) fun σ H kk hE hM g => ⟨ρ, M, _, h, hE, hM, fun vs H1 es' M1 x1 m1 v1 q1 => q1 vs H1 kk m1 v1 (g.on x1)⟩
theorem de_callTy {id : String} {r : List V → Hp → VK → Prop} {x : Str} {es : List Expr} {p : Pos} (hc : CallR X (.type id) r) (hg : Gl X x) (hm : X.mg x = none) (hv : bootBuiltins x = some (.type id)) (h : DA X (e :: es) ρ M fun ens M1 => RCD X.K r ens M1 Q)
    (hn : x ≠ "__name__" := by decide) (hdb : (x == ("__debug__" : Str)) = false := by decide) (he : starEach (e :: es) X.env = (false, eval e X.env) :: starEach es X.env := by rfl) (hpl : (backTo pos (starEach es X.env)).any (·.1) = false := by rfl) : DE X (.Call (.Name x p) (e :: es) [] pos) ρ M Q :=
  de_imp (pe_callTy hc hg hm hv (pa_u X (e :: es)) hn hdb he hpl) fun σ H kk hE hM g => ⟨ρ, M, _, h, hE, hM, fun vs H1 es' M1 x1 m1 v1 q1 => q1 vs H1 kk m1 v1 (g.on x1)⟩
theorem vlS {H : Hp} {vs : List V} {en : Ent} {ds : List PyData} (h : VlAll K H vs [en]) (hs : SeqOf en ds) : ∃ p xs, vs = [.ref p] ∧ (SqL K H p xs ∨ SqT K H p xs) ∧ DpAll K H xs ds := by
  cases h with
  | cons a t =>
    cases t
    cases hs with
    | t =>
      rename_i v
      have a' : Dp K H v (.tuple ds) := a
      cases a' with | tup h1 h2 => exact ⟨_, _, rfl, .inr h1, h2⟩
    | l =>
      rename_i v
      have a' : Dp K H v (.list ds) := a
      cases a' with | lst h1 h2 => exact ⟨_, _, rfl, .inl (Evl.sq_of h1), h2⟩
theorem vlM {H : Hp} {vs : List V} {p : Addr} (h : VlAll K H vs [.m p]) : vs = [.ref p] := by
  cases h with
  | cons a t =>
    cases t
    have a' : _ = V.ref p := a
    rw [a']
theorem sq_up {H : Hp} {M : Mm} {p : Addr} {xs : List V} (h : SqL K (msk H M) p xs ∨ SqT K (msk H M) p xs) : SqL K H p xs ∨ SqT K H p xs := h.elim (fun h => .inl (Evl.ex_l msk_sub h)) fun h => .inr (Evl.ex_t msk_sub h)
theorem c_len {en : Ent} {ds : List PyData} (hs : SeqOf en ds) (q : Q (.d (.int (ds.length : Int))) M) : RCD K (fun xs H Q => ∃ p ys, xs = [.ref p] ∧ (SqL K H p ys ∨ SqT K H p ys) ∧ Q (.int ys.length) H) [en] M Q := fun vs H k hM hv g => by
  obtain ⟨p, xs, rfl, h1, h2⟩ := vlS hv hs
  refine ⟨p, xs, rfl, sq_up h1, ?_⟩
  rw [h2.len]; exact g.dat hM (.int _) q
theorem c_lenM {p : Addr} {ds : List PyData} (kk : Nat) (hk : M[kk]? = some (p, ds)) (q : Q (.d (.int (ds.length : Int))) M) : RCD K (fun xs H Q => ∃ p ys, xs = [.ref p] ∧ (SqL K H p ys ∨ SqT K H p ys) ∧ Q (.int ys.length) H) [.m p] M Q := fun vs H k hM hv g => by
  obtain ⟨ws, e1, e2⟩ := hM.at_ _ (List.mem_of_getElem? hk)
  refine ⟨p, ws, vlM hv, .inl (.inl (.inl e1)), ?_⟩
  rw [e2.len]; exact g.dat hM (.int _) q
theorem c_sum {en : Ent} {ns : List Int} (hs : SeqOf en (ns.map PyData.int)) (q : Q (.d (.int ns.sum)) M) : RCD K (rSumA K) [en] M Q := fun vs H k hM hv g => by
  obtain ⟨p, xs, rfl, h1, h2⟩ := vlS hv hs
  have e := h2.ints_inv
  subst e
  exact ⟨p, ns, rfl, sq_up h1, g.dat hM (.int _) q⟩
/-- the least of a list of ints -/
def mn : List Int → Int
  | [] => 0
  | [a] => a
  | a :: b :: r => if a ≤ mn (b :: r) then a else mn (b :: r)
theorem mn_mem : ∀ {ns : List Int}, ns ≠ [] → mn ns ∈ ns
  | [], h => absurd rfl h
  | [a], _ => by simp [mn]
  | a :: b :: r, _ => by
    unfold mn
    split
    · exact List.mem_cons_self ..
    · exact List.mem_cons_of_mem _ (mn_mem (by simp))
theorem mn_le : ∀ {ns : List Int} {y : Int}, y ∈ ns → mn ns ≤ y
  | [a], y, h => by
    have e : y = a := by simpa using h
    subst e; simp [mn]
  | a :: b :: r, y, h => by
    unfold mn
    rcases List.mem_cons.mp h with rfl | h
    · split <;> omega
    · have := mn_le h
      split <;> omega
theorem mn_of {ns : List Int} {m : Int} (h1 : m ∈ ns) (h2 : ∀ y, y ∈ ns → m ≤ y) : m = mn ns := by
  have a := mn_le h1
  have b := h2 _ (mn_mem (List.ne_nil_of_mem h1))
  omega
theorem c_min {en : Ent} {ns : List Int} (hs : SeqOf en (ns.map PyData.int)) (hn : 0 < ns.length) (q : Q (.d (.int (mn ns))) M) : RCD K (rMinA K) [en] M Q := fun vs H k hM hv g => by
  obtain ⟨p, xs, rfl, h1, h2⟩ := vlS hv hs
  have e := h2.ints_inv
  subst e
  exact ⟨p, ns, rfl, sq_up h1, hn, fun m hm hl => by rw [mn_of hm hl]; exact g.dat hM (.int _) q⟩
theorem c_max2 {i j : Int} (q : Q (.d (.int (if j > i then j else i))) M) : RCD K (fun xs H Q => ∃ i j, xs = [.int i, .int j] ∧ Q (.int (if j > i then j else i)) H) [.d (.int i), .d (.int j)] M Q := fun vs H k hM hv g => by
  obtain ⟨v, w, rfl, a, b⟩ := vl2 hv
  cases a; cases b
  exact ⟨i, j, rfl, g.dat hM (.int _) q⟩
theorem c_min2 {i j : Int} (q : Q (.d (.int (if j < i then j else i))) M) : RCD K (fun xs H Q => ∃ i j, xs = [.int i, .int j] ∧ Q (.int (if j < i then j else i)) H) [.d (.int i), .d (.int j)] M Q := fun vs H k hM hv g => by
  obtain ⟨v, w, rfl, a, b⟩ := vl2 hv
  cases a; cases b
  exact ⟨i, j, rfl, g.dat hM (.int _) q⟩
theorem c_abs {i : Int} (q : Q (.d (.int (if i < 0 then -i else i))) M) : RCD K (fun xs H Q => ∃ i, xs = [.int i] ∧ Q (.int (if i < 0 then -i else i)) H) [.d (.int i)] M Q := fun vs H k hM hv g => by
  obtain ⟨v, rfl, a⟩ := vl1 hv
  cases a
  exact ⟨i, rfl, g.dat hM (.int _) q⟩
theorem c_int {i : Int} (q : Q (.d (.int i)) M) : RCD K (fun xs H Q => (∃ i, xs = [.int i] ∧ Q (.int i) H) ∨ ∃ k, xs = [.bl k] ∧ Q (.int (if k then 1 else 0)) H) [.d (.int i)] M Q := fun vs H k hM hv g => by
  obtain ⟨v, rfl, a⟩ := vl1 hv
  cases a
  exact .inl ⟨i, rfl, g.dat hM (.int _) q⟩
theorem c_tuple {en : Ent} {ds : List PyData} (hs : SeqOf en ds) (q : Q (.d (.tuple ds)) M) : RCD K (fun xs H Q => ∃ p ys, xs = [.ref p] ∧ ((SqL K H p ys ∧ ∀ l, H l = none → Q (.ref l) (upd H l (.tup ys))) ∨ (SqT K H p ys ∧ Q (.ref p) H))) [en] M Q := fun vs H k hM hv g => by
  obtain ⟨p, xs, rfl, h1, h2⟩ := vlS hv hs
  refine ⟨p, xs, rfl, ?_⟩
  rcases h1 with h1 | h1
  · exact .inl ⟨Evl.ex_l msk_sub h1, g.newT hM h2 q⟩
  · exact .inr ⟨Evl.ex_t msk_sub h1, g.dat hM (.tup h1 h2) q⟩
theorem c_tupleM {p : Addr} {ds : List PyData} (kk : Nat) (hk : M[kk]? = some (p, ds)) (q : Q (.d (.tuple ds)) M) : RCD K (fun xs H Q => ∃ p ys, xs = [.ref p] ∧ ((SqL K H p ys ∧ ∀ l, H l = none → Q (.ref l) (upd H l (.tup ys))) ∨ (SqT K H p ys ∧ Q (.ref p) H))) [.m p] M Q := fun vs H k hM hv g => by
  obtain ⟨ws, e1, e2⟩ := hM.at_ _ (List.mem_of_getElem? hk)
  exact ⟨p, ws, vlM hv, .inl ⟨.inl (.inl e1), g.newT hM e2 q⟩⟩
/-- list(x), the copy as data, as a list that will change -/
theorem c_list {en : Ent} {ds : List PyData} (hs : SeqOf en ds) (q : Q (.d (.list ds)) M) : RCD K (fun xs H Q => ∃ p ys, xs = [.ref p] ∧ (SqL K H p ys ∨ SqT K H p ys) ∧ ∀ l, H l = none → Q (.ref l) (upd H l (.lst ys))) [en] M Q := fun vs H k hM hv g => by
  obtain ⟨p, xs, rfl, h1, h2⟩ := vlS hv hs
  exact ⟨p, xs, rfl, sq_up h1, g.newL hM h2 q⟩
theorem c_listM {en : Ent} {ds : List PyData} (hs : SeqOf en ds) (q : ∀ p, Q (.m p) ((p, ds) :: M)) : RCD K (fun xs H Q => ∃ p ys, xs = [.ref p] ∧ (SqL K H p ys ∨ SqT K H p ys) ∧ ∀ l, H l = none → Q (.ref l) (upd H l (.lst ys))) [en] M Q := fun vs H k hM hv g => by
  obtain ⟨p, xs, rfl, h1, h2⟩ := vlS hv hs
  exact ⟨p, xs, rfl, sq_up h1, g.newM hM h2 q⟩
theorem c_all {en : Ent} {bs : List Bool} (hs : SeqOf en (bs.map PyData.bool)) (hl : en = .d (.list (bs.map PyData.bool))) (q : Q (.d (.bool (bs.all id))) M) : RCD K (rAll K) [en] M Q := fun vs H k hM hv g => by
  subst hl
  obtain ⟨v, rfl, a⟩ := vl1 hv
  cases a with
  | lst h1 h2 =>
    have e := h2.bls_inv
    subst e
    exact ⟨_, bs, rfl, Evl.sq_of (msk_sub _ _ h1), g.dat hM (.bl _) q⟩
theorem c_any {bs : List Bool} (q : Q (.d (.bool (bs.any id))) M) : RCD K (rAny K) [.d (.list (bs.map PyData.bool))] M Q := fun vs H k hM hv g => by
  obtain ⟨v, rfl, a⟩ := vl1 hv
  cases a with
  | lst h1 h2 =>
    have e := h2.bls_inv
    subst e
    exact ⟨_, bs, rfl, Evl.sq_of (msk_sub _ _ h1), g.dat hM (.bl _) q⟩
/-- sorted of a list of ints: any arrangement that is in order -/
theorem c_sorted {ns : List Int} (hl : ns.length ≤ 40000) (q : ∀ ms : List Int, ms.Perm ns → ms.Pairwise (· ≤ ·) → Q (.d (.list (ms.map PyData.int))) M) : RCD K (rSortedI K) [.d (.list (ns.map PyData.int))] M Q := fun vs H k hM hv g => by
  obtain ⟨v, rfl, a⟩ := vl1 hv
  cases a with
  | lst h1 h2 =>
    have e := h2.ints_inv
    subst e
    exact ⟨_, ns, rfl, Evl.sq_of (msk_sub _ _ h1), fun ms p p1 p2 hp => g.newL hM (.ints ms) (q ms p1 p2) p hp⟩

/-! ### sums, products of sequences -/
theorem o_catT {xs ys : List PyData} (hl : xs.length + ys.length ≤ 100000) (q : Q (.d (.tuple (xs ++ ys))) M) : R2D K (rCatA K) (.d (.tuple xs)) (.d (.tuple ys)) M Q := fun x y H k hM hx hy g => by
  have hx' : Dp K (msk H M) x (.tuple xs) := hx
  have hy' : Dp K (msk H M) y (.tuple ys) := hy
  cases hx' with
  | tup h1 h2 =>
    cases hy' with
    | tup h3 h4 =>
      refine ⟨_, _, _, _, rfl, rfl, Evl.ex_t msk_sub h1, Evl.ex_t msk_sub h3, by rw [h2.len, h4.len]; exact sz_le hl, fun e => ?_, fun _ e => ?_, fun _ _ => g.newT hM (h2.app h4) q⟩
      · subst e
        have : xs = [] := by cases h2; rfl
        subst this
        exact g.dat hM hy q
      · subst e
        have : ys = [] := by cases h4; rfl
        subst this
        rw [List.append_nil] at q
        exact g.dat hM hx q
theorem o_catL {xs ys : List PyData} (hl : xs.length + ys.length ≤ 100000) (q : Q (.d (.list (xs ++ ys))) M) : R2D K rCat (.d (.list xs)) (.d (.list ys)) M Q := fun x y H k hM hx hy g => by
  have hx' : Dp K (msk H M) x (.list xs) := hx
  have hy' : Dp K (msk H M) y (.list ys) := hy
  cases hx' with
  | lst h1 h2 =>
    cases hy' with
    | lst h3 h4 => exact ⟨_, _, _, _, rfl, rfl, msk_sub _ _ h1, msk_sub _ _ h3, by rw [h2.len, h4.len]; exact sz_le hl, g.newL hM (h2.app h4) q⟩
theorem DpAll.rep {H : Hp} {vs : List V} {ds : List PyData} (h : DpAll K H vs ds) : ∀ n : Nat, DpAll K H (List.replicate n vs).flatten (List.replicate n ds).flatten
  | 0 => .nil
  | n + 1 => by simp only [List.replicate_succ, List.flatten_cons]; exact h.app (DpAll.rep h n)
theorem o_repL {xs : List PyData} {i : Int} (hi : -(2 ^ 63) ≤ i ∧ i < 2 ^ 63) (hl : xs.length * i.toNat ≤ 100000) (q : Q (.d (.list (List.replicate i.toNat xs).flatten)) M) : R2D K rRep (.d (.list xs)) (.d (.int i)) M Q := fun x y H k hM hx hy g => by
  have hx' : Dp K (msk H M) x (.list xs) := hx
  cases hy
  cases hx' with
  | lst h1 h2 => exact ⟨_, _, _, rfl, rfl, msk_sub _ _ h1, hi.1, hi.2, by rw [h2.len]; exact sz_le hl, g.newL hM (h2.rep _) q⟩
end Dt

namespace Dt
open PySem PySem.Spec PyProof.Rows L2
open Evl (Ex)
variable {K : PySem.W.Frag} {X : Cx} {ρ : Rho} {M : Mm} {Q : QE} {pos : Pos} {a b c e : Expr}

/-! ### methods of lists that change -/
theorem de_bm {T : String} {name : Str} {id : String} {r : V → List V → Hp → VK → Prop} {o : Expr} {es : List Expr} {apos cpos : Pos} {p : Addr} {ds : List PyData} (kk : Nat)
    (ok : PE X (.Call (.Attribute o name apos) (e :: es) [] cpos) (tBM X.K "list" r (uE X o) (uA X (e :: es))))
    (h : DE X o ρ M fun en M1 => ∃ p : Addr, en = .m p ∧ (∃ (kk : Nat) (ds : List PyData), M1[kk]? = some (p, ds)) ∧ DA X (e :: es) ρ M1 fun ens M2 => ∀ vs H k, MAt X.K M2 H → VlAll X.K (msk H M2) vs ens → Go X.K M2 H Q k → r (.ref p) vs H k) : DE X (.Call (.Attribute o name apos) (e :: es) [] cpos) ρ M Q :=
  de_imp ok fun σ H k hE hM g => ⟨ρ, M, _, h, hE, hM, fun v H1 en M1 x1 m1 v1 ⟨p, ep, ⟨kk, ds, hk⟩, q1⟩ => by
    subst ep
    have v1' : v = .ref p := v1
    subst v1'
    obtain ⟨ws, e1, e2⟩ := m1.at_ _ (List.mem_of_getElem? hk)
    exact ⟨.inl ⟨rfl, _, .inl (.inl e1)⟩, ρ, M1, _, q1, hE.ex x1, m1, fun vs H2 ens M2 x2 m2 v2 q2 => q2 vs H2 k m2 v2 (g.on (x1.trans x2))⟩⟩
/-- xs.append(e) -/
theorem de_append {o : Expr} {apos cpos : Pos} (h : DE X o ρ M fun en M1 => ∃ p : Addr, en = .m p ∧ (∃ (kk : Nat) (ds : List PyData), M1[kk]? = some (p, ds)) ∧ DE X e ρ M1 fun e2 M2 => ∃ (d : PyData) (k : Nat) (ds : List PyData), e2 = .d d ∧ M2[k]? = some (p, ds) ∧ ds.length < 100000 ∧ Q (.d .none) (M2.set k (p, ds ++ [d])))
    (ok : PE X (.Call (.Attribute o "append" apos) [e] [] cpos) (tBM X.K "list" rAppend (uE X o) (uA X [e])) := by exact pe_bm PySem.F.plainAttrs_list PySem.F.slot_list_append PySem.F.type_list_append mt_append (pe_u _ _) (pa_u _ _)) (hs : starEach [e] X.env = (false, eval e X.env) :: starEach [] X.env := by rfl) : DE X (.Call (.Attribute o "append" apos) [e] [] cpos) ρ M Q := by
  refine de_bm (T := "list") (id := "") (p := 0) (ds := []) 0 ok ?_
  refine de_mono h fun en M1 ⟨p, ep, hp, hd⟩ => ⟨p, ep, hp, da_cons (de_mono hd fun e2 M2 ⟨d, k, ds, ed, hk, hl, q⟩ => da_nil ?_) hs⟩
  subst ed
  rintro vs H kk hM hv g
  obtain ⟨v, rfl, hv'⟩ := vl1 hv
  obtain ⟨ws, e1, e2⟩ := hM.at_ _ (List.mem_of_getElem? hk)
  obtain ⟨m3, x3⟩ := mset hM hk (e2.app (.cons hv' .nil))
  exact ⟨p, ws, v, rfl, rfl, e1, Nat.lt_of_lt_of_le (by rw [e2.len]; exact hl) (by decide), g _ _ (.d .none) _ x3 m3 .non q⟩
/-- xs.pop(i) -/
theorem de_popAt {o : Expr} {apos cpos : Pos} (h : DE X o ρ M fun en M1 => ∃ p : Addr, en = .m p ∧ (∃ (kk : Nat) (ds : List PyData), M1[kk]? = some (p, ds)) ∧ DE X e ρ M1 fun e2 M2 => ∃ (j : Nat) (k : Nat) (ds : List PyData) (d : PyData), e2 = .d (.int (j : Int)) ∧ M2[k]? = some (p, ds) ∧ ds[j]? = some d ∧ j < 1000000 ∧ Q (.d d) (M2.set k (p, ds.eraseIdx j)))
    (ok : PE X (.Call (.Attribute o "pop" apos) [e] [] cpos) (tBM X.K "list" rPopAt (uE X o) (uA X [e])) := by exact pe_bm PySem.F.plainAttrs_list PySem.F.slot_list_pop PySem.F.type_list_pop mt_popAt (pe_u _ _) (pa_u _ _)) (hs : starEach [e] X.env = (false, eval e X.env) :: starEach [] X.env := by rfl) : DE X (.Call (.Attribute o "pop" apos) [e] [] cpos) ρ M Q := by
  refine de_bm (T := "list") (id := "") (p := 0) (ds := []) 0 ok ?_
  refine de_mono h fun en M1 ⟨p, ep, hp, hd⟩ => ⟨p, ep, hp, da_cons (de_mono hd fun e2 M2 ⟨j, k, ds, d, ed, hk, hl, hj, q⟩ => da_nil ?_) hs⟩
  subst ed
  rintro vs H kk hM hv g
  obtain ⟨v, rfl, hv'⟩ := vl1 hv
  cases hv'
  obtain ⟨ws, e1, e2⟩ := hM.at_ _ (List.mem_of_getElem? hk)
  obtain ⟨m3, x3⟩ := mset hM hk (e2.erase j)
  obtain ⟨y, hy, hyd⟩ := e2.get hl
  have hlt : j < ws.length := (List.getElem?_eq_some_iff.mp hy).1
  exact ⟨p, ws, (j : Int), j, y, rfl, rfl, e1, by omega, by omega, by rw [seqIndex_of (by omega) (by omega)]; rfl, hy, g _ _ (.d d) _ x3 m3 (dp_ex x3 _ _ hyd) q⟩

/-! ### statements -/
structure Pst where
  N : Rho → Mm → Prop
  R : QE
  B : Rho → Mm → Prop := fun _ _ => False
  C : Rho → Mm → Prop := fun _ _ => False
abbrev GoS (K : PySem.W.Frag) (M : Mm) (H : Hp) (N : Rho → Mm → Prop) (d : L2.St → Hp → Prop) : Prop :=
  ∀ σ' H' ρ' M', Ex (msk H M) (msk H' M') → Env K (msk H' M') σ' ρ' → MAt K M' H' → N ρ' M' → d σ' H'
def tS (K : PySem.W.Frag) (ρ : Rho) (M : Mm) (P : Pst) : TS := fun D σ H => Env K (msk H M) σ ρ ∧ MAt K M H ∧ GoS K M H P.N D.nx ∧ Go K M H P.R D.rt ∧ GoS K M H P.B D.bk ∧ GoS K M H P.C D.ct
def S1 (X : Cx) (st : Stmt) (ρ : Rho) (M : Mm) (P : Pst) : Prop := PS X st (tS X.K ρ M P)
def SB (X : Cx) (st : List Stmt) (ρ : Rho) (M : Mm) (P : Pst) : Prop := PSs X st (tS X.K ρ M P)
def uS (X : Cx) (st : Stmt) : TS := fun D σ H => ∃ ρ M P, S1 X st ρ M P ∧ tS X.K ρ M P D σ H
theorem ps_u (X : Cx) (st : Stmt) : PS X st (uS X st) := ⟨fun pins s σ H D I ⟨ρ, M, Q', h, t⟩ => h.run pins s σ H D I t⟩
def uB (X : Cx) (st : List Stmt) : TS := fun D σ H => ∃ ρ M P, SB X st ρ M P ∧ tS X.K ρ M P D σ H
theorem pss_u (X : Cx) (st : List Stmt) : PSs X st (uB X st) := ⟨fun pins s σ H D I ⟨ρ, M, Q', h, t⟩ => h.run pins s σ H D I t⟩
variable {P : Pst} {st : Stmt} {rest sts : List Stmt}
theorem s1_imp {t : TS} (h : PS X st t) (w : ∀ D σ H, Env X.K (msk H M) σ ρ → MAt X.K M H → GoS X.K M H P.N D.nx → Go X.K M H P.R D.rt → GoS X.K M H P.B D.bk → GoS X.K M H P.C D.ct → t D σ H) : S1 X st ρ M P :=
  ⟨fun pins s σ H D I ⟨h1, h2, h3, h4, h5, h6⟩ => h.run pins s σ H D I (w D σ H h1 h2 h3 h4 h5 h6)⟩
theorem sb_imp {t : TS} (h : PSs X sts t) (w : ∀ D σ H, Env X.K (msk H M) σ ρ → MAt X.K M H → GoS X.K M H P.N D.nx → Go X.K M H P.R D.rt → GoS X.K M H P.B D.bk → GoS X.K M H P.C D.ct → t D σ H) : SB X sts ρ M P :=
  ⟨fun pins s σ H D I ⟨h1, h2, h3, h4, h5, h6⟩ => h.run pins s σ H D I (w D σ H h1 h2 h3 h4 h5 h6)⟩
theorem GoS.on {M M1 : Mm} {H H1 : Hp} {N : Rho → Mm → Prop} {d : L2.St → Hp → Prop} (g : GoS K M H N d) (e : Ex (msk H M) (msk H1 M1)) : GoS K M1 H1 N d := fun σ' H' ρ' M' x => g σ' H' ρ' M' (e.trans x)
theorem sb_nil (q : P.N ρ M) : SB X [] ρ M P := sb_imp pss_nil fun D σ H hE hM n r b c => n σ H ρ M (Ex.refl _) hE hM q
theorem sb_cons (h : S1 X st ρ M { P with N := fun ρ' M' => SB X rest ρ' M' P }) : SB X (st :: rest) ρ M P :=
  sb_imp (pss_cons (ps_u X st) (pss_u X rest)) fun D σ H hE hM n r b c => ⟨ρ, M, _, h, hE, hM, fun σ' H' ρ' M' x hE' hM' q => ⟨ρ', M', P, q, hE', hM', n.on x, r.on x, b.on x, c.on x⟩, r, b, c⟩
theorem sb_one (h : S1 X st ρ M P) : SB X [st] ρ M P := sb_cons (by
  refine s1_imp h fun D σ H hE hM n r b c => ⟨hE, hM, fun σ' H' ρ' M' x hE' hM' q => n σ' H' ρ' M' x hE' hM' (sb_nil q), r, b, c⟩)
/-- part of the store is data from here on: the slot i that holds its first list -/
theorem sb_thaw (i : Nat) {p : Addr} {ds : List PyData} (h : SB X sts (ρ.set i (some (.d (.list ds)))) M P) (hi : ρ[i]? = some (some (.m p))) : SB X sts ρ ((p, ds) :: M) P :=
  sb_imp h fun D σ H hE hM n r b c => by
    have x : Ex (msk H ((p, ds) :: M)) (msk H M) := ex_tail
    refine ⟨?_, hM.tail, fun σ' H' ρ' M' y => n σ' H' ρ' M' (x.trans y), fun v H' e' M' y => r v H' e' M' (x.trans y), fun σ' H' ρ' M' y => b σ' H' ρ' M' (x.trans y), fun σ' H' ρ' M' y => c σ' H' ρ' M' (x.trans y)⟩
    have hE2 := hE.ex x
    obtain ⟨v, h1, h2⟩ := hE2.get i _ hi
    have h2' : v = .ref p := h2
    subst h2'
    have h3 := hE2.set (i := i) hM.thaw
    have e : σ.set i (some (.ref p)) = σ := by
      refine List.ext_getElem? fun j => ?_
      by_cases hj : i = j
      · subst hj
        rw [List.getElem?_set_self (List.getElem?_eq_some_iff.mp h1).1, h1]
      · rw [List.getElem?_set_ne hj]
    rw [e] at h3
    exact h3
/-- the store's first list forgotten -/
theorem sb_drop {p : Addr × List PyData} (h : SB X sts ρ M P) : SB X sts ρ (p :: M) P :=
  sb_imp h fun D σ H hE hM n r b c => ⟨hE.ex ex_tail, hM.tail, fun σ' H' ρ' M' y => n σ' H' ρ' M' (ex_tail.trans y), fun v H' e' M' y => r v H' e' M' (ex_tail.trans y), fun σ' H' ρ' M' y => b σ' H' ρ' M' (ex_tail.trans y), fun σ' H' ρ' M' y => c σ' H' ρ' M' (ex_tail.trans y)⟩
/-- what is known of the slots is less -/
theorem Env.weak {H : Hp} {σ : L2.St} {ρ ρ' : Rho} (h : Env K H σ ρ) (hl : ρ'.length = ρ.length) (w : ∀ (i : Nat) (e : Ent), ρ'[i]? = some (some e) → ρ[i]? = some (some e)) : Env K H σ ρ' := ⟨by rw [h.len, hl], fun i e q => h.get i e (w i e q)⟩
theorem s_set {i : Nat} {x : Str} {pos' : Pos} (hN : X.N.Nodup) (hi : X.N[i]? = some x) (hx : Loc X.env.scope x) (h : DE X e ρ M fun en M1 => P.N (ρ.set i (some en)) M1) (hs : swapsWith e (some (.Name x pos')) pos.line X.env = pure false := by rfl)
    (hf : X.fn x = true ∨ X.env.scope.names.lookup x = some .local := by first | exact .inl rfl | exact .inr rfl | assumption) : S1 X (.Assign [.Name x pos'] e pos) ρ M P :=
  s1_imp (ps_set hN hi hx (pe_u X e) hs hf) fun D σ H hE hM n r b c => ⟨ρ, M, _, h, hE, hM, fun v H1 en M1 x1 m1 v1 q => n _ H1 _ M1 x1 ((hE.ex x1).set v1) m1 q⟩
theorem s_setLc {i : Nat} {y : Str} {py spos : Pos} {tg iter elt : Expr} {ifs : List Expr} {scope : Scope} (t : Tg) (own : List (Str × Nat)) (hc : X.calm = true) (hN : X.N.Nodup) (hy : X.N[i]? = some y) (hyl : X.env.scope.names.lookup y = some .local)
    (hsw : swapsWith (.ListComp elt [⟨tg, iter, ifs, 0⟩] scope pos) (some (.Name y py)) spos.line X.env = pure true) (ok : BlkOk X.N X.env.scope scope own)
    (hg : ∀ (s : Shared) (H : Hp) (C : Addr) (cl : List (Str × Addr)) (fp : List Addr), PG (Lcx X scope s H C cl fp) tg (gT X.K t)) (hv : ∀ i ∈ t.slots, i ∈ own.map (·.2))
    (h : LcP X tg iter ifs elt scope t (own.map (·.2)) ρ M fun en M1 => P.N (ρ.set i (some en)) M1) (hs : ∀ x, foldedSetIterable iter X.env x = pure x := by intro _; rfl) : S1 X (.Assign [.Name y py] (.ListComp elt [⟨tg, iter, ifs, 0⟩] scope pos) spos) ρ M P :=
  s1_imp (ps_setLc hc hN hy hyl hsw (pi_u X tg iter) ok hg (pts_uB X scope ifs) (pe_uB X scope elt) hs) fun D σ H hE hM n r b c =>
    lc_go hv h hE hM fun v H1 en M1 x1 m1 v1 q => n _ H1 _ M1 x1 ((hE.ex x1).set v1) m1 q
/-- the same list, changed in place by hand: a list that will change -/
theorem s_ret (h : DE X e ρ M P.R) : S1 X (.Return (some e) pos) ρ M P :=
  s1_imp (ps_ret (pe_u X e)) fun D σ H hE hM n r b c => ⟨ρ, M, _, h, hE, hM, r⟩
theorem s_retN (h : P.R (.d .none) M) : S1 X (.Return none pos) ρ M P :=
  s1_imp ps_retN fun D σ H hE hM n r b c => r.dat hM .non h
theorem s_expr (h : DE X e ρ M fun _ M1 => P.N ρ M1) (hs : swapsWith e none pos.line X.env = pure false := by rfl) : S1 X (.Expr e pos) ρ M P :=
  s1_imp (ps_expr (pe_u X e) hs) fun D σ H hE hM n r b c => ⟨ρ, M, _, h, hE, hM, fun v H1 en M1 x1 m1 v1 q => n σ H1 ρ M1 x1 (hE.ex x1) m1 q⟩
theorem s_if {x y : List Stmt} (h : DT X c ρ M fun k M1 => (k = true → SB X x ρ M1 P) ∧ (k = false → SB X y ρ M1 P)) : S1 X (.If c x y pos) ρ M P :=
  s1_imp (ps_if (pt_u X c) (pss_u X x) (pss_u X y)) fun D σ H hE hM n r b c => ⟨ρ, M, _, h, hE, hM, fun k H1 M1 x1 m1 q => by
    cases k with
    | true => exact ⟨ρ, M1, P, q.1 rfl, hE.ex x1, m1, n.on x1, r.on x1, b.on x1, c.on x1⟩
    | false => exact ⟨ρ, M1, P, q.2 rfl, hE.ex x1, m1, n.on x1, r.on x1, b.on x1, c.on x1⟩⟩
theorem s_pass (q : P.N ρ M) : S1 X (.Pass pos) ρ M P := s1_imp ps_pass fun D σ H hE hM n r b c => n σ H ρ M (Ex.refl _) hE hM q
theorem s_break (q : P.B ρ M) : S1 X (.Break pos) ρ M P := s1_imp ps_break fun D σ H hE hM n r b c => b σ H ρ M (Ex.refl _) hE hM q
theorem s_continue (q : P.C ρ M) : S1 X (.Continue pos) ρ M P := s1_imp ps_continue fun D σ H hE hM n r b c => c σ H ρ M (Ex.refl _) hE hM q
theorem s_never (q : False) : S1 X st ρ M P := q.elim
/-- a, b = e1, e2 -/
theorem s_par (i j : Nat) {x y : Str} {a b : Expr} {px py pt : Pos} {kt k2 pt2} (hc : X.calm = true) (hN : X.N.Nodup) (hi : X.N[i]? = some x) (hj : X.N[j]? = some y) (hij : i ≠ j)
    (hx : X.env.scope.names.lookup x = some .local) (hy : X.env.scope.names.lookup y = some .local) (hw : swappedStores [.Tuple [.Name x px, .Name y py] kt pt] (.Tuple [a, b] k2 pt2) X.env = pure (some [x, y]))
    (h : DA X [a, b] ρ M fun es M1 => ∃ e1 e2, es = [e1, e2] ∧ P.N ((ρ.set i (some e1)).set j (some e2)) M1) (hs : swapsWithSole [.Tuple [.Name x px, .Name y py] kt pt] (.Tuple [a, b] k2 pt2) pos.line X.env = pure false := by rfl) :
    S1 X (.Assign [.Tuple [.Name x px, .Name y py] kt pt] (.Tuple [a, b] k2 pt2) pos) ρ M P :=
  s1_imp (ps_par hc hN hi hj hij hx hy (pa_u X [a, b]) hw hs) fun D σ H hE hM n r b c => ⟨ρ, M, _, h, hE, hM, fun vs H1 es M1 x1 m1 v1 ⟨e1, e2, ee, q⟩ => by
    subst ee
    cases v1 with
    | cons h1 t =>
      cases t with
      | cons h2 t => cases t; exact ⟨_, _, rfl, n _ H1 _ M1 x1 (((hE.ex x1).set h1).set h2) m1 q⟩⟩
/-- target = e, the value taken apart -/
theorem s_asgT {tg e : Expr} (t : Tg) (hg : PG X tg (gT X.K t)) (h : DE X e ρ M fun en M1 => ∃ d ρ', en = .d d ∧ t.bind d ρ = some ρ' ∧ P.N ρ' M1) (hs : swapsWithSole [tg] e pos.line X.env = pure false := by rfl) (hw : swappedStores [tg] e X.env = pure none := by rfl)
    (h1 : (assignEach [tg] X.env).map (·.2) = [assign tg X.env] := by rfl) : S1 X (.Assign [tg] e pos) ρ M P :=
  s1_imp (ps_asg (pe_u X e) hg hs hw h1) fun D σ H hE hM n r b c => ⟨ρ, M, _, h, hE, hM, fun v H1 en M1 x1 m1 v1 ⟨d, ρ', ed, hb, q⟩ => by
    subst ed
    exact bind_ok msk_sub t d v σ ρ ρ' _ (hE.ex x1) v1 hb fun σ' s' e' => n σ' H1 ρ' M1 x1 e' m1 q⟩
/-- x op= e on ints -/
theorem s_aug (i : Nat) {x : Str} {op : Operator} {f : Int → Int → Int} {n1 : Int} {pos' : Pos} (hN : X.N.Nodup) (hi : X.N[i]? = some x) (hx : Loc X.env.scope x) (ho : PIp X op (ipI f)) (hr : ρ[i]? = some (some (.d (.int n1))))
    (h : DE X e ρ M fun en M1 => ∃ n2, en = .d (.int n2) ∧ P.N (ρ.set i (some (.d (.int (f n1 n2))))) M1) (hf : X.fn x = true ∨ X.env.scope.names.lookup x = some .local := by first | exact .inl rfl | exact .inr rfl | assumption) : S1 X (.AugAssign (.Name x pos') op e pos) ρ M P :=
  s1_imp (ps_aug hN hi hx (pe_u X e) ho hf) fun D σ H hE hM n r b c => by
    obtain ⟨v, h1, h2⟩ := hE.get i _ hr
    cases h2
    exact ⟨_, h1, ρ, M, _, h, hE, hM, fun v H1 en M1 x1 m1 v1 ⟨n2, ed, q⟩ => by
      subst ed
      cases v1
      exact ⟨n1, n2, rfl, rfl, n _ H1 _ M1 x1 ((hE.ex x1).set (e := .d (.int (f n1 n2))) (Dp.int _)) m1 q⟩⟩
/-- xs[i] = e, xs[i] op= e on a list that changes -/
theorem s_setIx {o i : Expr} {tpos : Pos} (h : DE X e ρ M fun ev M1 => DE X o ρ M1 fun eo M2 => DE X i ρ M2 fun ei M3 => ∃ (d : PyData) (p : Addr) (k : Nat) (ds : List PyData) (j : Nat), ev = .d d ∧ eo = .m p ∧ ei = .d (.int (j : Int)) ∧ M3[k]? = some (p, ds) ∧ j < ds.length ∧ P.N ρ (M3.set k (p, ds.set j d)))
    (ha : ∀ v, assign (.Subscript o i tpos) X.env v = (do
      let ov ← holding [v] (eval o X.env)
      let iv ← holding [v, ov] (eval i X.env)
      standAt tpos
      holding [v, ov, iv] (setItem ov iv v)
      release [v, ov, iv] []) := by intro _; rfl) (hs : swapsWithSole [.Subscript o i tpos] e pos.line X.env = pure false := by rfl) (hw : swappedStores [.Subscript o i tpos] e X.env = pure none := by rfl)
    (h1 : (assignEach [.Subscript o i tpos] X.env).map (·.2) = [assign (.Subscript o i tpos) X.env] := by rfl) : S1 X (.Assign [.Subscript o i tpos] e pos) ρ M P :=
  s1_imp (ps_asg (pe_u X e) (pg_sub (pe_u X o) (pe_u X i) set_list ha) hs hw h1) fun D σ H hE hM n r b c => ⟨ρ, M, _, h, hE, hM, fun v H1 en M1 x1 m1 v1 q1 => ⟨ρ, M1, _, q1, hE.ex x1, m1, fun v2 H2 e2 M2 x2 m2 w2 q2 =>
    ⟨ρ, M2, _, q2, (hE.ex x1).ex x2, m2, fun v3 H3 e3 M3 x3 m3 w3 ⟨d, p, k, ds, j, ed, ep, ei, hk, hj, q⟩ => by
      subst ed; subst ep; subst ei
      cases w3
      have w2' : v2 = .ref p := w2
      subst w2'
      obtain ⟨ws, e1, e2⟩ := m3.at_ _ (List.mem_of_getElem? hk)
      obtain ⟨m4, x4⟩ := mset m3 hk (e2.set (i := j) (dp_ex (x2.trans x3) _ _ v1))
      refine ⟨p, ws, (j : Int), j, rfl, rfl, e1, ?_, n σ _ ρ _ (((x1.trans x2).trans x3).trans x4) ((((hE.ex x1).ex x2).ex x3).ex x4) m4 q⟩
      rw [e2.len]
      exact Evl.ixN_nat hj⟩⟩⟩
def rGetL : V → V → Hp → VK → Prop := fun o i H Q => ∃ (p : Addr) (xs : List V) (j : Nat) (v : V), o = .ref p ∧ i = .int (j : Int) ∧ H p = some (.lst xs) ∧ xs[j]? = some v ∧ Q v H
theorem get_list : PGet X rGetL := by
  intro pins s σ H o i ov iv Q I ro ri h
  obtain ⟨p, xs, j, v, rfl, rfl, hp, hj, q⟩ := h
  cases ro
  obtain ⟨t, rfl⟩ := ri
  obtain ⟨its, r, pl, hz⟩ := I.list (.inl (.inl hp) : SqL X.K H p xs)
  obtain ⟨w, ew, rw'⟩ := r.get hj
  have hn := line63
  have hl := (List.getElem?_eq_some_iff.mp hj).1
  exact wpAny_getItem_list pl.isList (by omega) (by omega) (by simpa using ew) ⟨v, H, I, rw', q⟩
theorem s_augIx {o i : Expr} {tpos : Pos} {op : Operator} {f : Int → Int → Int} (ho : PIp X op (ipI f)) (h : DE X o ρ M fun eo M1 => DE X i ρ M1 fun ei M2 => ∃ (p : Addr) (j k2 : Nat) (ds2 : List PyData) (n1 : Int), eo = .m p ∧ ei = .d (.int (j : Int)) ∧ M2[k2]? = some (p, ds2) ∧ ds2[j]? = some (.int n1) ∧
      DE X e ρ M2 fun ev M3 => ∃ (k : Nat) (ds : List PyData) (n2 : Int), ev = .d (.int n2) ∧ M3[k]? = some (p, ds) ∧ j < ds.length ∧ P.N ρ (M3.set k (p, ds.set j (.int (f n1 n2)))))
    (ha : ∀ ov iv new, augStore i ov iv new = (do holding [new, ov, iv] (setItem ov iv new); release [new, ov, iv] []; pure .next) := by intros; rfl) : S1 X (.AugAssign (.Subscript o i tpos) op e pos) ρ M P := by
  refine s1_imp (ps_augS (pe_u X o) (pe_u X i) get_list (pe_u X e) ho set_list ha) fun D σ H hE hM n r b c => ⟨ρ, M, _, h, hE, hM, fun v H1 en M1 x1 m1 v1 q1 => ⟨ρ, M1, _, q1, hE.ex x1, m1, fun v2 H2 e2 M2 x2 m2 w2 ⟨p, j, k2, ds2, n1, ep, ei, hk2, hj2, q2⟩ => ?_⟩⟩
  subst ep; subst ei
  have v1' : v = .ref p := v1
  subst v1'
  cases w2
  obtain ⟨ws2, e1, e2⟩ := m2.at_ _ (List.mem_of_getElem? hk2)
  obtain ⟨y, hy, hyd⟩ := e2.get hj2
  cases hyd
  refine ⟨p, ws2, j, _, rfl, rfl, e1, hy, ρ, M2, _, q2, (hE.ex x1).ex x2, m2, fun v3 H3 e3 M3 x3 m3 w3 ⟨k, ds, n2, ev, hk, hj, q⟩ => ?_⟩
  subst ev
  cases w3
  obtain ⟨ws, e4, e5⟩ := m3.at_ _ (List.mem_of_getElem? hk)
  obtain ⟨m4, x4⟩ := mset m3 hk (e5.set (i := j) (v := .int (f n1 n2)) (d := .int (f n1 n2)) (.int _))
  refine ⟨n1, n2, rfl, rfl, p, ws, (j : Int), j, rfl, rfl, e4, ?_, n σ _ ρ _ (((x1.trans x2).trans x3).trans x4) ((((hE.ex x1).ex x2).ex x3).ex x4) m4 q⟩
  rw [e5.len]
  exact Evl.ixN_nat hj
theorem s_for {tg iter : Expr} {body : List Stmt} (t : Tg) (hp : PassesOwn (model X.prog X.w) X.A X.env X.xe) (hc : X.calm = true) (hg : PG X tg (gT X.K t))
    (h : DI X tg iter ρ M fun ds M1 => ∃ J : Nat → Rho → Mm → Prop, J 0 ρ M1 ∧ (∀ i ρ' M' d, ds[i]? = some d → J i ρ' M' → ∃ ρ'', t.bind d ρ' = some ρ'' ∧ SB X body ρ'' M' { N := J (i + 1), C := J (i + 1), B := P.N, R := P.R }) ∧ (∀ ρ' M', J ds.length ρ' M' → P.N ρ' M'))
    (hs : ∀ x, foldedSetIterable iter X.env x = pure x := by intro _; rfl) : S1 X (.For tg iter body [] pos) ρ M P :=
  s1_imp (ps_for hp hc (pi_u X tg iter) hg (pss_u X body) hs) fun D σ H hE hM n r b c => ⟨ρ, M, _, h, hE, hM, fun It0 H1 ds M1 x1 m1 W1 ⟨J, h0, hturn, hend⟩ => by
    have w : Walk It0 ds.length (fun H => Ex (msk H1 M1) H) (fun i H x H' => ∀ M2 d, ds[i]? = some d → Ex (msk H1 M1) (msk H M2) → MAt X.K M2 H → MAt X.K M2 H' ∧ Ex (msk H M2) (msk H' M2) ∧ Dp X.K (msk H' M2) x d) :=
      ⟨fun i H hi q => W1.goes i H hi q, fun H q => W1.stops H q, fun i H x H' hi q y M2 d hd eg hM2 => W1.yields i H M2 x H' d hd eg hM2 y⟩
    refine for_it w (fun i σ' H' => ∃ ρ' M', J i ρ' M' ∧ Ex (msk H1 M1) (msk H' M') ∧ Env X.K (msk H' M') σ' ρ' ∧ MAt X.K M' H') ⟨ρ, M1, h0, Ex.refl _, hE.ex x1, m1⟩ (fun i σ' H' _ ⟨ρ', M', _, e, _⟩ => e.trans msk_sub) ?_ ?_
    · rintro i x σ2 H2 H3 hi ⟨ρ', M', hJ, e2, E2, m2⟩ hy
      obtain ⟨d, hd⟩ : ∃ d, ds[i]? = some d := ⟨ds[i], List.getElem?_eq_getElem hi⟩
      obtain ⟨m3, e3, hx⟩ := hy _ d hd e2 m2
      obtain ⟨ρ'', hb, hs⟩ := hturn i ρ' M' d hd hJ
      refine bind_ok msk_sub t d x σ2 ρ' ρ'' _ (E2.ex e3) hx hb fun σ3 s3 E3 => ⟨ρ'', M', _, hs, E3, m3, fun σ' H' ρ3 M3 y E' m' q => ⟨ρ3, M3, q, (e2.trans e3).trans y, E', m'⟩, fun v H' en M3 y => r v H' en M3 (x1.trans ((e2.trans e3).trans y)), fun σ' H' ρ3 M3 y => n σ' H' ρ3 M3 (x1.trans ((e2.trans e3).trans y)), fun σ' H' ρ3 M3 y E' m' q => ⟨ρ3, M3, q, (e2.trans e3).trans y, E', m'⟩⟩
    · rintro σ' H' ⟨ρ', M', hJ, e2, E2, m2⟩
      exact n σ' H' ρ' M' (x1.trans e2) E2 m2 (hend ρ' M' hJ)⟩
theorem s_while {c : Expr} {body : List Stmt} (hp : PassesOwn (model X.prog X.w) X.A X.env X.xe) (W : Nat → Rho → Mm → Prop) (m0 : Nat) (h0 : W m0 ρ M)
    (h : ∀ m ρ' M', W m ρ' M' → DT X c ρ' M' fun k M1 => (k = true → SB X body ρ' M1 { N := fun ρ2 M2 => ∃ m', m' < m ∧ W m' ρ2 M2, C := fun ρ2 M2 => ∃ m', m' < m ∧ W m' ρ2 M2, B := P.N, R := P.R }) ∧ (k = false → P.N ρ' M1)) : S1 X (.While c body [] pos) ρ M P :=
  s1_imp (ps_while hp (pt_u X c) (pss_u X body)) fun D σ H hE hM n r b c => ⟨fun m σ' H' => ∃ ρ' M', W m ρ' M' ∧ Ex (msk H M) (msk H' M') ∧ Env X.K (msk H' M') σ' ρ' ∧ MAt X.K M' H', ⟨m0, ρ, M, h0, Ex.refl _, hE, hM⟩, fun m σ' H' ⟨ρ', M', hW, e, E, mm⟩ => ⟨ρ', M', _, h m ρ' M' hW, E, mm, fun k H1 M1 x1 m1 q => by
    cases k with
    | true =>
      rw [if_pos rfl]
      exact ⟨fun σ2 H2 => ∃ m', m' < m ∧ ∃ ρ2 M2, W m' ρ2 M2 ∧ Ex (msk H M) (msk H2 M2) ∧ Env X.K (msk H2 M2) σ2 ρ2 ∧ MAt X.K M2 H2, fun σ2 H2 z => z, ρ', M1, _, q.1 rfl, E.ex x1, m1, fun σ2 H2 ρ2 M2 y E2 mm2 ⟨m', hm, w⟩ => ⟨m', hm, ρ2, M2, w, (e.trans x1).trans y, E2, mm2⟩,
        fun v H2 en M2 y => r v H2 en M2 ((e.trans x1).trans y), fun σ2 H2 ρ2 M2 y => n σ2 H2 ρ2 M2 ((e.trans x1).trans y), fun σ2 H2 ρ2 M2 y E2 mm2 ⟨m', hm, w⟩ => ⟨m', hm, ρ2, M2, w, (e.trans x1).trans y, E2, mm2⟩⟩
    | false =>
      rw [if_neg (by decide)]
      exact n σ' H1 ρ' M1 (e.trans x1) (E.ex x1) m1 (q.2 rfl)⟩⟩
/-- the slots at a def's entry -/
def startR (N : List Str) (es : List Ent) : Rho := es.map some ++ List.replicate (N.length - es.length) none
theorem env_start {H : Hp} {N : List Str} {vs : List V} {es : List Ent} (h : VlAll K H vs es) : Env K H (L2.start N vs) (startR N es) := by
  have hl := h.len
  refine ⟨by simp [L2.start, startR, hl], fun i e q => ?_⟩
  unfold startR at q
  unfold L2.start
  by_cases hi : i < es.length
  · rw [List.getElem?_append_left (by simpa using hi), List.getElem?_map] at q
    rw [List.getElem?_append_left (by simpa [hl] using hi), List.getElem?_map]
    have gen : ∀ {vs : List V} {es : List Ent} {i : Nat} {e : Ent}, VlAll K H vs es → es[i]? = some e → ∃ v, vs[i]? = some v ∧ Vl K H v e := by
      intro vs es i e h
      induction h generalizing i with
      | nil => intro q; simp at q
      | cons a t ih =>
        cases i with
        | zero => intro q; simp at q; subst q; exact ⟨_, rfl, a⟩
        | succ i => intro q; exact ih (by simpa using q)
    cases hq : es[i]? with
    | none => rw [hq] at q; cases q
    | some e' =>
      rw [hq] at q
      simp only [Option.map_some, Option.some.injEq] at q
      subst q
      obtain ⟨v, h1, h2⟩ := gen h hq
      exact ⟨v, by rw [h1]; rfl, h2⟩
  · rw [List.getElem?_append_right (by simpa using hi)] at q
    rw [List.getElem?_replicate] at q
    split at q <;> cases q
/-- a def by its body -/
theorem cal_of {P : Program} {w : World} {mg : Str → Option Value} {base : Heap} {x qual : Str} {st : Stmt} {f : Addr} {fd : FuncData} {N ps : List Str} {k : Nat} {C : Ctr} (F : Fun K x qual st f fd) (S : FnScope N ps (defScope st)) (hm : mg x = some (.ref f)) (hb : Binds K fd ps [])
    (len : ∀ es M Q, C es M Q → es.length = ps.length)
    (body : ∀ (cdv : Value) (A : Around) (outer : List PySem.Env) (s : Shared) (H : Hp) (E : XK) es M Q, Room k (A.deeper (envOfC qual (defScope st) s.heap.objs.size f cdv)) → C es M Q →
      SB (cxOf CX0 P w K mg base N qual (defScope st) f cdv A outer s H E).nox (defBody st) (startR N es) M { N := fun _ M' => Q (.d .none) M', R := Q }) : Cal P w K mg base x (k + 1) C :=
  ⟨f, fd, ps, F.ok S (fun vs H Q E ⟨M, es, QQ, _, hv, hc, _⟩ => by rw [hv.len, len es M QQ hc]) (fun cdv A outer s H vs Q E hr ⟨M, es, QQ, hM, hv, hc, g⟩ => ⟨_, pss_u _ _, startR N es, M, _, body cdv A outer s H E es M QQ hr hc, env_start hv, hM, fun σ' H' ρ' M' x E' m' q => g .non H' (.d .none) M' x m' .non q, g, fun σ' H' ρ' M' x E' m' q => q.elim, fun σ' H' ρ' M' x E' m' q => q.elim⟩), hm, F.kp, hb⟩
end Dt

namespace L2
open PySem PySem.Spec PyProof.Rows
theorem dt_tuple_mul0 (l : Addr) (items : Array Value) (n : Nat) (dd : Option Addr) (sl : Array (Option Value)) (x : Int) (u : Tok) (c0 : (decide (x < -(2 ^ 63)) || decide (x ≥ 2 ^ 63)) = false) (c1 : (items.isEmpty || x == 1) = false) (c2 : (decide (x ≤ 0) || items.isEmpty) = true) :
    Meets (Builtin.«tuple.__mul__» ⟨[.ref l, .int x u], []⟩) (fun _ R s => s.heap.get? l = some { cls := .type "tuple", dict := dd, data := .seq items n, slots := sl } ∧
      R (.ok (.ret (Value.ref s.heap.objs.size))) { s with heap := s.heap.push { cls := Value.type "tuple", data := Data.seq #[] }, toks := s.toks }) :=
  .of_wp fun prog w A R s h => by
    obtain ⟨hp, g, d, tk, os⟩ := s
    obtain ⟨hl, h⟩ := h
    have f1 := AutoSeq1.idx_int
    wp_walk using wpAny_loadPart' hl
    repeat (first
      | (refine wpAny_ite_false (decide_eq_false (by rw [c0]; exact Bool.false_ne_true)) ?_; wp_walk using wpAny_loadPart' hl)
      | (refine wpAny_ite_false (decide_eq_false (by rw [c1]; exact Bool.false_ne_true)) ?_; wp_walk using wpAny_loadPart' hl)
      | (refine wpAny_ite_true (decide_eq_true (by rw [c2])) ?_; wp_walk using wpAny_loadPart' hl))
    exact ⟨_, rfl, h⟩
theorem dt_tuple_mul1 (l : Addr) (items : Array Value) (n : Nat) (dd : Option Addr) (sl : Array (Option Value)) (x : Int) (u : Tok) (c0 : (decide (x < -(2 ^ 63)) || decide (x ≥ 2 ^ 63)) = false) (c1 : (items.isEmpty || x == 1) = true) :
    Meets (Builtin.«tuple.__mul__» ⟨[.ref l, .int x u], []⟩) (fun _ R s => s.heap.get? l = some { cls := .type "tuple", dict := dd, data := .seq items n, slots := sl } ∧
      R (.ok (.ret (Value.ref l))) s) :=
  .of_wp fun prog w A R s h => by
    obtain ⟨hp, g, d, tk, os⟩ := s
    obtain ⟨hl, h⟩ := h
    have f1 := AutoSeq1.idx_int
    wp_walk using wpAny_loadPart' hl
    repeat (first
      | (refine wpAny_ite_false (decide_eq_false (by rw [c0]; exact Bool.false_ne_true)) ?_; wp_walk using wpAny_loadPart' hl)
      | (refine wpAny_ite_true (decide_eq_true (by rw [c1])) ?_; wp_walk using wpAny_loadPart' hl))
    exact ⟨_, rfl, h⟩
def rRepTA (K : PySem.W.Frag) : R2 := fun x y H Q => ∃ l k xs, x = .ref l ∧ y = .int k ∧ SqT K H l xs ∧ xs ≠ [] ∧ -1000 ≤ k ∧ k ≤ 1000 ∧ xs.length ≤ 1000 ∧ (k = 1 → Q (.ref l) H) ∧ (k ≠ 1 → ∀ p, H p = none → Q (.ref p) (upd H p (.tup (List.replicate k.toNat xs).flatten)))
theorem op_repTA {X : Cx} : OpR X (binaryOp .Mult) (rRepTA X.K) := by
  intro pins s σ H x y v u Q I rx ry h
  obtain ⟨l, k, xs, rfl, rfl, hT, hne, h1, h2, hz, q1, q2⟩ := h
  by_cases hk2 : 2 ≤ k
  · exact op_repT pins s σ H _ _ v u Q I rx ry ⟨l, k, xs, rfl, rfl, hT, hne, hk2, h2, hz, q2 (by omega)⟩
  cases rx
  obtain ⟨t, rfl⟩ := ry
  obtain ⟨its, r, ⟨⟨cls, dd, data, sl⟩, ho, hc, n, hd⟩, hs⟩ := I.tuple hT
  simp only at hc hd
  subst hc hd
  have hle : its.length = xs.length := r.length.symm
  have hn : its ≠ [] := fun e => hne (by
    rw [e] at hle
    exact List.eq_nil_of_length_eq_zero hle.symm)
  have hi : its.toArray.isEmpty = false := by
    cases its with
    | nil => exact absurd rfl hn
    | cons a b => rfl
  have c0 : (decide (k < -(2 ^ 63)) || decide (k ≥ 2 ^ 63)) = false := by
    rw [decide_eq_false (by omega), decide_eq_false (by omega)] <;> rfl
  by_cases hk1 : k = 1
  · have c1 : (its.toArray.isEmpty || k == 1) = true := by rw [hk1]; simp
    exact wpAny_binaryOp_repeat_ref (T := "tuple") (U := "int") (by decide) ⟨_, ho, rfl⟩ (fun s' => typeIs_int s' k t) noFill_tuple_mul F.fills_int_mul F.slot_int_rmul repeat_tuple F.slot_int_index.lookup
      (call_meets F.slot_int_rmul (typeIs_int s k t) F.entry_int_rmul (F.args_int_rmul_2 _ _) (int_rmul_tuple k t l its.toArray n dd sl)
        ⟨ho, rfl, ⟨_, ho, rfl⟩, call_meets F.slot_tuple_mul ⟨_, ho, rfl⟩ F.entry_tuple_mul (F.args_tuple_mul_2 _ _) (dt_tuple_mul1 l its.toArray n dd sl k t c0 c1) ⟨ho, ⟨.ref l, H, I, rfl, q1 hk1⟩⟩⟩)
  · have c1 : (its.toArray.isEmpty || k == 1) = false := by
      rw [hi, Bool.false_or]
      exact beq_eq_false_iff_ne.mpr hk1
    have c2 : (decide (k ≤ 0) || its.toArray.isEmpty) = true := by
      rw [hi, Bool.or_false]
      exact decide_eq_true (by omega)
    have e0 : k.toNat = 0 := by omega
    refine wpAny_binaryOp_repeat_ref (T := "tuple") (U := "int") (by decide) ⟨_, ho, rfl⟩ (fun s' => typeIs_int s' k t) noFill_tuple_mul F.fills_int_mul F.slot_int_rmul repeat_tuple F.slot_int_index.lookup
      (call_meets F.slot_int_rmul (typeIs_int s k t) F.entry_int_rmul (F.args_int_rmul_2 _ _) (int_rmul_tuple k t l its.toArray n dd sl)
        ⟨ho, rfl, ⟨_, ho, rfl⟩, call_meets F.slot_tuple_mul ⟨_, ho, rfl⟩ F.entry_tuple_mul (F.args_tuple_mul_2 _ _) (dt_tuple_mul0 l its.toArray n dd sl k t c0 c1 c2) ⟨ho, ?_⟩⟩)
    refine ⟨.ref s.heap.objs.size, _, I.laid (t' := s.toks) (o := .tup (List.replicate k.toNat xs).flatten) (fun b ob q => Heap.get?_push_of_some _ q) (Nat.le_refl _) ?_, rfl, q2 hk1 _ (I.hok.fresh (Nat.le_refl _))⟩
    rw [e0]
    exact ⟨Nat.zero_le _, [], .nil, IsTup.new _ _⟩
end L2
namespace Dt
open PySem PySem.Spec PyProof.Rows L2
open Evl (Ex)
variable {K : PySem.W.Frag} {X : Cx} {ρ : Rho} {M : Mm} {Q : QE} {pos : Pos} {a b c e : Expr}
abbrev tN (ns : List Int) : PyData := .tuple (ns.map PyData.int)
abbrev lN (ns : List Int) : PyData := .list (ns.map PyData.int)

/-! ### operators by what they are given -/
theorem R2D.inl {r r' : R2} {ea eb : Ent} (h : R2D K r ea eb M Q) : R2D K (fun x y H Q => r x y H Q ∨ r' x y H Q) ea eb M Q := fun x y H k hM hx hy g => .inl (h x y H k hM hx hy g)
theorem R2D.inr {r r' : R2} {ea eb : Ent} (h : R2D K r' ea eb M Q) : R2D K (fun x y H Q => r x y H Q ∨ r' x y H Q) ea eb M Q := fun x y H k hM hx hy g => .inr (h x y H k hM hx hy g)
abbrev rAddU (K : PySem.W.Frag) : R2 := fun x y H Q => rI0 (fun i j => .int (i + j)) x y H Q ∨ (fun x y H Q => rCatA K x y H Q ∨ rCat x y H Q) x y H Q
theorem op_addU : OpR X (binaryOp .Add) (rAddU X.K) := op_add.or (op_catA.or op_cat)
theorem a_int {i j : Int} (q : Q (.d (.int (i + j))) M) : R2D K (rAddU K) (.d (.int i)) (.d (.int j)) M Q := (o_add q).inl
theorem a_tI {xs ys : List Int} (hl : xs.length + ys.length ≤ 100000) (q : Q (.d (tN (xs ++ ys))) M) : R2D K (rAddU K) (.d (tN xs)) (.d (tN ys)) M Q := (R2D.inl (o_catT (by simpa using hl) (by rw [← List.map_append]; exact q))).inr
theorem a_tI1 {xs : List Int} {y : Int} (hl : xs.length ≤ 1000) (q : Q (.d (tN (xs ++ [y]))) M) : R2D K (rAddU K) (.d (tN xs)) (.d (.tuple [.int y])) M Q := a_tI (ys := [y]) (by simp; omega) q
theorem a_lI {xs ys : List Int} (hl : xs.length + ys.length ≤ 100000) (q : Q (.d (lN (xs ++ ys))) M) : R2D K (rAddU K) (.d (lN xs)) (.d (lN ys)) M Q := (R2D.inr (o_catL (by simpa using hl) (by rw [← List.map_append]; exact q))).inr
theorem a_lI1 {xs : List Int} {y : Int} (hl : xs.length ≤ 1000) (q : Q (.d (lN (xs ++ [y]))) M) : R2D K (rAddU K) (.d (lN xs)) (.d (.list [.int y])) M Q := a_lI (ys := [y]) (by simp; omega) q
theorem a_t {xs ys : List PyData} (hl : xs.length + ys.length ≤ 100000) (q : Q (.d (.tuple (xs ++ ys))) M) : R2D K (rAddU K) (.d (.tuple xs)) (.d (.tuple ys)) M Q := (R2D.inl (o_catT hl q)).inr
theorem a_l {xs ys : List PyData} (hl : xs.length + ys.length ≤ 100000) (q : Q (.d (.list (xs ++ ys))) M) : R2D K (rAddU K) (.d (.list xs)) (.d (.list ys)) M Q := (R2D.inr (o_catL hl q)).inr
abbrev rMulU (K : PySem.W.Frag) : R2 := fun x y H Q => rI CMul (fun i j => .int (i * j)) x y H Q ∨ (fun x y H Q => rRepTA K x y H Q ∨ rRep x y H Q) x y H Q
theorem op_mulU : OpR X (binaryOp .Mult) (rMulU X.K) := op_mul.or (op_repTA.or op_rep)
theorem m_int {i j : Int} (hc : CMul i j) (q : Q (.d (.int (i * j))) M) : R2D K (rMulU K) (.d (.int i)) (.d (.int j)) M Q := (o_mul hc q).inl
theorem o_repT {xs : List PyData} {i : Int} (h0 : xs ≠ []) (hi : -1000 ≤ i ∧ i ≤ 1000) (hl : xs.length ≤ 1000) (q : Q (.d (.tuple (List.replicate i.toNat xs).flatten)) M) : R2D K (rRepTA K) (.d (.tuple xs)) (.d (.int i)) M Q := fun x y H k hM hx hy g => by
  have hx' : Dp K (msk H M) x (.tuple xs) := hx
  cases hy
  cases hx' with
  | tup h1 h2 =>
    refine ⟨_, _, _, rfl, rfl, Evl.ex_t msk_sub h1, fun e => h0 (by subst e; cases h2; rfl), hi.1, hi.2, by rw [h2.len]; exact hl, fun e => ?_, fun _ => g.newT hM (h2.rep _) q⟩
    subst e
    simp only [show (1 : Int).toNat = 1 from rfl, List.replicate_one, List.flatten_cons, List.flatten_nil, List.append_nil] at q
    exact g.dat hM hx q
theorem rep1 {α β : Type} (f : α → β) (a : α) : ∀ n : Nat, (List.replicate n [f a]).flatten = (List.replicate n a).map f
  | 0 => rfl
  | n + 1 => by simp only [List.replicate_succ, List.flatten_cons, List.map_cons, rep1 f a n]; rfl
theorem m_t1 {i k : Int} (hi : -1000 ≤ k ∧ k ≤ 1000) (q : Q (.d (tN (List.replicate k.toNat i))) M) : R2D K (rMulU K) (.d (.tuple [.int i])) (.d (.int k)) M Q := (R2D.inl (o_repT (by simp) hi (by simp) (by rw [rep1]; exact q))).inr
theorem m_l1 {i k : Int} (hi : -1000 ≤ k ∧ k ≤ 1000) (q : Q (.d (lN (List.replicate k.toNat i))) M) : R2D K (rMulU K) (.d (.list [.int i])) (.d (.int k)) M Q := (R2D.inr (o_repL (by omega) (by simp; omega) (by rw [rep1]; exact q))).inr
abbrev rEqU (K : PySem.W.Frag) : R2 := fun x y H Q => rEq x y H Q ∨ rEqD K x y H Q
abbrev rNeU (K : PySem.W.Frag) : R2 := fun x y H Q => rNe x y H Q ∨ rNeD K x y H Q
theorem op_eqU (hu : X.A.units + 64 < cLine) : OpR X (compareOp .Eq) (rEqU X.K) := op_eq.or (op_eqD hu)
theorem op_neU (hu : X.A.units + 64 < cLine) : OpR X (compareOp .NotEq) (rNeU X.K) := op_ne.or (op_neD hu)
theorem e_int {i j : Int} (q : Q (.d (.bool (decide (i = j)))) M) : R2D K (rEqU K) (.d (.int i)) (.d (.int j)) M Q := fun x y H k hM hx hy g => by
  cases hx; cases hy
  refine .inl ⟨rfl, ?_⟩
  have e : decide (V.int i = V.int j) = decide (i = j) := by simp
  rw [e]; exact g.dat hM (.bl _) q
theorem e_bl {i j : Bool} (q : Q (.d (.bool (i == j))) M) : R2D K (rEqU K) (.d (.bool i)) (.d (.bool j)) M Q := fun x y H k hM hx hy g => by
  cases hx; cases hy
  refine .inl ⟨rfl, ?_⟩
  rw [dec_bl]; exact g.dat hM (.bl _) q
theorem n_int {i j : Int} (q : Q (.d (.bool (!decide (i = j)))) M) : R2D K (rNeU K) (.d (.int i)) (.d (.int j)) M Q := fun x y H k hM hx hy g => by
  cases hx; cases hy
  refine .inl ⟨rfl, ?_⟩
  have e : decide (V.int i = V.int j) = decide (i = j) := by simp
  rw [e]; exact g.dat hM (.bl _) q
theorem n_bl {i j : Bool} (q : Q (.d (.bool (!(i == j)))) M) : R2D K (rNeU K) (.d (.bool i)) (.d (.bool j)) M Q := fun x y H k hM hx hy g => by
  cases hx; cases hy
  refine .inl ⟨rfl, ?_⟩
  rw [dec_bl]; exact g.dat hM (.bl _) q
theorem eqv_ints : ∀ xs ys : List Int, PyData.eqvAll (xs.map .int) (ys.map .int) = decide (xs = ys)
  | [], [] => by simp [PyData.eqvAll]
  | [], _ :: _ => by simp [PyData.eqvAll]
  | _ :: _, [] => by simp [PyData.eqvAll]
  | x :: xs, y :: ys => by
    simp only [List.map_cons, PyData.eqvAll, PyData.eqv, eqv_ints xs ys, List.cons.injEq]
    by_cases h : x = y <;> simp [h]
theorem lay_ints : ∀ xs : List Int, PyData.canLayAll0 (xs.map .int) = true
  | [] => rfl
  | x :: xs => by simp [PyData.canLayAll0, PyData.canLay0, lay_ints xs]
theorem depth_ints : ∀ xs : List Int, PyData.depthAll (xs.map .int) = 0
  | [] => rfl
  | x :: xs => by simp [PyData.depthAll, PyData.depth, depth_ints xs]
theorem sh_tI (xs : List Int) : SeqAt.shaped (tN xs) = true := by simp [SeqAt.shaped, PyData.canLay0, PyData.depth, lay_ints, depth_ints]
theorem sh_lI (xs : List Int) : SeqAt.shaped (lN xs) = true := by simp [SeqAt.shaped, PyData.canLay0, PyData.depth, lay_ints, depth_ints]
theorem e_tI {xs ys : List Int} (q : Q (.d (.bool (decide (xs = ys)))) M) : R2D K (rEqU K) (.d (tN xs)) (.d (tN ys)) M Q := R2D.inr (o_eq (sh_tI _) (sh_tI _) (by simp only [PyData.eqv, eqv_ints]; exact q))
theorem n_tI {xs ys : List Int} (q : Q (.d (.bool (!decide (xs = ys)))) M) : R2D K (rNeU K) (.d (tN xs)) (.d (tN ys)) M Q := R2D.inr (o_ne (sh_tI _) (sh_tI _) (by simp only [PyData.eqv, eqv_ints]; exact q))
theorem e_lI {xs ys : List Int} (q : Q (.d (.bool (decide (xs = ys)))) M) : R2D K (rEqU K) (.d (lN xs)) (.d (lN ys)) M Q := R2D.inr (o_eq (sh_lI _) (sh_lI _) (by simp only [PyData.eqv, eqv_ints]; exact q))
theorem n_lI {xs ys : List Int} (q : Q (.d (.bool (!decide (xs = ys)))) M) : R2D K (rNeU K) (.d (lN xs)) (.d (lN ys)) M Q := R2D.inr (o_ne (sh_lI _) (sh_lI _) (by simp only [PyData.eqv, eqv_ints]; exact q))
/-- .. with an empty list -/
theorem e_lI0 {xs : List Int} (q : Q (.d (.bool (decide (xs = [])))) M) : R2D K (rEqU K) (.d (lN xs)) (.d (.list [])) M Q := e_lI (ys := []) q
theorem n_lI0 {xs : List Int} (q : Q (.d (.bool (!decide (xs = [])))) M) : R2D K (rNeU K) (.d (lN xs)) (.d (.list [])) M Q := n_lI (ys := []) q
theorem e_M0 {p : Addr} {xs : List Int} (k : Nat) (hk : M[k]? = some (p, xs.map PyData.int)) (q : Q (.d (.bool (decide (xs = [])))) M) : R2D K (rEqU K) (.m p) (.d (.list [])) M Q :=
  R2D.inr (o_eqM k hk (sh_lI _) (sh_lI []) (by simp only [PyData.eqv, eqv_ints xs [], show ([] : List PyData) = ([] : List Int).map PyData.int from rfl]; exact q))
theorem n_M0 {p : Addr} {xs : List Int} (k : Nat) (hk : M[k]? = some (p, xs.map PyData.int)) (q : Q (.d (.bool (!decide (xs = [])))) M) : R2D K (rNeU K) (.m p) (.d (.list [])) M Q :=
  R2D.inr (o_neM k hk (sh_lI _) (sh_lI []) (by simp only [PyData.eqv, eqv_ints xs [], show ([] : List PyData) = ([] : List Int).map PyData.int from rfl]; exact q))
/-- is not False -/
abbrev rIsnU : R2 := fun x y H Q => (fun x y H Q => y = .non ∧ Q (.bl (!decide (x = .non))) H) x y H Q ∨ (fun x y H Q => ∃ a b, x = .bl a ∧ y = .bl b ∧ Q (.bl (!decide (a = b))) H) x y H Q
abbrev rIsU : R2 := fun x y H Q => (fun x y H Q => y = .non ∧ Q (.bl (decide (x = .non))) H) x y H Q ∨ (fun x y H Q => ∃ a b, x = .bl a ∧ y = .bl b ∧ Q (.bl (decide (a = b))) H) x y H Q
theorem op_isnU : OpR X (compareOp .IsNot) rIsnU := op_notN.or op_isnot_bl
theorem op_isU : OpR X (compareOp .Is) rIsU := op_isN.or op_is_bl
theorem i_non {d : PyData} (q : Q (.d (.bool (isNon d))) M) : R2D K rIsU (.d d) (.d .none) M Q := (o_is q).inl
theorem in_non {d : PyData} (q : Q (.d (.bool (!isNon d))) M) : R2D K rIsnU (.d d) (.d .none) M Q := (o_isn q).inl
theorem in_bl {i j : Bool} (q : Q (.d (.bool (!decide (i = j)))) M) : R2D K rIsnU (.d (.bool i)) (.d (.bool j)) M Q := fun x y H k hM hx hy g => by
  cases hx; cases hy
  exact .inr ⟨i, j, rfl, rfl, g.dat hM (.bl _) q⟩
theorem i_bl {i j : Bool} (q : Q (.d (.bool (decide (i = j)))) M) : R2D K rIsU (.d (.bool i)) (.d (.bool j)) M Q := fun x y H k hM hx hy g => by
  cases hx; cases hy
  exact .inr ⟨i, j, rfl, rfl, g.dat hM (.bl _) q⟩

/-! ### items and slices of ints -/
theorem atI_int {ns : List Int} {i : Int} (h0 : 0 ≤ i) (h1 : i < ns.length) : atI (ns.map PyData.int) i = some (.int (ns.getD i.toNat 0)) := by
  have hl : i.toNat < ns.length := by omega
  obtain ⟨k, rfl⟩ : ∃ k : Nat, i = k := ⟨i.toNat, by omega⟩
  rw [Int.toNat_natCast] at hl ⊢
  refine atI_nat ?_
  rw [List.getElem?_map, List.getElem?_eq_getElem hl]
  simp [List.getD_eq_getElem?_getD, List.getElem?_eq_getElem hl]
theorem x_tI {ns : List Int} {i : Int} (h0 : 0 ≤ i) (h1 : i < ns.length) (q : Q (.d (.int (ns.getD i.toNat 0))) M) : R2D K (rIx K) (.d (tN ns)) (.d (.int i)) M Q := o_ix .t (atI_int h0 h1) q
theorem x_lI {ns : List Int} {i : Int} (h0 : 0 ≤ i) (h1 : i < ns.length) (q : Q (.d (.int (ns.getD i.toNat 0))) M) : R2D K (rIx K) (.d (lN ns)) (.d (.int i)) M Q := o_ix .l (atI_int h0 h1) q
theorem atI_last' {ns : List Int} (h : 0 < ns.length) : atI (ns.map PyData.int) (-1) = some (.int (ns.getD (ns.length - 1) 0)) := by
  unfold atI ixN
  rw [List.length_map, if_neg (by omega), if_pos (by omega)]
  have e : ((-1 : Int) + (ns.length : Int)).toNat = ns.length - 1 := by omega
  show (ns.map PyData.int)[((-1 : Int) + (ns.length : Int)).toNat]? = _
  rw [e, List.getElem?_map, List.getElem?_eq_getElem (by omega)]
  simp [List.getD_eq_getElem?_getD, List.getElem?_eq_getElem (show ns.length - 1 < ns.length by omega)]
theorem x_lL {ns : List Int} (h1 : 0 < ns.length) (q : Q (.d (.int (ns.getD (ns.length - 1) 0))) M) : R2D K (rIx K) (.d (lN ns)) (.d (.int (-1))) M Q := o_ix .l (atI_last' h1) q
theorem x_tL {ns : List Int} (h1 : 0 < ns.length) (q : Q (.d (.int (ns.getD (ns.length - 1) 0))) M) : R2D K (rIx K) (.d (tN ns)) (.d (.int (-1))) M Q := o_ix .t (atI_last' h1) q
theorem cut_lo {ns : List Int} {i : Int} (h : 0 ≤ i) : cutD (ns.map PyData.int) (some i) none = (ns.drop i.toNat).map PyData.int := by
  obtain ⟨k, rfl⟩ : ∃ k : Nat, i = k := ⟨i.toNat, by omega⟩
  unfold cutD
  rw [HT.sIx_nat, HT.sIx_none, List.length_map, Int.toNat_natCast, ← List.map_drop, ← List.map_take]
  congr 1
  by_cases hk : k ≤ ns.length
  · rw [Nat.min_eq_left hk]
    exact List.take_of_length_le (by simp)
  · rw [Nat.min_eq_right (by omega), List.drop_eq_nil_of_le (Nat.le_refl _), List.drop_eq_nil_of_le (by omega)]
    simp
theorem cut_hi {ns : List Int} {i : Int} (h : 0 ≤ i) : cutD (ns.map PyData.int) none (some i) = (ns.take i.toNat).map PyData.int := by
  obtain ⟨k, rfl⟩ : ∃ k : Nat, i = k := ⟨i.toNat, by omega⟩
  unfold cutD
  rw [HT.sIx_nat, HT.sIx_none, List.length_map, Int.toNat_natCast, List.drop_zero, Nat.sub_zero, ← List.map_take]
  congr 1
  by_cases hk : k ≤ ns.length
  · rw [Nat.min_eq_left hk]
  · rw [Nat.min_eq_right (by omega), List.take_of_length_le (Nat.le_refl _), List.take_of_length_le (by omega)]
abbrev rSlU (K : PySem.W.Frag) : V → Option Int → Option Int → Hp → VK → Prop := fun x lo hi H Q => rSlA K x lo hi H Q ∨ rSlL K x lo hi H Q
theorem sl_U : SlR X (rSlU X.K) := sl_tupA.or sl_list
theorem s_tLo {ns : List Int} {i : Int} (h : 0 ≤ i) (q : Q (.d (tN (ns.drop i.toNat))) M) : RSD K (rSlU K) (.d (tN ns)) (some i) none M Q := fun x H k hM hx g => .inl (o_slT (by rw [cut_lo h]; exact q) x H k hM hx g)
theorem s_tHi {ns : List Int} {i : Int} (h : 0 ≤ i) (q : Q (.d (tN (ns.take i.toNat))) M) : RSD K (rSlU K) (.d (tN ns)) none (some i) M Q := fun x H k hM hx g => .inl (o_slT (by rw [cut_hi h]; exact q) x H k hM hx g)
theorem s_lLo {ns : List Int} {i : Int} (h : 0 ≤ i) (q : Q (.d (lN (ns.drop i.toNat))) M) : RSD K (rSlU K) (.d (lN ns)) (some i) none M Q := fun x H k hM hx g => .inr (o_slL (by rw [cut_lo h]; exact q) x H k hM hx g)
theorem s_lHi {ns : List Int} {i : Int} (h : 0 ≤ i) (q : Q (.d (lN (ns.take i.toNat))) M) : RSD K (rSlU K) (.d (lN ns)) none (some i) M Q := fun x H k hM hx g => .inr (o_slL (by rw [cut_hi h]; exact q) x H k hM hx g)
theorem s_sHi {ns : List Int} {i : Int} (h : 0 ≤ i) (q : Q (.d (lN (ns.take i.toNat))) M) : RSD K (rSlU K) (.s (ns.map PyData.int)) none (some i) M Q := fun x H k hM hx g => .inr (o_slS (by rw [cut_hi h]; exact q) x H k hM hx g)

/-! ### what is walked, told by types of one's own -/
def pII (p : Int × Int) : PyData := .tuple [.int p.1, .int p.2]
theorem zip_ints : ∀ xs ys : List Int, List.zipWith pairD (xs.map .int) (ys.map .int) = (xs.zip ys).map pII
  | [], _ => by simp
  | _ :: _, [] => by simp
  | x :: xs, y :: ys => by simp only [List.map_cons, List.zipWith_cons_cons, List.zip_cons_cons, zip_ints xs ys]; rfl
theorem di_zipI {a b : Expr} {p tpos : Pos} {elts : List Expr} {kk : Nat} {Q : List PyData → Mm → Prop} (hg : Gl X "zip") (hm : X.mg "zip" = none)
    (h : DA X [a, b] ρ M fun es M1 => ∃ xs ys : List Int, (es = [.d (tN xs), .d (tN ys)] ∨ es = [.d (lN xs), .d (lN ys)]) ∧ Q ((xs.zip ys).map pII) M1)
    (hs : starEach [a, b] X.env = (false, eval a X.env) :: starEach [b] X.env := by rfl) (hpl : (backTo pos (starEach [b] X.env)).any (·.1) = false := by rfl) : DI X (.Tuple elts kk tpos) (.Call (.Name "zip" p) [a, b] [] pos) ρ M Q :=
  di_zip hg hm ⟨fun ps pins s σ H k I ⟨h1, h2, h3⟩ => h.run ps pins s σ H k I ⟨h1, h2, fun vs H' es M' x m v ⟨xs, ys, e, q⟩ => h3 vs H' es M' x m v ⟨_, _, e, by rw [zip_ints]; exact q⟩⟩⟩ hs hpl
theorem q_of {d d' : PyData} (h : Q (.d d) M) (e : d' = d) : Q (.d d') M := by rw [e]; exact h
end Dt

namespace Dt
open PySem PySem.Spec PyProof.Rows L2
open Evl (Ex)
variable {K : PySem.W.Frag} {X : Cx} {ρ : Rho} {M : Mm} {Q : QE} {pos : Pos} {a b c e : Expr}
theorem di_mono {tg e : Expr} {Q Q' : List PyData → Mm → Prop} (h : DI X tg e ρ M Q) (q : ∀ ds M, Q ds M → Q' ds M) : DI X tg e ρ M Q' :=
  ⟨fun pins s σ H R I ⟨h1, h2, h3⟩ => h.run pins s σ H R I ⟨h1, h2, fun J H' ds M' x m w z => h3 J H' ds M' x m w (q _ _ z)⟩⟩

def LcI (X : Cx) (scope : Scope) (elt : Expr) (ifs : List Expr) (ρ : Rho) (M1 : Mm) (t : Tg) (vs : List Nat) (ds : List PyData) (k : List Int → Prop) : Prop :=
  ∃ (α : Type) (ι : α → PyData) (ws : List α) (f : α → Bool) (g : α → Int), ds = ws.map ι ∧ ws.length ≤ 40000 ∧
      (∀ w ∈ ws, ∃ ρ', t.bind (ι w) (wipeR ρ vs) = some ρ' ∧ ∀ D acc, (∀ s H C cl fp, DTs (Lcx X scope s H C cl fp) ifs ρ' ((D, acc) :: M1) fun b M3 => b = f w ∧ M3 = (D, acc) :: M1) ∧
        (f w = true → ∀ s H C cl fp, DE (Lcx X scope s H C cl fp) elt ρ' ((D, acc) :: M1) fun en M4 => en = .d (.int (g w)) ∧ M4 = (D, acc) :: M1)) ∧ k ((ws.filter f).map g)
theorem lcI_mk {X : Cx} {scope : Scope} {elt : Expr} {ifs : List Expr} {ρ : Rho} {M1 : Mm} {t : Tg} {vs : List Nat} {ds : List PyData} {k : List Int → Prop} {α : Type} {ι : α → PyData} {ws : List α} {f : α → Bool} {g : α → Int} (h1 : ds = ws.map ι)
    (turn : ∀ w ∈ ws, ∃ ρ', t.bind (ι w) (wipeR ρ vs) = some ρ' ∧ ∀ D acc, (∀ s H C cl fp, DTs (Lcx X scope s H C cl fp) ifs ρ' ((D, acc) :: M1) fun b M3 => b = f w ∧ M3 = (D, acc) :: M1) ∧
        (f w = true → ∀ s H C cl fp, DE (Lcx X scope s H C cl fp) elt ρ' ((D, acc) :: M1) fun en M4 => en = .d (.int (g w)) ∧ M4 = (D, acc) :: M1)) (len : ws.length ≤ 40000) (ct : k ((ws.filter f).map g)) : LcI X scope elt ifs ρ M1 t vs ds k := ⟨α, ι, ws, f, g, h1, len, turn, ct⟩

def LcB (X : Cx) (scope : Scope) (elt : Expr) (ifs : List Expr) (ρ : Rho) (M1 : Mm) (t : Tg) (vs : List Nat) (ds : List PyData) (k : List Bool → Prop) : Prop :=
  ∃ (α : Type) (ι : α → PyData) (ws : List α) (f : α → Bool) (g : α → Bool), ds = ws.map ι ∧ ws.length ≤ 40000 ∧
      (∀ w ∈ ws, ∃ ρ', t.bind (ι w) (wipeR ρ vs) = some ρ' ∧ ∀ D acc, (∀ s H C cl fp, DTs (Lcx X scope s H C cl fp) ifs ρ' ((D, acc) :: M1) fun b M3 => b = f w ∧ M3 = (D, acc) :: M1) ∧
        (f w = true → ∀ s H C cl fp, DE (Lcx X scope s H C cl fp) elt ρ' ((D, acc) :: M1) fun en M4 => en = .d (.bool (g w)) ∧ M4 = (D, acc) :: M1)) ∧ k ((ws.filter f).map g)
theorem lcB_mk {X : Cx} {scope : Scope} {elt : Expr} {ifs : List Expr} {ρ : Rho} {M1 : Mm} {t : Tg} {vs : List Nat} {ds : List PyData} {k : List Bool → Prop} {α : Type} {ι : α → PyData} {ws : List α} {f : α → Bool} {g : α → Bool} (h1 : ds = ws.map ι)
    (turn : ∀ w ∈ ws, ∃ ρ', t.bind (ι w) (wipeR ρ vs) = some ρ' ∧ ∀ D acc, (∀ s H C cl fp, DTs (Lcx X scope s H C cl fp) ifs ρ' ((D, acc) :: M1) fun b M3 => b = f w ∧ M3 = (D, acc) :: M1) ∧
        (f w = true → ∀ s H C cl fp, DE (Lcx X scope s H C cl fp) elt ρ' ((D, acc) :: M1) fun en M4 => en = .d (.bool (g w)) ∧ M4 = (D, acc) :: M1)) (len : ws.length ≤ 40000) (ct : k ((ws.filter f).map g)) : LcB X scope elt ifs ρ M1 t vs ds k := ⟨α, ι, ws, f, g, h1, len, turn, ct⟩

def LcD (X : Cx) (scope : Scope) (elt : Expr) (ifs : List Expr) (ρ : Rho) (M1 : Mm) (t : Tg) (vs : List Nat) (ds : List PyData) (k : List PyData → Prop) : Prop :=
  ∃ (α : Type) (ι : α → PyData) (ws : List α) (f : α → Bool) (g : α → PyData), ds = ws.map ι ∧ ws.length ≤ 40000 ∧
      (∀ w ∈ ws, ∃ ρ', t.bind (ι w) (wipeR ρ vs) = some ρ' ∧ ∀ D acc, (∀ s H C cl fp, DTs (Lcx X scope s H C cl fp) ifs ρ' ((D, acc) :: M1) fun b M3 => b = f w ∧ M3 = (D, acc) :: M1) ∧
        (f w = true → ∀ s H C cl fp, DE (Lcx X scope s H C cl fp) elt ρ' ((D, acc) :: M1) fun en M4 => en = .d (g w) ∧ M4 = (D, acc) :: M1)) ∧ k ((ws.filter f).map g)
theorem lcD_mk {X : Cx} {scope : Scope} {elt : Expr} {ifs : List Expr} {ρ : Rho} {M1 : Mm} {t : Tg} {vs : List Nat} {ds : List PyData} {k : List PyData → Prop} {α : Type} {ι : α → PyData} {ws : List α} {f : α → Bool} {g : α → PyData} (h1 : ds = ws.map ι)
    (turn : ∀ w ∈ ws, ∃ ρ', t.bind (ι w) (wipeR ρ vs) = some ρ' ∧ ∀ D acc, (∀ s H C cl fp, DTs (Lcx X scope s H C cl fp) ifs ρ' ((D, acc) :: M1) fun b M3 => b = f w ∧ M3 = (D, acc) :: M1) ∧
        (f w = true → ∀ s H C cl fp, DE (Lcx X scope s H C cl fp) elt ρ' ((D, acc) :: M1) fun en M4 => en = .d (g w) ∧ M4 = (D, acc) :: M1)) (len : ws.length ≤ 40000) (ct : k ((ws.filter f).map g)) : LcD X scope elt ifs ρ M1 t vs ds k := ⟨α, ι, ws, f, g, h1, len, turn, ct⟩

theorem lcI_mk0 {X : Cx} {scope : Scope} {elt : Expr} {ρ : Rho} {M1 : Mm} {t : Tg} {vs : List Nat} {ds : List PyData} {k : List Int → Prop} {α : Type} {ι : α → PyData} {ws : List α} {g : α → Int} (h1 : ds = ws.map ι)
    (turn : ∀ w ∈ ws, ∃ ρ', t.bind (ι w) (wipeR ρ vs) = some ρ' ∧ ∀ D acc s H C cl fp, DE (Lcx X scope s H C cl fp) elt ρ' ((D, acc) :: M1) fun en M4 => en = .d (.int (g w)) ∧ M4 = (D, acc) :: M1) (len : ws.length ≤ 40000) (ct : k (ws.map g)) : LcI X scope elt [] ρ M1 t vs ds k :=
  ⟨α, ι, ws, fun _ => true, g, h1, len, fun w hw => let ⟨ρ', h1, h2⟩ := turn w hw; ⟨ρ', h1, fun D acc => ⟨fun s H C cl fp => dts_nil ⟨rfl, rfl⟩, fun _ => h2 D acc⟩⟩, by
    have e : ws.filter (fun _ => true) = ws := List.filter_eq_self.mpr fun _ _ => rfl
    rw [e]; exact ct⟩

theorem lcB_mk0 {X : Cx} {scope : Scope} {elt : Expr} {ρ : Rho} {M1 : Mm} {t : Tg} {vs : List Nat} {ds : List PyData} {k : List Bool → Prop} {α : Type} {ι : α → PyData} {ws : List α} {g : α → Bool} (h1 : ds = ws.map ι)
    (turn : ∀ w ∈ ws, ∃ ρ', t.bind (ι w) (wipeR ρ vs) = some ρ' ∧ ∀ D acc s H C cl fp, DE (Lcx X scope s H C cl fp) elt ρ' ((D, acc) :: M1) fun en M4 => en = .d (.bool (g w)) ∧ M4 = (D, acc) :: M1) (len : ws.length ≤ 40000) (ct : k (ws.map g)) : LcB X scope elt [] ρ M1 t vs ds k :=
  ⟨α, ι, ws, fun _ => true, g, h1, len, fun w hw => let ⟨ρ', h1, h2⟩ := turn w hw; ⟨ρ', h1, fun D acc => ⟨fun s H C cl fp => dts_nil ⟨rfl, rfl⟩, fun _ => h2 D acc⟩⟩, by
    have e : ws.filter (fun _ => true) = ws := List.filter_eq_self.mpr fun _ _ => rfl
    rw [e]; exact ct⟩

theorem lcD_mk0 {X : Cx} {scope : Scope} {elt : Expr} {ρ : Rho} {M1 : Mm} {t : Tg} {vs : List Nat} {ds : List PyData} {k : List PyData → Prop} {α : Type} {ι : α → PyData} {ws : List α} {g : α → PyData} (h1 : ds = ws.map ι)
    (turn : ∀ w ∈ ws, ∃ ρ', t.bind (ι w) (wipeR ρ vs) = some ρ' ∧ ∀ D acc s H C cl fp, DE (Lcx X scope s H C cl fp) elt ρ' ((D, acc) :: M1) fun en M4 => en = .d (g w) ∧ M4 = (D, acc) :: M1) (len : ws.length ≤ 40000) (ct : k (ws.map g)) : LcD X scope elt [] ρ M1 t vs ds k :=
  ⟨α, ι, ws, fun _ => true, g, h1, len, fun w hw => let ⟨ρ', h1, h2⟩ := turn w hw; ⟨ρ', h1, fun D acc => ⟨fun s H C cl fp => dts_nil ⟨rfl, rfl⟩, fun _ => h2 D acc⟩⟩, by
    have e : ws.filter (fun _ => true) = ws := List.filter_eq_self.mpr fun _ _ => rfl
    rw [e]; exact ct⟩
theorem lc_pureI {tg iter elt : Expr} {ifs : List Expr} {scope : Scope} {t : Tg} {vs : List Nat} (h : DI X tg iter ρ M fun ds M1 => LcI X scope elt ifs ρ M1 t vs ds fun ns => Q (.d (lN ns)) M1) : LcP X tg iter ifs elt scope t vs ρ M Q :=
  lc_pure (di_mono h fun ds M1 ⟨α, ι, ws, f, g, h1, h2, h3, h4⟩ => ⟨α, ι, ws, f, fun w => .int (g w), h1, h2, h3, by
    have e : (ws.filter f).map (fun w => PyData.int (g w)) = ((ws.filter f).map g).map PyData.int := by rw [List.map_map]; rfl
    rw [e]; exact h4⟩)
theorem lc_pureB {tg iter elt : Expr} {ifs : List Expr} {scope : Scope} {t : Tg} {vs : List Nat} (h : DI X tg iter ρ M fun ds M1 => LcB X scope elt ifs ρ M1 t vs ds fun ns => Q (.d (.list (ns.map PyData.bool))) M1) : LcP X tg iter ifs elt scope t vs ρ M Q :=
  lc_pure (di_mono h fun ds M1 ⟨α, ι, ws, f, g, h1, h2, h3, h4⟩ => ⟨α, ι, ws, f, fun w => .bool (g w), h1, h2, h3, by
    have e : (ws.filter f).map (fun w => PyData.bool (g w)) = ((ws.filter f).map g).map PyData.bool := by rw [List.map_map]; rfl
    rw [e]; exact h4⟩)
theorem lc_pureD {tg iter elt : Expr} {ifs : List Expr} {scope : Scope} {t : Tg} {vs : List Nat} (h : DI X tg iter ρ M fun ds M1 => LcD X scope elt ifs ρ M1 t vs ds fun ns => Q (.d (.list ns)) M1) : LcP X tg iter ifs elt scope t vs ρ M Q :=
  lc_pure (di_mono h fun ds M1 ⟨α, ι, ws, f, g, h1, h2, h3, h4⟩ => ⟨α, ι, ws, f, g, h1, h2, h3, h4⟩)
/-- with draws: each turn any int within bounds that P tells, the store by an invariant S -/
theorem lc_draw {tg iter elt : Expr} {ifs : List Expr} {scope : Scope} {t : Tg} {vs : List Nat} (S : Mm → Prop) (P : Int → Prop)
    (h : DI X tg iter ρ M fun ds M1 => ds.length ≤ 40000 ∧ S M1 ∧ (∀ M2 d D acc, d ∈ ds → S M2 → ∃ ρ', t.bind d (wipeR ρ vs) = some ρ' ∧ ifs = [] ∧
        ∀ s H C cl fp, DE (Lcx X scope s H C cl fp) elt ρ' ((D, acc) :: M2) fun en M4 => ∃ (v : Int) (M5 : Mm), en = .d (.int v) ∧ P v ∧ M4 = (D, acc) :: M5 ∧ S M5) ∧ (∀ (ns : List Int) M2, ns.length = ds.length → (∀ v ∈ ns, P v) → S M2 → Q (.d (lN ns)) M2)) : LcP X tg iter ifs elt scope t vs ρ M Q := by
  refine di_mono h fun ds M1 ⟨hl, h0, ht, he⟩ => ⟨fun i acc M2 => S M2 ∧ ∃ ns : List Int, acc = ns.map PyData.int ∧ ns.length = i ∧ ∀ v ∈ ns, P v, hl, ⟨h0, [], rfl, rfl, by simp⟩, fun i acc M2 d D hd _ ⟨hS, ns, ea, el, hp⟩ => ?_, fun acc M2 _ ⟨hS, ns, ea, el, hp⟩ => ?_⟩
  · obtain ⟨ρ', hb, hi, hel⟩ := ht M2 d D acc (List.mem_of_getElem? hd) hS
    subst hi
    refine ⟨ρ', true, hb, fun s H C cl fp => dts_nil ⟨rfl, rfl⟩, fun z => (by cases z), fun _ s H C cl fp => de_mono (hel s H C cl fp) fun en M4 ⟨v, M5, q1, q2, q3, q4⟩ => ⟨.int v, M5, q1, q3, q4, ns ++ [v], by rw [ea]; simp, by simp [el], ?_⟩⟩
    intro x hx
    rcases List.mem_append.mp hx with hx | hx
    · exact hp x hx
    · rw [List.mem_singleton.mp hx]; exact q2
  · rw [ea]; exact he ns M2 el hp hS
theorem dw_mono {t t' : Bool → Mm → Prop} (h : DW X e ρ M t) (q : ∀ b M, t b M → t' b M) : DW X e ρ M t' :=
  dw_imp h fun σ H k hE hM g => ⟨hE, hM, fun b H' M' x m z => g b H' M' x m (q _ _ z)⟩
theorem dt_mono {t t' : Bool → Mm → Prop} (h : DT X e ρ M t) (q : ∀ b M, t b M → t' b M) : DT X e ρ M t' :=
  dt_imp h fun σ H k hE hM g => ⟨hE, hM, fun b H' M' x m z => g b H' M' x m (q _ _ z)⟩
theorem dw_andP {t : Bool → Mm → Prop} {rest : List Expr} {c1 c2 : Bool} (h1 : DT X a ρ M fun c M1 => c = c1 ∧ M1 = M) (h2 : c1 = true → DW X (.BoolOp .And (b :: rest) pos) ρ M fun c M1 => c = c2 ∧ M1 = M) (q : t (c1 && c2) M) : DW X (.BoolOp .And (a :: b :: rest) pos) ρ M t :=
  dw_and (dt_mono h1 fun c M1 ⟨e1, e2⟩ => by
    subst e1; subst e2
    refine ⟨fun hc => dw_mono (h2 hc) fun c M1 ⟨e1, e2⟩ => ?_, fun hc => ?_⟩
    · subst e1; subst e2; rw [hc] at q; exact q
    · rw [hc] at q; exact q)
theorem dw_orP {t : Bool → Mm → Prop} {rest : List Expr} {c1 c2 : Bool} (h1 : DT X a ρ M fun c M1 => c = c1 ∧ M1 = M) (h2 : c1 = false → DW X (.BoolOp .Or (b :: rest) pos) ρ M fun c M1 => c = c2 ∧ M1 = M) (q : t (c1 || c2) M) : DW X (.BoolOp .Or (a :: b :: rest) pos) ρ M t :=
  dw_or (dt_mono h1 fun c M1 ⟨e1, e2⟩ => by
    subst e1; subst e2
    refine ⟨fun hc => dw_mono (h2 hc) fun c M1 ⟨e1, e2⟩ => ?_, fun hc => ?_⟩
    · subst e1; subst e2; rw [hc] at q; exact q
    · rw [hc] at q; exact q)
theorem de_andP {rest : List Expr} {c1 c2 : Bool} (h1 : DE X a ρ M fun en M1 => en = .d (.bool c1) ∧ M1 = M) (h2 : c1 = true → DE X (.BoolOp .And (b :: rest) pos) ρ M fun en M1 => en = .d (.bool c2) ∧ M1 = M) (q : Q (.d (.bool (c1 && c2))) M) : DE X (.BoolOp .And (a :: b :: rest) pos) ρ M Q :=
  de_and (de_mono h1 fun en M1 ⟨e1, e2⟩ => by
    subst e1; subst e2
    refine ⟨c1, rfl, fun hc => de_mono (h2 hc) fun c M1 ⟨e1, e2⟩ => ?_, fun hc => ?_⟩
    · subst e1; subst e2; rw [hc] at q; exact q
    · rw [hc] at q; exact q)
theorem de_orP {rest : List Expr} {c1 c2 : Bool} (h1 : DE X a ρ M fun en M1 => en = .d (.bool c1) ∧ M1 = M) (h2 : c1 = false → DE X (.BoolOp .Or (b :: rest) pos) ρ M fun en M1 => en = .d (.bool c2) ∧ M1 = M) (q : Q (.d (.bool (c1 || c2))) M) : DE X (.BoolOp .Or (a :: b :: rest) pos) ρ M Q :=
  de_or (de_mono h1 fun en M1 ⟨e1, e2⟩ => by
    subst e1; subst e2
    refine ⟨c1, rfl, fun hc => de_mono (h2 hc) fun c M1 ⟨e1, e2⟩ => ?_, fun hc => ?_⟩
    · subst e1; subst e2; rw [hc] at q; exact q
    · rw [hc] at q; exact q)
/-- a, b = e1, e2 where one of the names is a cell -/
theorem s_parC (i j : Nat) {x y : Str} {a b : Expr} {px py pt : Pos} {kt k2 pt2} (hc : X.calm = true) (hN : X.N.Nodup) (hi : X.N[i]? = some x) (hj : X.N[j]? = some y) (hij : i ≠ j)
    (hx : Loc X.env.scope x) (hy : Loc X.env.scope y)
    (h : DA X [a, b] ρ M fun es M1 => ∃ e1 e2, es = [e1, e2] ∧ P.N ((ρ.set i (some e1)).set j (some e2)) M1) (hw : swappedStores [.Tuple [.Name x px, .Name y py] kt pt] (.Tuple [a, b] k2 pt2) X.env = pure none := by rfl) (hs : swapsWithSole [.Tuple [.Name x px, .Name y py] kt pt] (.Tuple [a, b] k2 pt2) pos.line X.env = pure false := by rfl)
    (fx : X.fn x = true ∨ X.env.scope.names.lookup x = some .local := by first | exact .inl rfl | exact .inr rfl | assumption) (fy : X.fn y = true ∨ X.env.scope.names.lookup y = some .local := by first | exact .inl rfl | exact .inr rfl | assumption)
    (h1 : (assignEach [.Tuple [.Name x px, .Name y py] kt pt] X.env).map (·.2) = [assign (.Tuple [.Name x px, .Name y py] kt pt) X.env] := by rfl)
    (h2 : (assignEach [.Name x px, .Name y py] X.env).map (·.2) = assign (.Name x px) X.env :: (assignEach [.Name y py] X.env).map (·.2) := by rfl) (h3 : (assignEach [.Name y py] X.env).map (·.2) = assign (.Name y py) X.env :: (assignEach [] X.env).map (·.2) := by rfl)
    (hn : (assignEach [.Name x px, .Name y py] X.env).length = 2 := by rfl) (hst : (assignEach [.Name x px, .Name y py] X.env).findIdx? (·.1) = none := by rfl) :
    S1 X (.Assign [.Tuple [.Name x px, .Name y py] kt pt] (.Tuple [a, b] k2 pt2) pos) ρ M P :=
  s1_imp (ps_asg (pe_tup (pa_u X [a, b])) (pg_tup hc (pgs_cons (pg_name hN hi hx fx) (pgs_cons (pg_name hN hj hy fy) pgs_nil h3) h2) hn hst) hs hw h1) fun D σ H hE hM n r b c => ⟨ρ, M, _, h, hE, hM, fun vs H1 es M1 x1 m1 v1 ⟨e1, e2, ee, q⟩ => by
    subst ee
    obtain ⟨va, vb, rfl, h1, h2⟩ : ∃ va vb, vs = [va, vb] ∧ Vl X.K (msk H1 M1) va e1 ∧ Vl X.K (msk H1 M1) vb e2 := by
      cases v1 with
      | cons h1 t =>
        cases t with
        | cons h2 t => cases t; exact ⟨_, _, rfl, h1, h2⟩
    · refine ⟨by show 2 ≤ sizeLine; decide, fun p hp => ⟨p, [va, vb], rfl, .inl (.inl upd_same), rfl, va, [vb], rfl, vb, [], rfl, rfl, ?_⟩⟩
      · have e := ex_new (M := M1) (o := .tup [va, vb]) hp
        exact n _ _ _ M1 (x1.trans e) ((((hE.ex x1).set h1).set h2).ex e) (m1.new hp) q⟩
/-- a conditional value, both ways known -/
theorem de_ifeI {k : Bool} {i j : Int} (h : DT X c ρ M fun b M1 => b = k ∧ M1 = M) (h1 : k = true → DE X a ρ M fun en M1 => en = .d (.int i) ∧ M1 = M) (h2 : k = false → DE X b ρ M fun en M1 => en = .d (.int j) ∧ M1 = M) (q : Q (.d (.int (if k then i else j))) M) : DE X (.IfExp c a b pos) ρ M Q :=
  de_ife (dt_mono h fun b M1 ⟨e1, e2⟩ => by
    subst e1; subst e2
    refine ⟨fun hc => de_mono (h1 hc) fun en M1 ⟨e1, e2⟩ => ?_, fun hc => de_mono (h2 hc) fun en M1 ⟨e1, e2⟩ => ?_⟩ <;> (subst e1; subst e2; simp only [hc] at q; exact q))
theorem de_ifeD {k : Bool} {i j : PyData} (h : DT X c ρ M fun b M1 => b = k ∧ M1 = M) (h1 : k = true → DE X a ρ M fun en M1 => en = .d i ∧ M1 = M) (h2 : k = false → DE X b ρ M fun en M1 => en = .d j ∧ M1 = M) (q : Q (.d (if k then i else j)) M) : DE X (.IfExp c a b pos) ρ M Q :=
  de_ife (dt_mono h fun b M1 ⟨e1, e2⟩ => by
    subst e1; subst e2
    refine ⟨fun hc => de_mono (h1 hc) fun en M1 ⟨e1, e2⟩ => ?_, fun hc => de_mono (h2 hc) fun en M1 ⟨e1, e2⟩ => ?_⟩ <;> (subst e1; subst e2; simp only [hc] at q; exact q))
/-- the module's names that are the built-ins' own -/
structure Bt (mg : Str → Option Value) : Prop where
  len : mg "len" = none
  sum : mg "sum" = none
  tuple : mg "tuple" = none
  list : mg "list" = none
  range : mg "range" = none
  zip : mg "zip" = none
  min : mg "min" = none
  max : mg "max" = none
  abs : mg "abs" = none
  int : mg "int" = none
  all : mg "all" = none
  any : mg "any" = none
  sorted : mg "sorted" = none
  enumerate : mg "enumerate" = none
end Dt
namespace Dt
open PySem PySem.Spec PyProof.Rows L2
variable {K : PySem.W.Frag} {M : Mm} {Q : QE}
theorem c_lenT {ns : List Int} (q : Q (.d (.int (ns.length : Int))) M) : RCD K (fun xs H Q => ∃ p ys, xs = [.ref p] ∧ (SqL K H p ys ∨ SqT K H p ys) ∧ Q (.int ys.length) H) [.d (tN ns)] M Q := c_len .t (by rw [List.length_map]; exact q)
theorem c_lenL {ns : List Int} (q : Q (.d (.int (ns.length : Int))) M) : RCD K (fun xs H Q => ∃ p ys, xs = [.ref p] ∧ (SqL K H p ys ∨ SqT K H p ys) ∧ Q (.int ys.length) H) [.d (lN ns)] M Q := c_len .l (by rw [List.length_map]; exact q)
end Dt
namespace Dt
open PySem PySem.Spec PyProof.Rows L2
variable {X : Cx} {pos : Pos}
theorem pg_nm {i : Nat} {x : Str} (hN : X.N.Nodup) (hi : X.N[i]? = some x) (hx : Loc X.env.scope x) (hf : X.fn x = true ∨ X.env.scope.names.lookup x = some .local := by first | exact .inl rfl | exact .inr rfl | assumption) : PG X (.Name x pos) (gT X.K (.nm i)) := by
  simp only [gT]; exact pg_name hN hi hx hf
theorem pg_tp {es : List Expr} {k : Nat} {ts : Tgs} {n : Nat} (hc : X.calm = true) (h : PGs X es (gTs X.K ts)) (hl : ts.len = n := by rfl)
    (hn : (assignEach es X.env).length = n := by rfl) (hst : (assignEach es X.env).findIdx? (·.1) = none := by rfl) : PG X (.Tuple es k pos) (gT X.K (.tp ts)) := by
  simp only [gT]; rw [hl]; exact pg_tup hc h hn hst
theorem pgs_nl : PGs X [] (gTs X.K .nil) := by simp only [gTs]; exact pgs_nil
theorem pgs_cn {e : Expr} {es : List Expr} {t : Tg} {ts : Tgs} (h1 : PG X e (gT X.K t)) (h2 : PGs X es (gTs X.K ts)) (hs : (assignEach (e :: es) X.env).map (·.2) = assign e X.env :: (assignEach es X.env).map (·.2) := by rfl) : PGs X (e :: es) (gTs X.K (.cons t ts)) := by
  simp only [gTs]; exact pgs_cons h1 h2 hs
end Dt
namespace Dt
open PySem PySem.Spec PyProof.Rows L2
variable {R : List PyData → Prop}
/-- displays with stars in them -/
theorem st_axb {as bs : List Int} {x : Int} (hl : as.length + bs.length ≤ 1000) (q : R ((as ++ x :: bs).map PyData.int)) : ∃ ds : List PyData, (as.map PyData.int).map Ent.d ++ (.d (.int x) :: ((bs.map PyData.int).map Ent.d ++ [])) = ds.map Ent.d ∧ ds.length ≤ 100000 ∧ R ds :=
  ⟨(as ++ x :: bs).map PyData.int, by simp, by simp; omega, q⟩
theorem st_ax {as : List Int} {x : Int} (hl : as.length ≤ 1000) (q : R ((as ++ [x]).map PyData.int)) : ∃ ds : List PyData, (as.map PyData.int).map Ent.d ++ [.d (.int x)] = ds.map Ent.d ∧ ds.length ≤ 100000 ∧ R ds :=
  ⟨(as ++ [x]).map PyData.int, by simp, by simp; omega, q⟩
end Dt

/-! zip of three tuples -/
namespace Dt
open PySem PySem.Spec PyProof.Rows L2
open Evl (Ex)
/-- the tuples at a, b, c as they stand at each turn, the items in new triples -/
def It3 (K : PySem.W.Frag) (a b c : Addr) : It :=
  ⟨fun i H => ∃ (xs ys zs : List V) (x y z : V), (SqT K H a xs ∧ SqT K H b ys ∧ SqT K H c zs) ∧ xs[i]? = some x ∧ ys[i]? = some y ∧ zs[i]? = some z,
    fun i H v H' => ∃ T x y z, v = .ref T ∧ H T = none ∧ H' = upd H T (.tup [x, y, z]) ∧ (∀ xs, SqT K H a xs → xs[i]? = some x) ∧ (∀ ys, SqT K H b ys → ys[i]? = some y) ∧ ∀ zs, SqT K H c zs → zs[i]? = some z,
    fun i H => ∃ xs ys zs : List V, (SqT K H a xs ∧ SqT K H b ys ∧ SqT K H c zs) ∧ (xs.length = i ∨ ys.length = i ∨ zs.length = i) ∧ i ≤ xs.length ∧ i ≤ ys.length ∧ i ≤ zs.length⟩
abbrev Apart3 (z TI TO i1 i2 i3 a b c : Addr) : Prop := ZipSep3 z TI TO i1 i2 i3 [i1, a] [i2, b] [i3, c]
theorem turn_zip3 {P : Program} {w : World} {K : PySem.W.Frag} {elts : List Expr} {kk : Nat} {tpos : Pos} {a b c z TI TO i1 i2 i3 : Addr} (D : Apart3 z TI TO i1 i2 i3 a b c) (da : a ≠ i1) (db : b ≠ i2) (dc : c ≠ i3) :
    Turn P w K (.Tuple elts kk tpos) (It3 K a b c) [z, TI, TO, i1, i2, i3] z (fun i h => IsZip h z TI TO .none ∧ IsTupOf3 h TI (.ref i1) (.ref i2) (.ref i3) ∧ (∃ x y u, IsTupOf3 h TO x y u) ∧ h.IsTupleIter i1 a i ∧ h.IsTupleIter i2 b i ∧ h.IsTupleIter i3 c i) where
  mem := by simp
  obj := fun i h st q hq => by
    obtain ⟨hz, hTI, ⟨x, y, u, hTO⟩, ⟨o1, e1, _, d1⟩, ⟨o2, e2, _, d2⟩, ⟨o3, e3, _, d3⟩⟩ := st
    have e' : q = z ∨ q = TI ∨ q = TO ∨ q = i1 ∨ q = i2 ∨ q = i3 := by simpa using hq
    rcases e' with rfl | rfl | rfl | rfl | rfl | rfl
    · exact ⟨_, hz, fun v q => nomatch q⟩
    · exact ⟨_, hTI, fun v q => nomatch q⟩
    · exact ⟨_, hTO, fun v q => nomatch q⟩
    · exact ⟨o1, e1, fun v q => by rw [d1] at q; cases q⟩
    · exact ⟨o2, e2, fun v q => by rw [d2] at q; cases q⟩
    · exact ⟨o3, e3, fun v q => by rw [d3] at q; cases q⟩
  keep := fun i h h' st k => by
    obtain ⟨hz, hTI, ⟨x, y, u, hTO⟩, h1, h2, h3⟩ := st
    exact ⟨k z (by simp) _ hz, k TI (by simp) _ hTI, ⟨x, y, u, k TO (by simp) _ hTO⟩, h1.at fun o q => k i1 (by simp) o q, h2.at fun o q => k i2 (by simp) o q, h3.at fun o q => k i3 (by simp) o q⟩
  item := by
    intro X hP hw hK hc i pins s σ H E I hf st hg
    subst hP hw hK
    obtain ⟨hz, hTI, ⟨x0, y0, u0, hTO⟩, h1, h2, h3⟩ := st
    obtain ⟨xs, ys, zs, x, y, u, ⟨hqx, hqy, hqz⟩, hx, hy, hu⟩ := hg
    obtain ⟨its, rv, p, _⟩ := I.tuple hqx
    obtain ⟨its2, rv2, p2, _⟩ := I.tuple hqy
    obtain ⟨its3, rv3, p3, _⟩ := I.tuple hqz
    obtain ⟨u1, hu1, ru1⟩ := rv.get hx
    obtain ⟨u2, hu2, ru2⟩ := rv2.get hy
    obtain ⟨u3, hu3, ru3⟩ := rv3.get hu
    have hh := I.ok.hd hc
    have hzl : z < s.heap.objs.size := Heap.lt_size hz
    have l1 : i < its.toArray.size := by have := (List.getElem?_eq_some_iff.mp hu1).1; simpa using this
    have l2 : i < its2.toArray.size := by have := (List.getElem?_eq_some_iff.mp hu2).1; simpa using this
    have l3 : i < its3.toArray.size := by have := (List.getElem?_eq_some_iff.mp hu3).1; simpa using this
    refine wpAny_pyNext_zipD3_item D (Draws.tuple (A := X.A.in1) hh i1 a da its.toArray) (Draws.tuple (A := X.A.in1) hh i2 b db its2.toArray) (Draws.tuple (A := X.A.in1) hh i3 c dc its3.toArray) hz hTI hTO ⟨h1, p⟩ ⟨h2, p2⟩ ⟨h3, p3⟩ l1 l2 l3
      fun x1 x2 x3 h' tk y1 y2 y3 z' TO' h1' h2' h3' hT hsz hk => ?_
    have e1 : x1 = u1 := by have : its.toArray[i]? = some u1 := by simpa using hu1
                            rw [this] at y1; exact (Option.some.inj y1).symm
    have e2 : x2 = u2 := by have : its2.toArray[i]? = some u2 := by simpa using hu2
                            rw [this] at y2; exact (Option.some.inj y2).symm
    have e3 : x3 = u3 := by have : its3.toArray[i]? = some u3 := by simpa using hu3
                            rw [this] at y3; exact (Option.some.inj y3).symm
    subst e1; subst e2; subst e3
    refine ⟨_, rfl, wpAny_letOwnedTupleGo_zip (s := { s with heap := h', toks := tk }) z' fun h'' z'' sb => ?_⟩
    have hT2 : h''.get? s.heap.objs.size = some { cls := .type "tuple", data := .seq #[x1, x2, x3] } := (sb.2 _ (Nat.ne_of_gt hzl)).trans hT
    have new : ObjOk X.prog X.w (upd H s.heap.objs.size (.tup [x, y, u])) h'' s.heap.objs.size (.tup [x, y, u]) :=
      ⟨by show 3 ≤ sizeLine; decide, [x1, x2, x3], .cons ru1 (.cons ru2 (.cons ru3 .nil)), ⟨_, hT2, rfl, _, rfl⟩⟩
    have kept : ∀ q o, q ∉ [z, TI, TO, i1, i2, i3] → s.heap.get? q = some o → h''.get? q = some o := fun q o hq e =>
      (sb.2 q (fun t => hq (by simp [t]))).trans (hk q o (fun t => hq (by simp [t])) (fun t => hq (by simp [t])) (fun t => hq (by simp [t])) (fun t => hq (by simp [t])) (fun t => hq (by simp [t])) e)
    have I1 : Inv X pins σ (upd H s.heap.objs.size (.tup [x, y, u])) { s with heap := h'', toks := tk } := I.turnedNew (t' := tk) kept hf (Nat.le_refl _) new
    refine ⟨.ref s.heap.objs.size, _, I1, rfl, ⟨_, x, y, u, rfl, I.hok.fresh (Nat.le_refl _), rfl, fun l hl => by rw [I.tuple_inj hl hqx]; exact hx, fun l hl => by rw [I.tuple_inj hl hqy]; exact hy, fun l hl => by rw [I.tuple_inj hl hqz]; exact hu⟩, ⟨z'', ?_, ⟨x1, x2, x3, ?_⟩, ?_, ?_, ?_⟩, fun q hqm => ?_⟩
    · exact (sb.2 _ D.TIz).trans (hk _ _ D.TIz D.TITO D.TIi1 D.TIi2 D.TIi3 hTI)
    · exact (sb.2 _ D.TOz).trans TO'
    · exact h1'.1.at fun o q => (sb.2 _ D.zi1.symm).trans q
    · exact h2'.1.at fun o q => (sb.2 _ D.zi2.symm).trans q
    · exact h3'.1.at fun o q => (sb.2 _ D.zi3.symm).trans q
    · have hlt : q < s.heap.objs.size := by
        have e' : q = z ∨ q = TI ∨ q = TO ∨ q = i1 ∨ q = i2 ∨ q = i3 := by simpa using hqm
        rcases e' with rfl | rfl | rfl | rfl | rfl | rfl
        · exact hzl
        · exact Heap.lt_size hTI
        · exact Heap.lt_size hTO
        · obtain ⟨_, e1, _⟩ := h1; exact Heap.lt_size e1
        · obtain ⟨_, e1, _⟩ := h2; exact Heap.lt_size e1
        · obtain ⟨_, e1, _⟩ := h3; exact Heap.lt_size e1
      rw [upd_ne (Nat.ne_of_lt hlt)]
      exact (hf q hqm).1
  done := by
    intro X hP hw hK hc i pins s σ H E I hf st hg
    subst hP hw hK
    obtain ⟨hz, hTI, ⟨x0, y0, u0, hTO⟩, h1, h2, h3⟩ := st
    obtain ⟨xs, ys, zs, ⟨hqx, hqy, hqz⟩, hend, q1, q2, q3⟩ := hg
    obtain ⟨its, rv, p, _⟩ := I.tuple hqx
    obtain ⟨its2, rv2, p2, _⟩ := I.tuple hqy
    obtain ⟨its3, rv3, p3, _⟩ := I.tuple hqz
    have hh := I.ok.hd hc
    have l1 := rv.length
    have l2 := rv2.length
    have l3 := rv3.length
    exact wpAny_pyNext_zipD3_end D (Draws.tuple (A := X.A.in1) hh i1 a da its.toArray) (Draws.tuple (A := X.A.in1) hh i2 b db its2.toArray) (Draws.tuple (A := X.A.in1) hh i3 c dc its3.toArray) hz hTI hTO ⟨h1, p⟩ ⟨h2, p2⟩ ⟨h3, p3⟩ (by simp; omega) (by simp; omega) (by simp; omega) (by simp; omega)
      fun h' tk hk => ⟨rfl, I.turnedL (t' := tk) (ch := [z, TI, TO, i1, i2, i3]) (fun q o hq e => hk q o (fun t => hq (by simp [t])) (fun t => hq (by simp [t])) (fun t => hq (by simp [t])) (fun t => hq (by simp [t])) (fun t => hq (by simp [t])) e) hf⟩
  self := fun A i s Q E st h => wpAny_pyIter_zip st.1 h
def iZip3 (K : PySem.W.Frag) (ta : TA) : TI := fun σ H R => ta σ H fun vs H1 => ∃ a b c xs ys zs, vs = [.ref a, .ref b, .ref c] ∧ (SqT K H1 a xs ∧ SqT K H1 b ys ∧ SqT K H1 c zs) ∧ R (It3 K a b c) H1
theorem pi_zip3 {X : Cx} {e e2 e3 : Expr} {ta : TA} {p pos tpos : Pos} {elts : List Expr} {kk : Nat} (hg : Gl X "zip") (hm : X.mg "zip" = none) (ha : PA X [e, e2, e3] ta)
    (hs : starEach [e, e2, e3] X.env = (false, eval e X.env) :: starEach [e2, e3] X.env := by rfl) (hpl : (backTo pos (starEach [e2, e3] X.env)).any (·.1) = false := by rfl) :
    PI X (.Tuple elts kk tpos) (.Call (.Name "zip" p) [e, e2, e3] [] pos) (iZip3 X.K ta) := by
  refine ⟨fun pins s σ H R I h => ?_⟩
  refine Call_ (ld_blt I hg hm PyProof.Rows.boot_zip (PyProof.Rows.callWith_type1 (thn (ha.run pos pins s σ H _ I h) fun us s1 ⟨vs, H1, I1, r1, q1⟩ => ?_) hs hpl))
  obtain ⟨a, b, c, xs, ys, zs, ex, ⟨hqx, hqy, hqz⟩, q⟩ := q1
  subst ex
  cases r1 with
  | cons r rr =>
    cases rr with
    | cons r' rr =>
      cases rr with
      | cons r2 rr =>
        cases rr
        cases r
        cases r'
        cases r2
        obtain ⟨its, rv, p1, _⟩ := I1.tuple hqx
        obtain ⟨its2, rv2, p2, _⟩ := I1.tuple hqy
        obtain ⟨its3, rv3, p3, _⟩ := I1.tuple hqz
        have la : a < s1.heap.objs.size := p1.lt
        have lb : b < s1.heap.objs.size := p2.lt
        have lc : c < s1.heap.objs.size := p3.lt
        refine zip_begins3 (begins_tuple a its.toArray) (begins_tuple b its2.toArray) (begins_tuple c its3.toArray) p1 p2 p3 fun h' hz hTI hTO h1 h2 h3 hsz hk => wpAny_pyIter_zip hz ?_
        have I2 : Inv X pins σ H1 { s1 with heap := h' } := I1.kept (t' := s1.toks) hk
        have D : Apart3 (s1.heap.objs.size + 5) (s1.heap.objs.size + 3) (s1.heap.objs.size + 4) s1.heap.objs.size (s1.heap.objs.size + 1) (s1.heap.objs.size + 2) a b c :=
          zip_sep3 (by simpa using la) (by simpa using lb) (by simpa using lc)
        refine ⟨s1.heap.objs.size + 5, [s1.heap.objs.size + 5, s1.heap.objs.size + 3, s1.heap.objs.size + 4, s1.heap.objs.size, s1.heap.objs.size + 1, s1.heap.objs.size + 2], _, _, H1, rfl, I2,
          turn_zip3 D (Nat.ne_of_lt la) (Nat.ne_of_lt (Nat.lt_succ_of_lt lb)) (Nat.ne_of_lt (Nat.lt_succ_of_lt (Nat.lt_succ_of_lt lc))), ⟨hz, hTI, ⟨_, _, _, hTO⟩, ⟨_, h1, rfl, rfl⟩, ⟨_, h2, rfl, rfl⟩, ⟨_, h3, rfl, rfl⟩⟩, fun q hqm => ?_, q⟩
        have hle : s1.heap.objs.size ≤ q := by
          have e' : q = s1.heap.objs.size + 5 ∨ q = s1.heap.objs.size + 3 ∨ q = s1.heap.objs.size + 4 ∨ q = s1.heap.objs.size ∨ q = s1.heap.objs.size + 1 ∨ q = s1.heap.objs.size + 2 := by simpa using hqm
          rcases e' with rfl | rfl | rfl | rfl | rfl | rfl <;> first | exact Nat.le_refl _ | exact Nat.le_add_right _ _
        exact I1.fpOk hle (I1.hok.fresh hle)
variable {K : PySem.W.Frag} {X : Cx} {ρ : Rho} {M : Mm} {Q : QE} {pos : Pos}
def zip3 : List Int → List Int → List Int → List (Int × Int × Int)
  | x :: xs, y :: ys, z :: zs => (x, y, z) :: zip3 xs ys zs
  | _, _, _ => []
def pIII (p : Int × Int × Int) : PyData := .tuple [.int p.1, .int p.2.1, .int p.2.2]
theorem zip3_len : ∀ (xs ys zs : List Int), (zip3 xs ys zs).length = min xs.length (min ys.length zs.length)
  | [], _, _ => by simp [zip3]
  | _ :: _, [], _ => by simp [zip3]
  | _ :: _, _ :: _, [] => by simp [zip3]
  | x :: xs, y :: ys, z :: zs => by simp only [zip3, List.length_cons, zip3_len xs ys zs]; omega
theorem zip3_get : ∀ (xs ys zs : List Int) (i : Nat) (p : Int × Int × Int), (zip3 xs ys zs)[i]? = some p → xs[i]? = some p.1 ∧ ys[i]? = some p.2.1 ∧ zs[i]? = some p.2.2
  | [], _, _, i, p, h => by simp [zip3] at h
  | _ :: _, [], _, i, p, h => by simp [zip3] at h
  | _ :: _, _ :: _, [], i, p, h => by simp [zip3] at h
  | x :: xs, y :: ys, z :: zs, 0, p, h => by simp only [zip3, List.getElem?_cons_zero, Option.some.injEq] at h; subst h; exact ⟨rfl, rfl, rfl⟩
  | x :: xs, y :: ys, z :: zs, i + 1, p, h => by simpa using zip3_get xs ys zs i p (by simpa [zip3] using h)
theorem di_zip3I {a b c : Expr} {p tpos : Pos} {elts : List Expr} {kk : Nat} {Q : List PyData → Mm → Prop} (hg : Gl X "zip") (hm : X.mg "zip" = none)
    (h : DA X [a, b, c] ρ M fun es M1 => ∃ xs ys zs : List Int, es = [.d (tN xs), .d (tN ys), .d (tN zs)] ∧ Q ((zip3 xs ys zs).map pIII) M1)
    (hs : starEach [a, b, c] X.env = (false, eval a X.env) :: starEach [b, c] X.env := by rfl) (hpl : (backTo pos (starEach [b, c] X.env)).any (·.1) = false := by rfl) : DI X (.Tuple elts kk tpos) (.Call (.Name "zip" p) [a, b, c] [] pos) ρ M Q :=
  di_imp (pi_zip3 hg hm (pa_u X [a, b, c]) hs hpl) fun σ H R hE hM g => ⟨ρ, M, _, h, hE, hM, fun vs H1 es M1 x1 m1 v1 ⟨xs, ys, zs, ed, q⟩ => by
    subst ed
    obtain ⟨v, w, u, rfl, hv, hw, hu⟩ := vl3 v1
    cases hv with
    | tup s1 a1 =>
      cases hw with
      | tup s2 a2 =>
        cases hu with
        | tup s3 a3 =>
          have e1 := a1.ints_inv
          have e2 := a2.ints_inv
          have e3 := a3.ints_inv
          subst e1; subst e2; subst e3
          refine ⟨_, _, _, _, _, _, rfl, ⟨Evl.ex_t msk_sub s1, Evl.ex_t msk_sub s2, Evl.ex_t msk_sub s3⟩, g _ H1 _ M1 x1 m1 ⟨fun i H' hi x => ?_, fun H' x => ?_, fun i H' M' v H'' d hd eg hM' hy => ?_⟩ q⟩
          · rw [List.length_map, zip3_len] at hi
            exact ⟨_, _, _, .int (xs[i]'(by omega)), .int (ys[i]'(by omega)), .int (zs[i]'(by omega)), ⟨Evl.ex_t x s1, Evl.ex_t x s2, Evl.ex_t x s3⟩, by simp [show i < xs.length by omega], by simp [show i < ys.length by omega], by simp [show i < zs.length by omega]⟩
          · exact ⟨_, _, _, ⟨Evl.ex_t x s1, Evl.ex_t x s2, Evl.ex_t x s3⟩, by simp only [List.length_map, zip3_len]; omega, by simp only [List.length_map, zip3_len]; omega, by simp only [List.length_map, zip3_len]; omega, by simp only [List.length_map, zip3_len]; omega⟩
          · obtain ⟨T, x, y, z, rfl, nT, rfl, f1, f2, f3⟩ := hy
            rw [List.getElem?_map] at hd
            cases hz : (zip3 xs ys zs)[i]? with
            | none => rw [hz] at hd; cases hd
            | some p =>
              rw [hz] at hd
              have ed : pIII p = d := Option.some.inj hd
              subst ed
              obtain ⟨g1, g2, g3⟩ := zip3_get _ _ _ _ _ hz
              have k1 := f1 _ (Evl.ex_t (eg.trans msk_sub) s1)
              have k2 := f2 _ (Evl.ex_t (eg.trans msk_sub) s2)
              have k3 := f3 _ (Evl.ex_t (eg.trans msk_sub) s3)
              rw [List.getElem?_map, g1] at k1
              rw [List.getElem?_map, g2] at k2
              rw [List.getElem?_map, g3] at k3
              cases k1; cases k2; cases k3
              exact ⟨hM'.new nT, ex_new nT, vl_new hM' nT (.cons (.int _) (.cons (.int _) (.cons (.int _) .nil)))⟩⟩
end Dt

/-! enumerate(zip(t1, t2)) over tuples -/
namespace Dt
open PySem PySem.Spec PyProof.Rows L2
open Evl (Ex)
/-- a zip: what its first field holds, its flag -/
abbrev ZA (h : Heap) (z TI TO : Addr) (o : Value) (f : Bool) : Prop :=
  h.get? z = some { cls := .type "zip", dict := none, data := .fields #[o, .bool f, .bool false, .ref TI, .ref TO], slots := #[] }
section
variable {prog : Program} {w : World} {A : Around} {E : Value → Shared → Prop} {s : Shared}
theorem zz_free {z TI TO i1 i2 l1 l2 : Addr} {k1 k2 : Nat} {o : Value} {f : Bool} {xs ys : Array Value} {x y a b : Value} {Q : Value → Shared → Prop} (D : ZipApart z TI TO i1 i2 l1 l2)
    (hfree : ∀ Q : Bool → Shared → Prop, Q true s → wpAny (model prog w) A (Builtin.SmallTypes.ownedTupleIsFree (.ref z)) Q E s)
    (hz : ZA s.heap z TI TO o f) (hTI : IsPair s.heap TI (.ref i1) (.ref i2)) (hTO : IsPair s.heap TO a b) (h1 : s.heap.IsTupleIter i1 l1 k1) (h2 : s.heap.IsTupleIter i2 l2 k2) (hl1 : s.heap.IsTuple l1 xs) (hl2 : s.heap.IsTuple l2 ys) (hx : xs[k1]? = some x) (hy : ys[k2]? = some y)
    (hQ : ∀ h', ZA h' z TI TO (rawInt s.heap.objs.size) false → IsPair h' TO x y → h'.IsTupleIter i1 l1 (k1 + 1) → h'.IsTupleIter i2 l2 (k2 + 1) → IsPair h' s.heap.objs.size x y → h'.objs.size = s.heap.objs.size + 1 →
      (∀ c o, c ≠ z → c ≠ TO → c ≠ i1 → c ≠ i2 → s.heap.get? c = some o → h'.get? c = some o) → Q (.ref s.heap.objs.size) { s with heap := h' }) : wpAny (model prog w) A (Builtin.«zip.__next__» ⟨[.ref z], []⟩) (fun fin s' => ∃ v, fin = .done (.ret v) ∧ Q v s') E s := by
  show wpAny _ _ (field (.ref z) 2 >>= _) _ _ _; refine wpAny_bind (wpAny_field hz rfl (x := .bool false) rfl ?_)
  show wpAny _ _ (field (.ref z) 3 >>= _) _ _ _; refine wpAny_bind (wpAny_field hz rfl (x := .ref TI) rfl ?_)
  refine wpAny_bind (wpAny_seqItems hTI rfl ?_); show wpAny _ _ (Builtin.SmallTypes.ownedTupleIsFree (.ref z) >>= _) _ _ _
  refine wpAny_bind (hfree _ ?_); simp only [if_true]
  refine wpAny_bind (wpAny_rule ?_); refine wpAny_bind (wpAny_field hz rfl (x := .ref TO) rfl ?_)
  refine wpAny_bind (wpAny_setField_rec hz (by simp) fun h₁ hz₁ hs₁ => ?_); replace hz₁ : ZA h₁ z TI TO .ellipsis f := hz₁
  refine wpAny_bind ?_; simp only [List.zipIdx_cons, List.zipIdx_nil, List.forIn_cons, List.forIn_nil]
  refine wpAny_bind (wpAny_bind (wpAny_onRaise ?_)); show wpAny _ _ (Builtin.SmallTypes.nextOf (.ref i1) >>= _) _ _ _
  refine wpAny_bind (RZ.nextOf_tuple_item (h1.extBut hs₁.extBut D.i1z) (hl1.extBut hs₁.extBut D.l1z) hx fun h₂ h1₂ hs₂ => wpAny_pure ?_); have hTO₂ : IsPair h₂ TO a b := hs₂.extBut _ _ D.TOi1 (hs₁.extBut _ _ D.TOz hTO)
  refine wpAny_bind (wpAny_seqItems hTO₂ rfl ?_); refine wpAny_bind (wpAny_updateSeq_pair hTO₂ fun h₃ hTO₃ hs₃ => ?_); replace hTO₃ : IsPair h₃ TO x b := hTO₃
  refine wpAny_bind (wpAny_letGo (wpAny_pure ?_)); refine wpAny_bind (wpAny_bind (wpAny_onRaise ?_)); show wpAny _ _ (Builtin.SmallTypes.nextOf (.ref i2) >>= _) _ _ _
  refine wpAny_bind (RZ.nextOf_tuple_item (((h2.extBut hs₁.extBut D.i2z).extBut hs₂.extBut D.i12.symm).extBut hs₃.extBut D.TOi2.symm) (((hl2.extBut hs₁.extBut D.l2z).extBut hs₂.extBut D.l2i1).extBut hs₃.extBut D.l2TO) hy fun h₄ h2₄ hs₄ => wpAny_pure ?_)
  have hTO₄ : IsPair h₄ TO x b := hs₄.extBut _ _ D.TOi2 hTO₃; refine wpAny_bind (wpAny_seqItems hTO₄ rfl ?_)
  refine wpAny_bind (wpAny_updateSeq_pair hTO₄ fun h₅ hTO₅ hs₅ => ?_); replace hTO₅ : IsPair h₅ TO x y := hTO₅
  refine wpAny_bind (wpAny_letGo (wpAny_pure (wpAny_pure ?_))); refine wpAny_bind (wpAny_seqItems hTO₅ rfl ?_); refine wpAny_bind (wpAny_newTuple ?_)
  have n5 : h₅.objs.size = s.heap.objs.size := by rw [hs₅.1, hs₄.1, hs₃.1, hs₂.1, hs₁.1]
  have z5 : ZA h₅ z TI TO .ellipsis f := hs₅.extBut _ _ D.TOz.symm (hs₄.extBut _ _ D.i2z.symm (hs₃.extBut _ _ D.TOz.symm (hs₂.extBut _ _ D.i1z.symm hz₁)))
  have k5 : ∀ c o, c ≠ z → c ≠ TO → c ≠ i1 → c ≠ i2 → s.heap.get? c = some o → h₅.get? c = some o := fun c o c1 c2 c3 c4 e => hs₅.extBut _ _ c2 (hs₄.extBut _ _ c4 (hs₃.extBut _ _ c2 (hs₂.extBut _ _ c3 (hs₁.extBut _ _ c1 e))))
  have p1 : h₅.IsTupleIter i1 l1 (k1 + 1) := ((h1₂.extBut hs₃.extBut D.TOi1.symm).extBut hs₄.extBut D.i12).extBut hs₅.extBut D.TOi1.symm
  have p2 : h₅.IsTupleIter i2 l2 (k2 + 1) := h2₄.extBut hs₅.extBut D.TOi2.symm
  have zl : z < h₅.objs.size := Heap.lt_size z5
  show wpAny _ _ (Builtin.SmallTypes.ownedTupleHandOut (.ref z) (.ref h₅.objs.size) >>= _) _ _ _; refine wpAny_bind ?_; unfold Builtin.SmallTypes.ownedTupleHandOut
  have z6 : ZA (h₅.push { cls := .type "tuple", data := .seq #[x, y] }) z TI TO .ellipsis f := Heap.get?_push_of_some _ z5
  refine wpAny_bind (wpAny_setField_rec z6 (by simp) fun h₇ hz₇ hs₇ => ?_); replace hz₇ : ZA h₇ z TI TO (rawInt h₅.objs.size) f := hz₇
  refine wpAny_setField_rec hz₇ (by simp) fun h₈ hz₈ hs₈ => ?_; replace hz₈ : ZA h₈ z TI TO (rawInt h₅.objs.size) false := hz₈
  have up : ∀ c o, c ≠ z → h₅.get? c = some o → h₈.get? c = some o := fun c o c1 e => hs₈.extBut _ _ c1 (hs₇.extBut _ _ c1 (Heap.get?_push_of_some _ e))
  have t8 : IsPair h₈ h₅.objs.size x y := hs₈.extBut _ _ (Nat.ne_of_gt zl) (hs₇.extBut _ _ (Nat.ne_of_gt zl) (Heap.get?_push_size _ rfl))
  have n8 : h₈.objs.size = h₅.objs.size + 1 := by rw [hs₈.1, hs₇.1, Heap.size_push]
  rw [n5] at hz₈ t8 n8
  refine wpAny_pure ⟨_, rfl, ?_⟩; show Q (.ref h₅.objs.size) _; rw [n5]
  exact hQ h₈ hz₈ (up _ _ D.TOz hTO₅) (p1.at fun o e => up _ o D.i1z e) (p2.at fun o e => up _ o D.i2z e) t8 n8 fun c o c1 c2 c3 c4 e => up c o c1 (k5 c o c1 c2 c3 c4 e)
theorem zz_held {z TI TO i1 i2 l1 l2 : Addr} {k1 k2 : Nat} {o : Value} {xs ys : Array Value} {x y : Value} {Q : Value → Shared → Prop} (D : ZipApart z TI TO i1 i2 l1 l2) {f : Bool}
    (hheld : ∀ Q : Bool → Shared → Prop, (∀ h', ZA h' z TI TO o true → Heap.SameBut z s.heap h' → Q false { s with heap := h' }) → wpAny (model prog w) A (Builtin.SmallTypes.ownedTupleIsFree (.ref z)) Q E s)
    (hz : ZA s.heap z TI TO o f) (hTI : IsPair s.heap TI (.ref i1) (.ref i2)) (h1 : s.heap.IsTupleIter i1 l1 k1) (h2 : s.heap.IsTupleIter i2 l2 k2) (hl1 : s.heap.IsTuple l1 xs) (hl2 : s.heap.IsTuple l2 ys) (hx : xs[k1]? = some x) (hy : ys[k2]? = some y)
    (hQ : ∀ h', ZA h' z TI TO o true → h'.IsTupleIter i1 l1 (k1 + 1) → h'.IsTupleIter i2 l2 (k2 + 1) → IsPair h' s.heap.objs.size x y → h'.objs.size = s.heap.objs.size + 1 →
      (∀ c o, c ≠ z → c ≠ i1 → c ≠ i2 → s.heap.get? c = some o → h'.get? c = some o) → Q (.ref s.heap.objs.size) { s with heap := h' }) : wpAny (model prog w) A (Builtin.«zip.__next__» ⟨[.ref z], []⟩) (fun fin s' => ∃ v, fin = .done (.ret v) ∧ Q v s') E s := by
  show wpAny _ _ (field (.ref z) 2 >>= _) _ _ _; refine wpAny_bind (wpAny_field hz rfl (x := .bool false) rfl ?_)
  show wpAny _ _ (field (.ref z) 3 >>= _) _ _ _; refine wpAny_bind (wpAny_field hz rfl (x := .ref TI) rfl ?_)
  refine wpAny_bind (wpAny_seqItems hTI rfl ?_); show wpAny _ _ (Builtin.SmallTypes.ownedTupleIsFree (.ref z) >>= _) _ _ _
  refine wpAny_bind (hheld _ fun h₁ hz₁ hs₁ => ?_); simp only [Bool.false_eq_true, if_false]
  refine wpAny_bind ?_; rw [← Array.forIn_toList]; simp only [List.forIn_cons, List.forIn_nil]
  refine wpAny_bind (wpAny_bind (wpAny_holding ?_)); show wpAny _ _ (Builtin.SmallTypes.nextOf (.ref i1) >>= _) _ _ _
  refine wpAny_bind (RZ.nextOf_tuple_item (s := { s with heap := h₁ }) (h1.extBut hs₁.extBut D.i1z) (hl1.extBut hs₁.extBut D.l1z) hx fun h₂ h1₂ hs₂ => wpAny_pure ?_); refine wpAny_pure ?_
  refine wpAny_bind (wpAny_bind (wpAny_holding ?_)); show wpAny _ _ (Builtin.SmallTypes.nextOf (.ref i2) >>= _) _ _ _
  refine wpAny_bind (RZ.nextOf_tuple_item (s := { s with heap := h₂ }) ((h2.extBut hs₁.extBut D.i2z).extBut hs₂.extBut D.i12.symm) ((hl2.extBut hs₁.extBut D.l2z).extBut hs₂.extBut D.l2i1) hy fun h₃ h2₃ hs₃ => wpAny_pure ?_)
  refine wpAny_pure (wpAny_pure ?_); show wpAny _ _ (newTuple [x, y] >>= _) _ _ _; refine wpAny_bind (wpAny_newTuple ?_)
  have n3 : h₃.objs.size = s.heap.objs.size := by rw [hs₃.1, hs₂.1, hs₁.1]
  have z3 : ZA h₃ z TI TO o true := hs₃.extBut _ _ D.i2z.symm (hs₂.extBut _ _ D.i1z.symm hz₁)
  have k3 : ∀ c o, c ≠ z → c ≠ i1 → c ≠ i2 → s.heap.get? c = some o → h₃.get? c = some o := fun c o c1 c2 c3 e => hs₃.extBut _ _ c3 (hs₂.extBut _ _ c2 (hs₁.extBut _ _ c1 e))
  have p1 : h₃.IsTupleIter i1 l1 (k1 + 1) := h1₂.extBut hs₃.extBut D.i12
  refine wpAny_pure ⟨_, rfl, ?_⟩; show Q (.ref h₃.objs.size) _
  have hp : IsPair (h₃.push { cls := .type "tuple", data := .seq #[x, y] }) h₃.objs.size x y := Heap.get?_push_size _ rfl
  have hz4 : (h₃.push { cls := .type "tuple", data := .seq #[x, y] }).objs.size = h₃.objs.size + 1 := Heap.size_push ..
  rw [n3] at hp hz4 ⊢
  exact hQ _ (Heap.get?_push_of_some _ z3) (p1.at fun o e => Heap.get?_push_of_some _ e) (h2₃.at fun o e => Heap.get?_push_of_some _ e) hp hz4 fun c o c1 c2 c3 e => Heap.get?_push_of_some _ (k3 c o c1 c2 c3 e)
theorem zz_none {z TI TO : Addr} {f : Bool} (hz : ZA s.heap z TI TO .none f) (Q : Bool → Shared → Prop) (q : Q true s) : wpAny (model prog w) A (Builtin.SmallTypes.ownedTupleIsFree (.ref z)) Q E s := by
  unfold Builtin.SmallTypes.ownedTupleIsFree; exact wpAny_bind (wpAny_field hz rfl (x := .none) rfl (wpAny_pure q))
theorem zz_gone {a : Addr} {Q : Option Obj → Shared → Prop} (ho : s.heap.get? a = none) (h : Q none s) : wpAny (model prog w) A (loadIfAlive a) Q E s := by
  have q : Q (s.heap.get? a) s := by rw [ho]; exact h
  exact fun _ _ _ => q
theorem zz_dead {z TI TO T : Addr} {f : Bool} (hz : ZA s.heap z TI TO (rawInt T) f) (hT : s.heap.get? T = none) (Q : Bool → Shared → Prop) (q : Q true s) : wpAny (model prog w) A (Builtin.SmallTypes.ownedTupleIsFree (.ref z)) Q E s := by
  unfold Builtin.SmallTypes.ownedTupleIsFree; refine wpAny_bind (wpAny_field hz rfl (x := rawInt T) rfl ?_)
  show wpAny _ _ (loadIfAlive ((T : Int).toNat) >>= _) _ _ _; rw [Int.toNat_natCast]
  refine wpAny_bind (zz_gone hT ?_); simp only [Option.isNone_none, if_true]; exact wpAny_pure q
theorem zz_alive {z TI TO T : Addr} {f : Bool} {oT : Obj} (hz : ZA s.heap z TI TO (rawInt T) f) (hT : s.heap.get? T = some oT) (Q : Bool → Shared → Prop) (h : ∀ h', ZA h' z TI TO (rawInt T) true → Heap.SameBut z s.heap h' → Q false { s with heap := h' }) : wpAny (model prog w) A (Builtin.SmallTypes.ownedTupleIsFree (.ref z)) Q E s :=
  wpAny_tupleHeld_zip hz hT h
/-- the zip of the tuples at l1, l2 at its i-th turn -/
def ZSt (h : Heap) (z TI TO i1 i2 l1 l2 : Addr) (i : Nat) : Prop := (∃ o f, ZA h z TI TO o f ∧ (o = .none ∨ ∃ T : Addr, o = rawInt T)) ∧ IsPair h TI (.ref i1) (.ref i2) ∧ (∃ a b, IsPair h TO a b) ∧ h.IsTupleIter i1 l1 i ∧ h.IsTupleIter i2 l2 i
theorem zz_next {z TI TO i1 i2 l1 l2 : Addr} {k : Nat} {xs ys : Array Value} {x y : Value} {Q : Value → Shared → Prop} (D : ZipApart z TI TO i1 i2 l1 l2) (st : ZSt s.heap z TI TO i1 i2 l1 l2 k) (hl1 : s.heap.IsTuple l1 xs) (hl2 : s.heap.IsTuple l2 ys) (hx : xs[k]? = some x) (hy : ys[k]? = some y)
    (hQ : ∀ h', ZSt h' z TI TO i1 i2 l1 l2 (k + 1) → IsPair h' s.heap.objs.size x y → h'.objs.size = s.heap.objs.size + 1 → (∀ c o, c ≠ z → c ≠ TO → c ≠ i1 → c ≠ i2 → s.heap.get? c = some o → h'.get? c = some o) → Q (.ref s.heap.objs.size) { s with heap := h' }) :
    wpAny (model prog w) A (Builtin.SmallTypes.nextOf (.ref z)) Q E s := by
  obtain ⟨⟨o, f, hz, ho⟩, hTI, ⟨a, b, hTO⟩, h1, h2⟩ := st
  have hT : s.TypeIs (.ref z) "zip" := ⟨_, hz, rfl⟩
  have zl := Heap.lt_size hz; have tl := Heap.lt_size hTI; have ol := Heap.lt_size hTO
  have free : (∀ Q : Bool → Shared → Prop, Q true s → wpAny (model prog w) A.in1 (Builtin.SmallTypes.ownedTupleIsFree (.ref z)) Q E s) → wpAny (model prog w) A.in1 (Builtin.«zip.__next__» ⟨[.ref z], []⟩) (fun fin s' => ∃ v, fin = .done (.ret v) ∧ wpAny (model prog w) A (pure v) Q E s') E s := fun hf =>
    zz_free D hf hz hTI hTO h1 h2 hl1 hl2 hx hy fun h' q1 q2 q3 q4 q5 q6 q7 => wpAny_pure (hQ h' ⟨⟨_, _, q1, .inr ⟨_, rfl⟩⟩, q7 _ _ D.TIz D.TITO D.TIi1 D.TIi2 hTI, ⟨_, _, q2⟩, q3, q4⟩ q5 q6 q7)
  unfold Builtin.SmallTypes.nextOf
  refine wpAny_bind (wpAny_callSpecial?_slot (name := Str.ofString "__next__") hT F.slot_zip_next (wpAny_call_entry F.slot_zip_next hT F.entry_zip_next ?_ (F.args_zip_next_1 _)))
  rcases ho with rfl | ⟨T, rfl⟩
  · exact free (zz_none hz)
  · cases e : s.heap.get? T with
    | none => exact free (zz_dead hz e)
    | some oT => exact zz_held D (zz_alive hz e) hz hTI h1 h2 hl1 hl2 hx hy fun h' q1 q3 q4 q5 q6 q7 => wpAny_pure (hQ h' ⟨⟨_, _, q1, .inr ⟨_, rfl⟩⟩, q7 _ _ D.TIz D.TIi1 D.TIi2 hTI, ⟨_, _, q7 _ _ D.TOz D.TOi1 D.TOi2 hTO⟩, q3, q4⟩ q5 q6 fun c o c1 _ c3 c4 => q7 c o c1 c3 c4)
/-- the first tuple has come to its end -/
theorem zz_endfree {z TI TO i1 i2 l1 l2 : Addr} {k : Nat} {o : Value} {f : Bool} {xs : Array Value} {Q : Fin → Shared → Prop} (hh : A.handled = none) (D : ZipApart z TI TO i1 i2 l1 l2) (hfree : ∀ Q : Bool → Shared → Prop, Q true s → wpAny (model prog w) A (Builtin.SmallTypes.ownedTupleIsFree (.ref z)) Q E s)
    (hz : ZA s.heap z TI TO o f) (hTI : IsPair s.heap TI (.ref i1) (.ref i2)) (h1 : s.heap.IsTupleIter i1 l1 k) (hl1 : s.heap.IsTuple l1 xs) (hx : xs[k]? = none)
    (hE : ∀ h' e, (∀ c o, c ≠ z → c ≠ i1 → s.heap.get? c = some o → h'.get? c = some o) → (∃ o, h'.get? e = some o ∧ o.cls = .type "StopIteration") → E (.ref e) { s with heap := h' }) : wpAny (model prog w) A (Builtin.«zip.__next__» ⟨[.ref z], []⟩) Q E s := by
  show wpAny _ _ (field (.ref z) 2 >>= _) _ _ _; refine wpAny_bind (wpAny_field hz rfl (x := .bool false) rfl ?_)
  show wpAny _ _ (field (.ref z) 3 >>= _) _ _ _; refine wpAny_bind (wpAny_field hz rfl (x := .ref TI) rfl ?_)
  refine wpAny_bind (wpAny_seqItems hTI rfl ?_); show wpAny _ _ (Builtin.SmallTypes.ownedTupleIsFree (.ref z) >>= _) _ _ _
  refine wpAny_bind (hfree _ ?_); simp only [if_true]
  refine wpAny_bind (wpAny_rule ?_); refine wpAny_bind (wpAny_field hz rfl (x := .ref TO) rfl ?_)
  refine wpAny_bind (wpAny_setField_rec hz (by simp) fun h₁ hz₁ hs₁ => ?_); replace hz₁ : ZA h₁ z TI TO .ellipsis f := hz₁
  refine wpAny_bind ?_; simp only [List.zipIdx_cons, List.zipIdx_nil, List.forIn_cons, List.forIn_nil]
  refine wpAny_bind (wpAny_bind (wpAny_onRaise ?_)); show wpAny _ _ (Builtin.SmallTypes.nextOf (.ref i1) >>= _) _ _ _
  refine wpAny_bind (RZ.nextOf_tuple_end hh (h1.extBut hs₁.extBut D.i1z) (hl1.extBut hs₁.extBut D.l1z) hx fun h₂ e hs₂ he => ?_)
  obtain ⟨oe, hoe, hce⟩ := he
  have hz₂ : ZA h₂ z TI TO .ellipsis f := hs₂ _ _ D.i1z.symm hz₁
  have hez : e ≠ z := fun x => by subst x; rw [hz₂] at hoe; cases hoe; simp at hce
  refine wpAny_setField_rec hz₂ (by simp) fun h₃ _ hs₃ => hE h₃ e (fun c o c1 c3 x => hs₃.extBut _ _ c1 (hs₂ _ _ c3 (hs₁.extBut _ _ c1 x))) ⟨oe, hs₃.extBut _ _ hez hoe, hce⟩
theorem zz_endheld {z TI TO i1 i2 l1 l2 : Addr} {k : Nat} {o : Value} {f : Bool} {xs : Array Value} {Q : Fin → Shared → Prop} (hh : A.handled = none) (D : ZipApart z TI TO i1 i2 l1 l2) (hheld : ∀ Q : Bool → Shared → Prop, (∀ h', ZA h' z TI TO o true → Heap.SameBut z s.heap h' → Q false { s with heap := h' }) → wpAny (model prog w) A (Builtin.SmallTypes.ownedTupleIsFree (.ref z)) Q E s)
    (hz : ZA s.heap z TI TO o f) (hTI : IsPair s.heap TI (.ref i1) (.ref i2)) (h1 : s.heap.IsTupleIter i1 l1 k) (hl1 : s.heap.IsTuple l1 xs) (hx : xs[k]? = none)
    (hE : ∀ h' e, (∀ c o, c ≠ z → c ≠ i1 → s.heap.get? c = some o → h'.get? c = some o) → (∃ o, h'.get? e = some o ∧ o.cls = .type "StopIteration") → E (.ref e) { s with heap := h' }) : wpAny (model prog w) A (Builtin.«zip.__next__» ⟨[.ref z], []⟩) Q E s := by
  show wpAny _ _ (field (.ref z) 2 >>= _) _ _ _; refine wpAny_bind (wpAny_field hz rfl (x := .bool false) rfl ?_)
  show wpAny _ _ (field (.ref z) 3 >>= _) _ _ _; refine wpAny_bind (wpAny_field hz rfl (x := .ref TI) rfl ?_)
  refine wpAny_bind (wpAny_seqItems hTI rfl ?_); show wpAny _ _ (Builtin.SmallTypes.ownedTupleIsFree (.ref z) >>= _) _ _ _
  refine wpAny_bind (hheld _ fun h₁ hz₁ hs₁ => ?_); simp only [Bool.false_eq_true, if_false]
  refine wpAny_bind ?_; rw [← Array.forIn_toList]; simp only [List.forIn_cons, List.forIn_nil]
  refine wpAny_bind (wpAny_bind (wpAny_holding ?_)); show wpAny _ _ (Builtin.SmallTypes.nextOf (.ref i1) >>= _) _ _ _
  exact wpAny_bind (RZ.nextOf_tuple_end (s := { s with heap := h₁ }) hh (h1.extBut hs₁.extBut D.i1z) (hl1.extBut hs₁.extBut D.l1z) hx fun h₂ e hs₂ he => hE h₂ e (fun c o c1 c3 x => hs₂ _ _ c3 (hs₁.extBut _ _ c1 x)) he)
theorem zz_end {z TI TO i1 i2 l1 l2 : Addr} {k : Nat} {xs : Array Value} {Q : Value → Shared → Prop} (hh : A.handled = none) (D : ZipApart z TI TO i1 i2 l1 l2) (st : ZSt s.heap z TI TO i1 i2 l1 l2 k) (hl1 : s.heap.IsTuple l1 xs) (hx : xs[k]? = none)
    (hE : ∀ h' e, (∀ c o, c ≠ z → c ≠ i1 → s.heap.get? c = some o → h'.get? c = some o) → (∃ o, h'.get? e = some o ∧ o.cls = .type "StopIteration") → E (.ref e) { s with heap := h' }) : wpAny (model prog w) A (Builtin.SmallTypes.nextOf (.ref z)) Q E s := by
  obtain ⟨⟨o, f, hz, ho⟩, hTI, ⟨a, b, hTO⟩, h1, h2⟩ := st
  have hT : s.TypeIs (.ref z) "zip" := ⟨_, hz, rfl⟩
  unfold Builtin.SmallTypes.nextOf
  refine wpAny_bind (wpAny_callSpecial?_slot (name := Str.ofString "__next__") hT F.slot_zip_next (wpAny_call_entry F.slot_zip_next hT F.entry_zip_next ?_ (F.args_zip_next_1 _)))
  rcases ho with rfl | ⟨T, rfl⟩
  · exact zz_endfree hh D (zz_none hz) hz hTI h1 hl1 hx hE
  · cases e : s.heap.get? T with
    | none => exact zz_endfree hh D (zz_dead hz e) hz hTI h1 hl1 hx hE
    | some oT => exact zz_endheld hh D (zz_alive hz e) hz hTI h1 hl1 hx hE
/-- the next of an enumerate over what gives an item by any rule R -/
theorem ez_next {e it : Addr} {c : Int} {old : Value} {Q : Value → Shared → Prop} {R : Value → Heap → Tok → Prop} (he : IsEnum s.heap e it c old)
    (hn : ∀ (Q : Value → Shared → Prop), (∀ x h₁ tk, R x h₁ tk → IsEnum h₁ e it c old → Q x { s with heap := h₁, toks := tk }) → wpAny (model prog w) A (Builtin.SmallTypes.nextOf (.ref it)) Q E s)
    (hQ : ∀ x h₁ tk0 h' tk, R x h₁ tk0 → IsEnumOut h' e it (c + 1) x h₁.objs.size → h'.get? h₁.objs.size = some { cls := .type "tuple", data := .seq #[.int c tk, x] } → h'.objs.size = h₁.objs.size + 1 →
      (∀ b o, b ≠ e → h₁.get? b = some o → h'.get? b = some o) → Q (.ref h₁.objs.size) { s with heap := h', toks := tk + 1 }) :
    wpAny (model prog w) A (Builtin.«enumerate.__next__» ⟨[.ref e], []⟩) (fun fin s' => ∃ v, fin = .done (.ret v) ∧ Q v s') E s := by
  obtain ⟨hp, g, d, tk₀, os⟩ := s
  show wpAny _ _ (field (.ref e) 2 >>= _) _ _ _; refine wpAny_bind (wpAny_field he rfl (x := .ref it) rfl ?_)
  refine wpAny_bind (hn _ fun x h₁ tk hR he₁ => ?_)
  show wpAny _ _ (field (.ref e) 3 >>= _) _ _ ⟨h₁, g, d, tk, os⟩; refine wpAny_bind (wpAny_field he₁ rfl (x := rawInt c) rfl ?_)
  show wpAny _ _ (field (.ref e) 4 >>= _) _ _ ⟨h₁, g, d, tk, os⟩; refine wpAny_bind (wpAny_field he₁ rfl (x := .none) rfl ?_)
  show wpAny _ _ (mkInt c >>= _) _ _ ⟨h₁, g, d, tk, os⟩; refine wpAny_bind (wpAny_mkInt ?_)
  show wpAny _ _ (setField (.ref e) 3 (rawInt (c + 1)) >>= _) _ _ ⟨h₁, g, d, tk + 1, os⟩; refine wpAny_bind (wpAny_setField_rec he₁ (by simp) fun h₂ he₂ hs₂ => ?_)
  replace he₂ : IsEnum h₂ e it (c + 1) old := he₂; replace hs₂ : Heap.SameBut e h₁ h₂ := hs₂
  show wpAny _ _ (setField (.ref e) 4 .none >>= _) _ _ ⟨h₂, g, d, tk + 1, os⟩; refine wpAny_bind (wpAny_setField_rec he₂ (by simp) fun h₃ he₃ hs₃ => ?_)
  replace he₃ : IsEnum h₃ e it (c + 1) old := he₃; replace hs₃ : Heap.SameBut e h₂ h₃ := hs₃
  show wpAny _ _ (newTuple [.int c tk, x] >>= _) _ _ ⟨h₃, g, d, tk + 1, os⟩; refine wpAny_bind (wpAny_newTuple ?_)
  have he₄ : IsEnum (h₃.push { cls := .type "tuple", data := .seq #[.int c tk, x] }) e it (c + 1) old := Heap.get?_push_of_some _ he₃
  generalize hh₄ : h₃.push { cls := .type "tuple", data := .seq #[.int c tk, x] } = h₄ at he₄
  have n3 : h₃.objs.size = h₁.objs.size := by rw [hs₃.1, hs₂.1]
  have el : e < h₁.objs.size := Heap.lt_size he₁
  have t4 : h₄.get? h₁.objs.size = some { cls := .type "tuple", data := .seq #[.int c tk, x] } := by rw [← hh₄, ← n3]; exact Heap.get?_push_size _ rfl
  have n4 : h₄.objs.size = h₁.objs.size + 1 := by rw [← hh₄, Heap.size_push, n3]
  have k4 : ∀ b o, b ≠ e → h₁.get? b = some o → h₄.get? b = some o := fun b o hbe hb => by rw [← hh₄]; exact Heap.get?_push_of_some _ (hs₃.extBut b o hbe (hs₂.extBut b o hbe hb))
  show wpAny _ _ (Builtin.SmallTypes.ownedTupleIsFree (.ref e) >>= _) _ _ ⟨h₄, g, d, tk + 1, os⟩; rw [n3]; clear hh₄ he₃ hs₃ he₂ hs₂ n3 h₃ h₂
  refine wpAny_bind ?_; unfold Builtin.SmallTypes.ownedTupleIsFree; refine wpAny_bind (wpAny_field he₄ rfl (x := .none) rfl (wpAny_pure ?_))
  simp only [if_true]; refine wpAny_bind (wpAny_rule ?_); refine wpAny_bind (wpAny_field he₄ rfl (x := old) rfl ?_)
  refine wpAny_bind (wpAny_setField_rec he₄ (by simp) fun h₅ he₅ hs₅ => ?_); replace he₅ : IsEnum h₅ e it (c + 1) x := he₅; replace hs₅ : Heap.SameBut e h₄ h₅ := hs₅
  show wpAny _ _ (Builtin.SmallTypes.ownedTupleHandOut (.ref e) (.ref h₁.objs.size) >>= _) _ _ ⟨h₅, g, d, tk + 1, os⟩; refine wpAny_bind ?_; unfold Builtin.SmallTypes.ownedTupleHandOut
  refine wpAny_bind (wpAny_setField_rec he₅ (by simp) fun h₆ he₆ hs₆ => ?_); replace he₆ : IsEnumOut h₆ e it (c + 1) x h₁.objs.size := he₆; replace hs₆ : Heap.SameBut e h₅ h₆ := hs₆
  refine wpAny_setField_rec he₆ (by simp) fun h₇ he₇ hs₇ => ?_; replace he₇ : IsEnumOut h₇ e it (c + 1) x h₁.objs.size := he₇; replace hs₇ : Heap.SameBut e h₆ h₇ := hs₇
  have k7 : ∀ b o, b ≠ e → h₄.get? b = some o → h₇.get? b = some o := fun b o hbe y => hs₇.extBut b o hbe (hs₆.extBut b o hbe (hs₅.extBut b o hbe y))
  exact wpAny_bind (wpAny_letGo (wpAny_pure ⟨_, rfl, hQ x h₁ tk h₇ tk hR he₇ (k7 _ _ (Nat.ne_of_gt el) t4) (by rw [hs₇.1, hs₆.1, hs₅.1, n4]) fun b o hbe hb => k7 b o hbe (k4 b o hbe hb)⟩))
theorem ez_py {e it : Addr} {c : Int} {old : Value} {Q : Option Value → Shared → Prop} {R : Value → Heap → Tok → Prop} (he : IsEnum s.heap e it c old)
    (hn : ∀ (E : Value → Shared → Prop) (Q : Value → Shared → Prop), (∀ x h₁ tk, R x h₁ tk → IsEnum h₁ e it c old → Q x { s with heap := h₁, toks := tk }) → wpAny (model prog w) A.in1 (Builtin.SmallTypes.nextOf (.ref it)) Q E s)
    (hQ : ∀ x h₁ tk0 h' tk, R x h₁ tk0 → IsEnumOut h' e it (c + 1) x h₁.objs.size → h'.get? h₁.objs.size = some { cls := .type "tuple", data := .seq #[.int c tk, x] } → h'.objs.size = h₁.objs.size + 1 →
      (∀ b o, b ≠ e → h₁.get? b = some o → h'.get? b = some o) → Q (some (.ref h₁.objs.size)) { s with heap := h', toks := tk + 1 }) : wpAny (model prog w) A (pyNext (.ref e)) Q E s := by
  have hT : s.TypeIs (.ref e) "enumerate" := ⟨_, he, rfl⟩
  unfold pyNext
  exact wpAny_bind (wpAny_attempt (wpAny_callSpecial?_slot (name := Str.ofString "__next__") hT F.slot_enumerate_next (wpAny_call_entry F.slot_enumerate_next hT F.entry_enumerate_next (ez_next he (hn _) fun x h₁ tk0 h' tk a b c d k => wpAny_pure (hQ x h₁ tk0 h' tk a b c d k)) (F.args_enumerate_next_1 _))))
theorem ez_end {e it : Addr} {c : Int} {old : Value} {Q : Option Value → Shared → Prop} {R : Heap → Prop} (he : IsEnum s.heap e it c old)
    (hn : ∀ (E : Value → Shared → Prop) (Q : Value → Shared → Prop), (∀ h' x, R h' → (∃ o, h'.get? x = some o ∧ o.cls = .type "StopIteration") → E (.ref x) { s with heap := h' }) → wpAny (model prog w) A.in1 (Builtin.SmallTypes.nextOf (.ref it)) Q E s)
    (hQ : ∀ h', R h' → Q none { s with heap := h' }) : wpAny (model prog w) A (pyNext (.ref e)) Q E s := by
  have hT : s.TypeIs (.ref e) "enumerate" := ⟨_, he, rfl⟩
  unfold pyNext
  refine wpAny_bind (wpAny_attempt (wpAny_callSpecial?_slot (name := Str.ofString "__next__") hT F.slot_enumerate_next (wpAny_call_entry F.slot_enumerate_next hT F.entry_enumerate_next ?_ (F.args_enumerate_next_1 _))))
  show wpAny _ _ (field (.ref e) 2 >>= _) _ _ _; refine wpAny_bind (wpAny_field he rfl (x := .ref it) rfl ?_)
  refine wpAny_bind (hn _ _ fun h' x hR ⟨o, ho, hc⟩ => ?_)
  refine wpAny_bind (wpAny_isInstance (T := "StopIteration") (b := true) ⟨o, ho, hc⟩ isSubtype_stop ?_); exact wpAny_pure (hQ _ hR)
end
/-- enumerate(zip(a, b)): each pair new, within a new pair -/
def Jez (K : PySem.W.Frag) (a b : Addr) : It :=
  ⟨fun i H => ∃ (xs ys : List V) (x y : V), SqT K H a xs ∧ SqT K H b ys ∧ xs[i]? = some x ∧ ys[i]? = some y,
    fun i H v H' => ∃ T1 T2 x y, v = .ref T2 ∧ H T1 = none ∧ upd H T1 (.tup [x, y]) T2 = none ∧ H' = upd (upd H T1 (.tup [x, y])) T2 (.tup [.int (i : Nat), .ref T1]) ∧ (∀ xs, SqT K H a xs → xs[i]? = some x) ∧ ∀ ys, SqT K H b ys → ys[i]? = some y,
    fun i H => ∃ xs : List V, SqT K H a xs ∧ xs.length ≤ i⟩
theorem turn_ez {P : Program} {w : World} {K : PySem.W.Frag} {elts : List Expr} {kk : Nat} {tpos : Pos} {a b z TI TO i1 i2 e : Addr} (D : ZipApart z TI TO i1 i2 a b) (hez : e ∉ [z, TI, TO, i1, i2]) :
    Turn P w K (.Tuple elts kk tpos) (Jez K a b) [e, z, TI, TO, i1, i2] e (fun i h => (∃ old, IsEnum h e z ((i : Nat) : Int) old) ∧ ZSt h z TI TO i1 i2 a b i) where
  mem := by simp
  obj := fun i h st q hq => by
    obtain ⟨⟨old, he⟩, ⟨o, f, hz, _⟩, hTI, ⟨x, y, hTO⟩, ⟨o1, e1, _, d1⟩, ⟨o2, e2, _, d2⟩⟩ := st
    have e' : q = e ∨ q = z ∨ q = TI ∨ q = TO ∨ q = i1 ∨ q = i2 := by simpa using hq
    rcases e' with rfl | rfl | rfl | rfl | rfl | rfl
    · exact ⟨_, he, fun v q => nomatch q⟩
    · exact ⟨_, hz, fun v q => nomatch q⟩
    · exact ⟨_, hTI, fun v q => nomatch q⟩
    · exact ⟨_, hTO, fun v q => nomatch q⟩
    · exact ⟨o1, e1, fun v q => by rw [d1] at q; cases q⟩
    · exact ⟨o2, e2, fun v q => by rw [d2] at q; cases q⟩
  keep := fun i h h' st k => by
    obtain ⟨⟨old, he⟩, ⟨o, f, hz, ho⟩, hTI, ⟨x, y, hTO⟩, h1, h2⟩ := st
    exact ⟨⟨old, k e (by simp) _ he⟩, ⟨o, f, k z (by simp) _ hz, ho⟩, k TI (by simp) _ hTI, ⟨x, y, k TO (by simp) _ hTO⟩, h1.at fun o q => k i1 (by simp) o q, h2.at fun o q => k i2 (by simp) o q⟩
  item := by
    intro X hP hw hK hc i pins s σ H E I hf st hg
    subst hP hw hK
    obtain ⟨⟨old, he⟩, hZ⟩ := st
    obtain ⟨xs, ys, x, y, hqx, hqy, hx, hy⟩ := hg
    obtain ⟨its, rv, p, _⟩ := I.tuple hqx
    obtain ⟨its2, rv2, p2, _⟩ := I.tuple hqy
    obtain ⟨u1, hu1, ru1⟩ := rv.get hx
    obtain ⟨u2, hu2, ru2⟩ := rv2.get hy
    have hel : e < s.heap.objs.size := Heap.lt_size he
    have hz0 := hZ
    obtain ⟨⟨o0, f0, hz, _⟩, hTI, ⟨x0, y0, hTO⟩, h1, h2⟩ := hz0
    simp only [List.mem_cons, List.not_mem_nil, or_false, not_or] at hez
    obtain ⟨ez, eTI, eTO, ei1, ei2⟩ := hez
    refine ez_py (R := fun v h₁ tk => v = .ref s.heap.objs.size ∧ tk = s.toks ∧ ZSt h₁ z TI TO i1 i2 a b (i + 1) ∧ IsPair h₁ s.heap.objs.size u1 u2 ∧ h₁.objs.size = s.heap.objs.size + 1 ∧ (∀ c o, c ≠ z → c ≠ TO → c ≠ i1 → c ≠ i2 → s.heap.get? c = some o → h₁.get? c = some o)) he
      (fun E' Q' hq => zz_next D hZ (show s.heap.IsTuple a its.toArray from p) (show s.heap.IsTuple b its2.toArray from p2) (by simpa using hu1) (by simpa using hu2) fun h' a1 a2 a3 a4 => hq _ h' _ ⟨rfl, rfl, a1, a2, a3, a4⟩ (a4 _ _ ez eTO ei1 ei2 he)) ?_
    rintro v h₁ tk0 h' tk ⟨rfl, rfl, hZ1, hP1, hn1, hk1⟩ ho hT hsz hk
    refine ⟨_, rfl, wpAny_letOwnedTupleGo_enum (s := { s with heap := h', toks := tk + 1 }) ho fun h'' he' sb => ?_⟩
    have kk1 : ∀ q o, q ≠ e → h₁.get? q = some o → h''.get? q = some o := fun q o hq y => (sb.2 q hq).trans (hk q o hq y)
    have T1o : h''.get? s.heap.objs.size = some { cls := .type "tuple", data := .seq #[u1, u2] } := kk1 _ _ (Nat.ne_of_gt hel) hP1
    have T2o : h''.get? h₁.objs.size = some { cls := .type "tuple", data := .seq #[.int i tk, .ref s.heap.objs.size] } := (sb.2 _ (by rw [hn1]; exact Nat.ne_of_gt (Nat.lt_succ_of_lt hel))).trans hT
    have new1 : ObjOk X.prog X.w (upd H s.heap.objs.size (.tup [x, y])) h₁ s.heap.objs.size (.tup [x, y]) := ⟨by show 2 ≤ sizeLine; decide, [u1, u2], .cons ru1 (.cons ru2 .nil), ⟨_, hP1, rfl, _, rfl⟩⟩
    have I1 : Inv X pins σ (upd H s.heap.objs.size (.tup [x, y])) { s with heap := h₁, toks := s.toks } := I.turnedNew (t' := s.toks) (ch := [e, z, TI, TO, i1, i2]) (fun q o hq y => hk1 q o (fun t => hq (by simp [t])) (fun t => hq (by simp [t])) (fun t => hq (by simp [t])) (fun t => hq (by simp [t])) y) hf (Nat.le_refl _) new1
    have n1 : H s.heap.objs.size = none := I.hok.fresh (Nat.le_refl _)
    have n2 : upd H s.heap.objs.size (.tup [x, y]) h₁.objs.size = none := I1.hok.fresh (Nat.le_refl _)
    have chl : ∀ q ∈ [e, z, TI, TO, i1, i2], q < s.heap.objs.size := fun q hqm => by
      have e' : q = e ∨ q = z ∨ q = TI ∨ q = TO ∨ q = i1 ∨ q = i2 := by simpa using hqm
      rcases e' with rfl | rfl | rfl | rfl | rfl | rfl
      · exact hel
      · exact Heap.lt_size hz
      · exact Heap.lt_size hTI
      · exact Heap.lt_size hTO
      · obtain ⟨_, q1, _⟩ := h1; exact Heap.lt_size q1
      · obtain ⟨_, q2, _⟩ := h2; exact Heap.lt_size q2
    have hf1 : ∀ q ∈ [e, z, TI, TO, i1, i2], FpOk X pins (upd H s.heap.objs.size (.tup [x, y])) q := fun q hqm => ⟨by rw [upd_ne (Nat.ne_of_lt (chl q hqm))]; exact (hf q hqm).1, (hf q hqm).2⟩
    have new2 : ObjOk X.prog X.w (upd (upd H s.heap.objs.size (.tup [x, y])) h₁.objs.size (.tup [.int (i : Nat), .ref s.heap.objs.size])) h'' h₁.objs.size (.tup [.int (i : Nat), .ref s.heap.objs.size]) :=
      ⟨by show 2 ≤ sizeLine; decide, [.int i tk, .ref s.heap.objs.size], .cons ⟨_, rfl⟩ (.cons rfl .nil), ⟨_, T2o, rfl, _, rfl⟩⟩
    have I2 : Inv X pins σ (upd (upd H s.heap.objs.size (.tup [x, y])) h₁.objs.size (.tup [.int (i : Nat), .ref s.heap.objs.size])) { s with heap := h'', toks := tk + 1 } := I1.turnedNew (t' := tk + 1) (ch := [e, z, TI, TO, i1, i2]) (fun q o hq y => kk1 q o (fun t => hq (by simp [t])) y) hf1 (Nat.le_refl _) new2
    refine ⟨.ref h₁.objs.size, _, I2, rfl, ⟨_, _, x, y, rfl, n1, n2, rfl, fun l hl => by rw [I.tuple_inj hl hqx]; exact hx, fun l hl => by rw [I.tuple_inj hl hqy]; exact hy⟩, ⟨⟨.ref s.heap.objs.size, ?_⟩, ?_⟩, fun q hqm => ?_⟩
    · have e1 : ((i + 1 : Nat) : Int) = (i : Int) + 1 := by omega
      rw [e1]; exact he'
    · obtain ⟨⟨o, f, y1, y0⟩, y2, ⟨c1, c2, y3⟩, y4, y5⟩ := hZ1
      exact ⟨⟨o, f, kk1 _ _ (Ne.symm ez) y1, y0⟩, kk1 _ _ (Ne.symm eTI) y2, ⟨c1, c2, kk1 _ _ (Ne.symm eTO) y3⟩, y4.at fun o q => kk1 _ o (Ne.symm ei1) q, y5.at fun o q => kk1 _ o (Ne.symm ei2) q⟩
    · have hlt := chl q hqm
      rw [upd_ne (by rw [hn1]; exact Nat.ne_of_lt (Nat.lt_succ_of_lt hlt)), upd_ne (Nat.ne_of_lt hlt)]
      exact (hf q hqm).1
  done := by
    intro X hP hw hK hc i pins s σ H E I hf st hg
    subst hP hw hK
    obtain ⟨⟨old, he⟩, hZ⟩ := st
    obtain ⟨xs, hq, hl⟩ := hg
    obtain ⟨its, rv, p, _⟩ := I.tuple hq
    have hll := rv.length
    refine ez_end (R := fun h' => ∀ c o, c ≠ z → c ≠ i1 → s.heap.get? c = some o → h'.get? c = some o) he (fun E' Q' hE => zz_end (I.ok.hd hc) D hZ (show s.heap.IsTuple a its.toArray from p) (by simp; omega) fun h' x k q => hE h' x k q) fun h' k => ⟨rfl, ?_⟩
    exact I.turnedL (t' := s.toks) (ch := [e, z, TI, TO, i1, i2]) (fun q o hq y => k q o (fun t => hq (by simp [t])) (fun t => hq (by simp [t])) y) hf
  self := fun A i s Q E st h => let ⟨⟨_, he⟩, _⟩ := st; wpAny_pyIter_enum he h
theorem meets_enumerate_newZ (z TI TO : Addr) (o : Value) :
    Meets (Builtin.«enumerate.__new__» ⟨[.type "enumerate", .ref z], []⟩) (fun _ R s => IsZip s.heap z TI TO o ∧
      R (.ok (.ret (.ref s.heap.objs.size))) { s with heap := s.heap.push { cls := .type "enumerate", data := .fields #[.none, .bool false, .ref z, rawInt 0, .none, .none] } }) := .of_wp fun prog w A R s h => by
    obtain ⟨hp, g, d, tk, os⟩ := s; obtain ⟨hz, h⟩ := h; have hsub := sub_enumerate
    have q1 : ∀ {A' : Around} {E : Value → Shared → Prop} {Q : Value → Shared → Prop}, Q (.ref z) ⟨hp, g, d, tk, os⟩ → wpAny (model prog w) A' (pyIter (.ref z)) Q E ⟨hp, g, d, tk, os⟩ := fun q => wpAny_pyIter_zip (s := ⟨hp, g, d, tk, os⟩) hz q
    wp_walk using AutoSeq1.wpAny_loadPart' hz
    refine wpAny_stack_any fun st => wpAny_pure ?_; split
    · rename_i c _ _ _ _ _; cases (c == Value.type "enumerate")
      · wp_walk using AutoSeq1.wpAny_loadPart' hz, q1
        exact ⟨_, rfl, h⟩
      · wp_walk using AutoSeq1.wpAny_loadPart' hz, q1
        exact ⟨_, rfl, h⟩
    · wp_walk using AutoSeq1.wpAny_loadPart' hz, q1
      exact ⟨_, rfl, h⟩
theorem call_enumerate_zip {prog : Program} {w : World} {A : Around} {E : Value → Shared → Prop} {s : Shared} {z TI TO : Addr} {o : Value} {Q : Value → Shared → Prop} (hz : IsZip s.heap z TI TO o)
    (h : ∀ h', IsEnum h' s.heap.objs.size z 0 .none → (∀ b o, s.heap.get? b = some o → h'.get? b = some o) → Q (.ref s.heap.objs.size) { s with heap := h' }) : wpAny (model prog w) A (call (.type "enumerate") [.ref z]) Q E s := by
  refine callType_new F.called_enumerate (by decide) (F.typeCall_enumerate_1 _) (F.newCall_enumerate_1 _) (fun obj => F.args_object_init_2 obj _) F.entry_enumerate_new (meets_enumerate_newZ z TI TO o) ⟨hz, ?_⟩
  have he : IsEnum (s.heap.push { cls := .type "enumerate", data := .fields #[.none, .bool false, .ref z, rawInt 0, .none, .none] }) s.heap.objs.size z 0 .none := Heap.get?_push_size _ rfl
  exact ⟨⟨_, he, rfl⟩, h _ he fun b o x => Heap.get?_push_of_some _ x⟩
theorem ez_apart {N : Nat} : N + 5 ∉ [N + 4, N + 2, N + 3, N, N + 1] := by
  simp
def iEz (K : PySem.W.Frag) (ta : TA) : TI := fun σ H R => ta σ H fun vs H1 => ∃ a b xs ys, vs = [.ref a, .ref b] ∧ SqT K H1 a xs ∧ SqT K H1 b ys ∧ R (Jez K a b) H1
theorem pi_ez {X : Cx} {e e2 : Expr} {ta : TA} {p p' pos pos' tpos : Pos} {elts : List Expr} {kk : Nat} (hg : Gl X "enumerate") (hm : X.mg "enumerate" = none) (hgz : Gl X "zip") (hmz : X.mg "zip" = none) (ha : PA X [e, e2] ta)
    (hs1 : starEach [.Call (.Name "zip" p') [e, e2] [] pos'] X.env = [(false, eval (.Call (.Name "zip" p') [e, e2] [] pos') X.env)] := by rfl)
    (hs : starEach [e, e2] X.env = (false, eval e X.env) :: starEach [e2] X.env := by rfl) (hpl : (backTo pos' (starEach [e2] X.env)).any (·.1) = false := by rfl) :
    PI X (.Tuple elts kk tpos) (.Call (.Name "enumerate" p) [.Call (.Name "zip" p') [e, e2] [] pos'] [] pos) (iEz X.K ta) := by
  refine ⟨fun pins s σ H R I h => ?_⟩
  refine Call_ (ld_blt I hg hm boot_enumerate (PyProof.Rows.callWith_type1 ?_ hs1 rfl))
  rw [hs1]
  refine Calls.spliced_cons (Call_ (ld_blt I hgz hmz PyProof.Rows.boot_zip (PyProof.Rows.callWith_type1 (thn (ha.run pos' pins s σ H _ I h) fun us s1 ⟨vs, H1, I1, r1, q1⟩ => ?_) hs hpl)))
  obtain ⟨a, b, xs, ys, ex, hqx, hqy, q⟩ := q1
  subst ex
  cases r1 with
  | cons r rr =>
    cases rr with
    | cons r' rr =>
      cases rr
      cases r
      cases r'
      obtain ⟨its, rv, p1, _⟩ := I1.tuple hqx
      obtain ⟨its2, rv2, p2, _⟩ := I1.tuple hqy
      obtain ⟨o1, ho1, _⟩ := id p1
      obtain ⟨o2, ho2, _⟩ := id p2
      refine RZ.call_zipT (show s1.heap.IsTuple a its.toArray from p1) (show s1.heap.IsTuple b its2.toArray from p2) fun h' hz hTI hTO h1 h2 hsz hk => Calls.spliced_nil (call_enumerate_zip (s := { s1 with heap := h' }) hz fun h'' he hk2 => wpAny_pyIter_enum he ?_)
      have hsz' : ({ s1 with heap := h' } : Shared).heap.objs.size = s1.heap.objs.size + 5 := hsz
      rw [hsz'] at he ⊢
      have I2 : Inv X pins σ H1 { s1 with heap := h'' } := I1.kept (t' := s1.toks) fun b u y => hk2 b u (hk b u y)
      refine ⟨s1.heap.objs.size + 5, [s1.heap.objs.size + 5, s1.heap.objs.size + 4, s1.heap.objs.size + 2, s1.heap.objs.size + 3, s1.heap.objs.size, s1.heap.objs.size + 1], _, _, H1, rfl, I2, turn_ez (PySem.W.ktu_apart s1.heap.objs.size a b (Heap.lt_size ho1) (Heap.lt_size ho2)) ez_apart,
        ⟨⟨.none, he⟩, ⟨.none, false, hk2 _ _ hz, .inl rfl⟩, hk2 _ _ hTI, ⟨_, _, hk2 _ _ hTO⟩, h1.at fun o q => hk2 _ o q, h2.at fun o q => hk2 _ o q⟩, fun c hcm => ?_, q⟩
      have hle : s1.heap.objs.size ≤ c := by
        have e' : c = s1.heap.objs.size + 5 ∨ c = s1.heap.objs.size + 4 ∨ c = s1.heap.objs.size + 2 ∨ c = s1.heap.objs.size + 3 ∨ c = s1.heap.objs.size ∨ c = s1.heap.objs.size + 1 := by simpa using hcm
        rcases e' with rfl | rfl | rfl | rfl | rfl | rfl <;> first | exact Nat.le_refl _ | exact Nat.le_add_right _ _
      exact I1.fpOk hle (I1.hok.fresh hle)
variable {K : PySem.W.Frag} {X : Cx} {ρ : Rho} {M : Mm} {Q : QE} {pos : Pos}
/-- number, pair -/
def ezs : Nat → List Int → List Int → List (Int × Int × Int)
  | k, x :: xs, y :: ys => ((k : Int), x, y) :: ezs (k + 1) xs ys
  | _, _, _ => []
def pIP (p : Int × Int × Int) : PyData := .tuple [.int p.1, .tuple [.int p.2.1, .int p.2.2]]
theorem ezs_len : ∀ (k : Nat) (xs ys : List Int), (ezs k xs ys).length = min xs.length ys.length
  | _, [], _ => by simp [ezs]
  | _, _ :: _, [] => by simp [ezs]
  | k, x :: xs, y :: ys => by simp only [ezs, List.length_cons, ezs_len (k + 1) xs ys]; omega
theorem ezs_get : ∀ (k : Nat) (xs ys : List Int) (i : Nat) (p : Int × Int × Int), (ezs k xs ys)[i]? = some p → p.1 = (k : Int) + i ∧ xs[i]? = some p.2.1 ∧ ys[i]? = some p.2.2
  | _, [], _, i, p, h => by simp [ezs] at h
  | _, _ :: _, [], i, p, h => by simp [ezs] at h
  | k, x :: xs, y :: ys, 0, p, h => by simp only [ezs, List.getElem?_cons_zero, Option.some.injEq] at h; subst h; exact ⟨by simp, rfl, rfl⟩
  | k, x :: xs, y :: ys, i + 1, p, h => by
    obtain ⟨h1, h2, h3⟩ := ezs_get (k + 1) xs ys i p (by simpa [ezs] using h)
    exact ⟨by rw [h1]; omega, by simpa using h2, by simpa using h3⟩
theorem di_ezI {a b : Expr} {p p' pos' tpos : Pos} {elts : List Expr} {kk : Nat} {Q : List PyData → Mm → Prop} (hg : Gl X "enumerate") (hm : X.mg "enumerate" = none) (hgz : Gl X "zip") (hmz : X.mg "zip" = none)
    (h : DA X [a, b] ρ M fun es M1 => ∃ xs ys : List Int, es = [.d (tN xs), .d (tN ys)] ∧ xs.length ≤ ys.length ∧ Q ((ezs 0 xs ys).map pIP) M1)
    (hs1 : starEach [.Call (.Name "zip" p') [a, b] [] pos'] X.env = [(false, eval (.Call (.Name "zip" p') [a, b] [] pos') X.env)] := by rfl)
    (hs : starEach [a, b] X.env = (false, eval a X.env) :: starEach [b] X.env := by rfl) (hpl : (backTo pos' (starEach [b] X.env)).any (·.1) = false := by rfl) :
    DI X (.Tuple elts kk tpos) (.Call (.Name "enumerate" p) [.Call (.Name "zip" p') [a, b] [] pos'] [] pos) ρ M Q :=
  di_imp (pi_ez hg hm hgz hmz (pa_u X [a, b]) hs1 hs hpl) fun σ H R hE hM g => ⟨ρ, M, _, h, hE, hM, fun vs H1 es M1 x1 m1 v1 ⟨xs, ys, ed, hl, q⟩ => by
    subst ed
    obtain ⟨v, w, rfl, hv, hw⟩ := vl2 v1
    cases hv with
    | tup s1 a1 =>
      cases hw with
      | tup s2 a2 =>
        have e1 := a1.ints_inv
        have e2 := a2.ints_inv
        subst e1; subst e2
        refine ⟨_, _, _, _, rfl, Evl.ex_t msk_sub s1, Evl.ex_t msk_sub s2, g _ H1 _ M1 x1 m1 ⟨fun i H' hi x => ?_, fun H' x => ?_, fun i H' M' v H'' d hd eg hM' hy => ?_⟩ q⟩
        · rw [List.length_map, ezs_len] at hi
          exact ⟨_, _, .int (xs[i]'(by omega)), .int (ys[i]'(by omega)), Evl.ex_t x s1, Evl.ex_t x s2, by simp [show i < xs.length by omega], by simp [show i < ys.length by omega]⟩
        · exact ⟨_, Evl.ex_t x s1, by simp only [List.length_map, ezs_len]; omega⟩
        · obtain ⟨T1, T2, x, y, rfl, n1, n2, rfl, f1, f2⟩ := hy
          rw [List.getElem?_map] at hd
          cases hz : (ezs 0 xs ys)[i]? with
          | none => rw [hz] at hd; cases hd
          | some p =>
            rw [hz] at hd
            have ed : pIP p = d := Option.some.inj hd
            subst ed
            obtain ⟨g1, g2, g3⟩ := ezs_get _ _ _ _ _ hz
            have k1 := f1 _ (Evl.ex_t (eg.trans msk_sub) s1)
            have k2 := f2 _ (Evl.ex_t (eg.trans msk_sub) s2)
            rw [List.getElem?_map, g2] at k1
            rw [List.getElem?_map, g3] at k2
            cases k1; cases k2
            have hM1 := hM'.new (o := .tup [.int p.2.1, .int p.2.2]) n1
            refine ⟨hM1.new n2, (ex_new n1).trans (ex_new n2), ?_⟩
            have d1 : Vl X.K (msk (upd H' T1 (.tup [.int p.2.1, .int p.2.2])) M') (.ref T1) (.d (.tuple [.int p.2.1, .int p.2.2])) := vl_new hM' n1 (.cons (.int _) (.cons (.int _) .nil))
            have ei : (((i : Nat) : Int)) = p.1 := by rw [g1]; simp
            rw [ei]
            exact vl_new hM1 n2 (.cons (.int _) (.cons d1 .nil))⟩
end Dt

namespace K96
open PySem PySem.Spec PyProof.Rows L2 Dt
/-! ### the functions, as plain functions -/
/-- the tails of counts -/
def tails (ns : List Int) : List Int := (List.range ns.length).map fun i => (ns.drop i).sum
def stails (m : Int) (ss : List Int) : List Int := (List.range m.toNat).map fun (a : Nat) => ((ss.filter fun z => decide ((a : Int) < z)).length : Int)
def mf (ns : List Int) : List Int := (List.range ns.length).map fun a => mn (ns.take (a + 1))
def atMost (xs ys : List Int) : Bool := ((xs.zip ys).map fun p => decide (p.1 ≤ p.2)).all id
def lbs (ns : List Int) (i : Int) : List Int := ((List.range ((ns.length : Int) + 1 - i).toNat).filter fun (w : Nat) => decide (0 < ns.getD (i + (w : Int) - 1).toNat 0)).map fun (w : Nat) => i + (w : Int)
def lbD (bs : List Int) : PyData := if bs = [] then .none else .int (bs.getD 0 0)
def addAt (ns : List Int) (i k : Int) : List Int := ns.take (i - 1).toNat ++ (ns.getD (i - 1).toNat 0 + k) :: ns.drop i.toNat
def cnts (ns : List Int) : List Int := (ns.zip (ns.drop 1 ++ [0])).map fun p => p.1 - p.2
def lessG (ns : List Int) (k : Int) : List Int := cnts ((tails ns).map fun t => if t - k > 0 then t - k else 0)
def heard (xs ys : List Int) : List Int := mf ((xs.zip ys).map fun p => p.1 - p.2)
@[simp] theorem len_tails (ns : List Int) : (tails ns).length = ns.length := by simp [tails]
@[simp] theorem len_stails (m : Int) (ss : List Int) : (stails m ss).length = m.toNat := by simp [stails]
@[simp] theorem len_mf (ns : List Int) : (mf ns).length = ns.length := by simp [mf]
@[simp] theorem len_cnts (ns : List Int) : (cnts ns).length = ns.length := by simp [cnts]; omega
theorem found_pos {l : List Int} (h : (!(l.map PyData.int).isEmpty) = true) : 0 < l.length := by
  cases l with
  | nil => simp at h
  | cons a b => simp
theorem lbD_of (bs : List Int) : (if (!(bs.map PyData.int).isEmpty) = true then PyData.int (bs.getD (Int.toNat 0) 0) else PyData.none) = lbD bs := by
  cases bs <;> rfl
theorem cnts_ok {ns : List Int} (h0 : ∀ c ∈ cnts ns, 0 ≤ c) (hb : (!((cnts ns).map fun w => decide (0 ≤ w)).all id) = true) : False := by
  have e : ((cnts ns).map fun w => decide (0 ≤ w)).all id = true := by simpa using h0
  rw [e] at hb; cases hb
/-! ### tails by place -/
def T (ns : List Int) (a : Nat) : Int := (ns.drop a).sum
def S (ss : List Int) (a : Nat) : Int := ((ss.filter fun z => decide ((a : Int) < z)).length : Int)
theorem tails_get (ns : List Int) (a : Nat) : (tails ns).getD a 0 = T ns a := by
  unfold tails T
  by_cases h : a < ns.length
  · simp [List.getD_eq_getElem?_getD, List.getElem?_range h]
  · rw [List.drop_eq_nil_of_le (by omega), List.getD_eq_getElem?_getD, List.getElem?_eq_none (by simpa using h)]; rfl
theorem stails_get {m : Int} {ss : List Int} {a : Nat} (h : (a : Int) < m) : (stails m ss).getD a 0 = S ss a := by
  unfold stails S
  have h' : a < m.toNat := by omega
  simp [List.getD_eq_getElem?_getD, List.getElem?_range h']
theorem T_end {ns : List Int} {a : Nat} (h : ns.length ≤ a) : T ns a = 0 := by unfold T; rw [List.drop_eq_nil_of_le h]; rfl
theorem T_step {ns : List Int} {a : Nat} (h : a < ns.length) : T ns a = ns.getD a 0 + T ns (a + 1) := by
  unfold T
  rw [List.drop_eq_getElem_cons h, List.sum_cons, List.getD_eq_getElem?_getD, List.getElem?_eq_getElem h]; rfl
theorem getD_nn {ns : List Int} (hp : ∀ c ∈ ns, 0 ≤ c) (a : Nat) : 0 ≤ ns.getD a 0 := by
  rw [List.getD_eq_getElem?_getD]
  cases e : ns[a]? with
  | none => exact Int.le_refl _
  | some x => exact hp x (List.mem_of_getElem? e)
theorem T_nn {ns : List Int} (hp : ∀ c ∈ ns, 0 ≤ c) (a : Nat) : 0 ≤ T ns a := by
  unfold T
  have : ∀ l : List Int, (∀ c ∈ l, 0 ≤ c) → 0 ≤ l.sum := fun l => by
    induction l with
    | nil => intro _; exact Int.le_refl _
    | cons x l ih => intro h; rw [List.sum_cons]; have := h x (by simp); have := ih fun c hc => h c (by simp [hc]); omega
  exact this _ fun c hc => hp c (List.mem_of_mem_drop hc)
theorem T_anti1 {ns : List Int} (hp : ∀ c ∈ ns, 0 ≤ c) (a : Nat) : T ns (a + 1) ≤ T ns a := by
  by_cases h : a < ns.length
  · rw [T_step h]; have := getD_nn hp a; omega
  · rw [T_end (by omega), T_end (by omega)]; exact Int.le_refl _
theorem anti_of {f : Nat → Int} (h : ∀ a, f (a + 1) ≤ f a) : ∀ {a b : Nat}, a ≤ b → f b ≤ f a := fun {a b} hab => by
  induction hab with
  | refl => exact Int.le_refl _
  | step _ ih => exact Int.le_trans (h _) ih
theorem T_anti {ns : List Int} (hp : ∀ c ∈ ns, 0 ≤ c) {a b : Nat} (h : a ≤ b) : T ns b ≤ T ns a := anti_of (T_anti1 hp) h
theorem S_nn (ss : List Int) (a : Nat) : 0 ≤ S ss a := Int.natCast_nonneg _
theorem S_nil (a : Nat) : S [] a = 0 := rfl
theorem S_cons (s : Int) (ss : List Int) (a : Nat) : S (s :: ss) a = S ss a + (if (a : Int) < s then 1 else 0) := by
  unfold S
  by_cases h : (a : Int) < s
  · rw [if_pos h, List.filter_cons, if_pos (by simpa using h), List.length_cons]; push_cast; rfl
  · rw [if_neg h, List.filter_cons, if_neg (by simpa using h)]; simp
theorem S_app (ss ts : List Int) (a : Nat) : S (ss ++ ts) a = S ss a + S ts a := by unfold S; rw [List.filter_append, List.length_append]; push_cast; rfl
theorem S_perm {ss ts : List Int} (h : ss.Perm ts) (a : Nat) : S ss a = S ts a := by unfold S; rw [(h.filter _).length_eq]
theorem S_anti1 (ss : List Int) (a : Nat) : S ss (a + 1) ≤ S ss a := by
  induction ss with
  | nil => exact Int.le_refl _
  | cons s ss ih => rw [S_cons, S_cons]; split <;> split <;> omega
theorem S_anti (ss : List Int) {a b : Nat} (h : a ≤ b) : S ss b ≤ S ss a := anti_of (S_anti1 ss) h
/-! ### a box less or more -/
theorem len_addAt {ns : List Int} {i k : Int} (h : 1 ≤ i ∧ i ≤ ns.length) : (addAt ns i k).length = ns.length := by
  unfold addAt
  simp; omega
theorem addAt_set {ns : List Int} {i k : Int} (h : 1 ≤ i ∧ i ≤ ns.length) : addAt ns i k = ns.set (i - 1).toNat (ns.getD (i - 1).toNat 0 + k) := by
  unfold addAt
  rw [List.set_eq_take_append_cons_drop, if_pos (by omega), show i.toNat = (i - 1).toNat + 1 by omega]
theorem T_set {v : Int} : ∀ {ns : List Int} {j : Nat} (a : Nat), j < ns.length → T (ns.set j v) a = T ns a + (if a ≤ j then v - ns.getD j 0 else 0)
  | [], _, _, h => by simp at h
  | n :: ns, 0, 0, _ => by simp [T]; omega
  | n :: ns, 0, a + 1, _ => by simp [T]
  | n :: ns, j + 1, 0, h => by
    have := T_set (v := v) (ns := ns) (j := j) 0 (by simpa using h)
    simp [T] at this ⊢
    rw [this]; omega
  | n :: ns, j + 1, a + 1, h => by
    have := T_set (v := v) (ns := ns) (j := j) a (by simpa using h)
    simp [T] at this ⊢
    rw [this]
theorem T_addAt {ns : List Int} {i k : Int} (h : 1 ≤ i ∧ i ≤ ns.length) (a : Nat) : T (addAt ns i k) a = T ns a + (if (a : Int) < i then k else 0) := by
  rw [addAt_set h, T_set a (by omega)]
  split <;> split <;> omega
theorem addAt_nn {ns : List Int} {i k : Int} (hp : ∀ c ∈ ns, 0 ≤ c) (hk : 0 ≤ ns.getD (i - 1).toNat 0 + k) : ∀ c ∈ addAt ns i k, 0 ≤ c := by
  unfold addAt
  intro c hc
  rw [List.mem_append, List.mem_cons] at hc
  rcases hc with hc | rfl | hc
  · exact hp c (List.mem_of_mem_take hc)
  · exact hk
  · exact hp c (List.mem_of_mem_drop hc)
/-! ### the least box -/
theorem mem_lbs {ns : List Int} {i b : Int} (h1 : 1 ≤ i) : b ∈ lbs ns i ↔ i ≤ b ∧ b ≤ ns.length ∧ 0 < ns.getD (b - 1).toNat 0 := by
  unfold lbs
  rw [List.mem_map]
  constructor
  · rintro ⟨w, hw, rfl⟩
    rw [List.mem_filter, List.mem_range] at hw
    have := of_decide_eq_true hw.2
    exact ⟨by omega, by omega, this⟩
  · rintro ⟨h2, h3, h4⟩
    refine ⟨(b - i).toNat, ?_, by omega⟩
    rw [List.mem_filter, List.mem_range]
    refine ⟨by omega, decide_eq_true ?_⟩
    rw [show i + (((b - i).toNat : Nat) : Int) - 1 = b - 1 by omega]; exact h4
theorem lbs_sorted (ns : List Int) (i : Int) : (lbs ns i).Pairwise (· < ·) := by
  unfold lbs
  rw [List.pairwise_map]
  exact (List.pairwise_lt_range.filter _).imp fun h => by omega
/-- the first of the boxes -/
structure Lb (ns : List Int) (i b : Int) : Prop where
  lo : i ≤ b
  hi : b ≤ ns.length
  pos : 0 < ns.getD (b - 1).toNat 0
  zero : ∀ j : Nat, i ≤ (j : Int) + 1 → (j : Int) + 1 < b → ns.getD j 0 = 0
theorem lb_head {ns bs : List Int} {i b : Int} (h1 : 1 ≤ i) (hp : ∀ c ∈ ns, 0 ≤ c) (e : lbs ns i = b :: bs) : Lb ns i b := by
  have hm := (mem_lbs (ns := ns) (b := b) h1).mp (by rw [e]; simp)
  refine ⟨hm.1, hm.2.1, hm.2.2, fun j h2 h3 => ?_⟩
  by_cases hz : 0 < ns.getD j 0
  · have hj : ((j : Int) + 1) ∈ lbs ns i := (mem_lbs h1).mpr ⟨h2, by omega, by rw [show ((j : Int) + 1 - 1).toNat = j by omega]; exact hz⟩
    have hs := lbs_sorted ns i
    rw [e, List.pairwise_cons] at hs
    rw [e, List.mem_cons] at hj
    rcases hj with q | q
    · omega
    · have := hs.1 _ q; omega
  · have := getD_nn hp j; omega
theorem T_zero {ns : List Int} {i : Nat} : ∀ n : Nat, i + n ≤ ns.length → (∀ j, i ≤ j → j < i + n → ns.getD j 0 = 0) → T ns i = T ns (i + n)
  | 0, _, _ => rfl
  | n + 1, hl, h => by
    rw [T_zero n (by omega) (fun j a b => h j a (by omega)), T_step (a := i + n) (by omega), h (i + n) (by omega) (by omega), Int.zero_add]; rfl
theorem lb_none {ns : List Int} {i : Int} (h1 : 1 ≤ i ∧ i ≤ ns.length) (hp : ∀ c ∈ ns, 0 ≤ c) (e : lbs ns i = []) : T ns (i - 1).toNat = 0 := by
  rw [T_zero (ns.length - (i - 1).toNat) (by omega) (fun j a b => ?_), T_end (by omega)]
  by_cases hz : 0 < ns.getD j 0
  · have hj : ((j : Int) + 1) ∈ lbs ns i := (mem_lbs h1.1).mpr ⟨by omega, by omega, by rw [show ((j : Int) + 1 - 1).toNat = j by omega]; exact hz⟩
    rw [e] at hj; cases hj
  · have := getD_nn hp j; omega
/-- what holds while sizes are laid -/
def OK (E : Nat → Int) (ns ss : List Int) : Prop := ∀ a, a < ns.length → S ss a + E a ≤ T ns a
theorem lay1 {E : Nat → Int} {ns r : List Int} {s b : Int} (hE : ∀ a, E (a + 1) ≤ E a) (hs : 1 ≤ s) (hp : ∀ c ∈ ns, 0 ≤ c) (hb : Lb ns s b) (ok : OK E ns (s :: r)) : OK E (addAt ns b (-1)) r := by
  intro a ha
  have hbb : 1 ≤ b ∧ b ≤ ns.length := ⟨by have := hb.lo; omega, hb.hi⟩
  rw [len_addAt hbb] at ha
  rw [T_addAt hbb]
  have h0 := ok a ha
  rw [S_cons] at h0
  by_cases h1 : (a : Int) < s
  · have := hb.lo
    rw [if_pos h1] at h0
    rw [if_pos (by omega)]; omega
  · rw [if_neg h1] at h0
    by_cases h2 : (a : Int) < b
    · rw [if_pos h2]
      have h3 := ok (s - 1).toNat (by omega)
      rw [S_cons, if_pos (by omega)] at h3
      have h4 := S_anti r (a := (s - 1).toNat) (b := a) (by omega)
      have h5 := anti_of hE (a := (s - 1).toNat) (b := a) (by omega)
      have h6 : T ns (s - 1).toNat = T ns a := by
        have := T_zero (ns := ns) (i := (s - 1).toNat) (a - (s - 1).toNat) (by omega) fun j x y => hb.zero j (by omega) (by omega)
        rw [this, show (s - 1).toNat + (a - (s - 1).toNat) = a by omega]
      omega
    · rw [if_neg h2]; omega
theorem lay_has {E : Nat → Int} {ns r : List Int} {s : Int} (hE : ∀ a, 0 ≤ E a) (hs : 1 ≤ s ∧ s ≤ ns.length) (hp : ∀ c ∈ ns, 0 ≤ c) (ok : OK E ns (s :: r)) : ∃ b bs, lbs ns s = b :: bs ∧ Lb ns s b := by
  cases e : lbs ns s with
  | nil =>
    have h0 := lb_none hs hp e
    have h1 := ok (s - 1).toNat (by omega)
    have := S_nn r (s - 1).toNat
    have := hE (s - 1).toNat
    rw [S_cons, if_pos (by omega)] at h1; omega
  | cons b bs => exact ⟨b, bs, rfl, lb_head hs.1 hp e⟩
/-! ### laying in turn -/
def laid (ns : List Int) : List Int → Option (List Int)
  | [] => some ns
  | s :: ss => match lbs ns s with
    | [] => none
    | b :: _ => laid (addAt ns b (-1)) ss
theorem laid_facts {k : Nat} : ∀ {ss ns ms : List Int}, (∀ s ∈ ss, 1 ≤ s ∧ s ≤ ns.length) → (∀ c ∈ ns, 0 ≤ c) → laid ns ss = some ms → (∀ c ∈ ms, 0 ≤ c) ∧ ms.length = ns.length ∧ T ms k ≤ T ns k - S ss k
  | [], ns, ms, _, hp, e => by cases e; exact ⟨hp, rfl, by rw [S_nil]; omega⟩
  | s :: ss, ns, ms, hs, hp, e => by
    have h1 := hs s (by simp)
    unfold laid at e
    cases el : lbs ns s with
    | nil => rw [el] at e; cases e
    | cons b bs =>
      rw [el] at e
      have hb := lb_head h1.1 hp el
      have hbb : 1 ≤ b ∧ b ≤ ns.length := ⟨by have := hb.lo; omega, hb.hi⟩
      have ll := len_addAt (k := -1) hbb
      obtain ⟨q1, q2, q3⟩ := laid_facts (k := k) (ss := ss) (ns := addAt ns b (-1)) (by rw [ll]; exact fun z hz => hs z (by simp [hz])) (addAt_nn hp (by have := hb.pos; omega)) e
      refine ⟨q1, q2.trans ll, ?_⟩
      rw [T_addAt hbb] at q3
      rw [S_cons]
      have := hb.lo
      split at q3 <;> split <;> omega
/-! ### counts -/
theorem cnts_cons (x : Int) (xs : List Int) : cnts (x :: xs) = (x - xs.getD 0 0) :: cnts xs := by
  cases xs <;> simp [cnts]
theorem T_cnts : ∀ (xs : List Int) (a : Nat), T (cnts xs) a = xs.getD a 0
  | [], a => by simp [cnts, T]
  | x :: xs, 0 => by
    have := T_cnts xs 0
    unfold T at this ⊢
    rw [cnts_cons, List.drop_zero, List.sum_cons]
    rw [List.drop_zero] at this
    rw [this]; simp
  | x :: xs, a + 1 => by
    have := T_cnts xs a
    rw [cnts_cons]
    unfold T at this ⊢
    rw [List.drop_succ_cons, this]; simp
theorem cnts_nn : ∀ {xs : List Int}, (∀ a, xs.getD (a + 1) 0 ≤ xs.getD a 0) → ∀ c ∈ cnts xs, 0 ≤ c
  | [], _, c, hc => by simp [cnts] at hc
  | x :: xs, h, c, hc => by
    rw [cnts_cons, List.mem_cons] at hc
    rcases hc with rfl | hc
    · have := h 0; simp at this ⊢; omega
    · exact cnts_nn (xs := xs) (fun a => by simpa using h (a + 1)) c hc
theorem lessG_get (ns : List Int) (k : Int) (a : Nat) (hk : 0 ≤ k) : ((tails ns).map fun t => if t - k > 0 then t - k else 0).getD a 0 = if T ns a - k > 0 then T ns a - k else 0 := by
  rw [← tails_get, List.getD_eq_getElem?_getD, List.getElem?_map, List.getD_eq_getElem?_getD]
  cases e : (tails ns)[a]? with
  | none => simp; omega
  | some x => simp
theorem lessG_nn {ns : List Int} {k : Int} (hp : ∀ c ∈ ns, 0 ≤ c) (hk : 0 ≤ k) : ∀ c ∈ lessG ns k, 0 ≤ c := by
  unfold lessG
  refine cnts_nn fun a => ?_
  rw [lessG_get _ _ _ hk, lessG_get _ _ _ hk]
  have := T_anti1 hp a
  split <;> split <;> omega
theorem T_lessG {ns : List Int} {k : Int} (hk : 0 ≤ k) (a : Nat) : T (lessG ns k) a = if T ns a - k > 0 then T ns a - k else 0 := by
  unfold lessG; rw [T_cnts, lessG_get _ _ _ hk]
@[simp] theorem len_lessG (ns : List Int) (k : Int) : (lessG ns k).length = ns.length := by simp [lessG]
/-! ### sizes of tails -/
def szs : Nat → List Int → List Int
  | _, [] => []
  | k, c :: cs => List.replicate c.toNat ((k : Int) + 1) ++ szs (k + 1) cs
def sizesOf (xs : List Int) : List Int := szs 0 (cnts xs)
theorem S_rep (n : Nat) (v : Int) (a : Nat) : S (List.replicate n v) a = if (a : Int) < v then (n : Int) else 0 := by
  induction n with
  | zero => simp [S]
  | succ n ih => rw [List.replicate_succ, S_cons, ih]; split <;> simp
theorem S_szs : ∀ {cs : List Int} {k a : Nat}, (∀ c ∈ cs, 0 ≤ c) → S (szs k cs) a = T cs (a - k)
  | [], k, a, _ => by simp [szs, S_nil, T]
  | c :: cs, k, a, h => by
    unfold szs
    have hc := h c (by simp)
    rw [S_app, S_rep, S_szs (cs := cs) fun z hz => h z (by simp [hz])]
    by_cases h1 : a ≤ k
    · rw [show a - k = 0 by omega, show a - (k + 1) = 0 by omega, if_pos (by omega)]
      simp [T]; omega
    · rw [if_neg (by omega), show a - k = (a - (k + 1)) + 1 by omega, T]
      simp [T]
theorem mem_szs : ∀ {cs : List Int} {k : Nat} {z : Int}, z ∈ szs k cs → (k : Int) + 1 ≤ z ∧ z ≤ k + cs.length
  | [], k, z, h => by simp [szs] at h
  | c :: cs, k, z, h => by
    unfold szs at h
    rw [List.mem_append] at h
    rcases h with h | h
    · have := List.eq_of_mem_replicate h
      simp; omega
    · have := mem_szs h
      simp; omega
theorem S_sizesOf {xs : List Int} (h : ∀ a, xs.getD (a + 1) 0 ≤ xs.getD a 0) (a : Nat) : S (sizesOf xs) a = xs.getD a 0 := by
  unfold sizesOf; rw [S_szs (cnts_nn h), Nat.sub_zero, T_cnts]
theorem mem_sizesOf {xs : List Int} {z : Int} (h : z ∈ sizesOf xs) : 1 ≤ z ∧ z ≤ xs.length := by
  have := mem_szs h; simp at this; exact ⟨this.1, this.2⟩
/-! ### falling -/
theorem mf_get {xs : List Int} {a : Nat} (h : a < xs.length) : (mf xs).getD a 0 = mn (xs.take (a + 1)) := by
  unfold mf; simp [List.getD_eq_getElem?_getD, List.getElem?_range h]
theorem mem_take_get {xs : List Int} {a j : Nat} (h : a < xs.length) (hj : j ≤ a) : xs.getD j 0 ∈ xs.take (a + 1) := by
  rw [List.getD_eq_getElem?_getD, List.getElem?_eq_getElem (by omega)]
  exact List.mem_take_iff_getElem.mpr ⟨j, by omega, rfl⟩
theorem mf_le {xs : List Int} {a j : Nat} (h : a < xs.length) (hj : j ≤ a) : (mf xs).getD a 0 ≤ xs.getD j 0 := by rw [mf_get h]; exact mn_le (mem_take_get h hj)
theorem le_mf {xs : List Int} {a : Nat} {m : Int} (h : a < xs.length) (hm : ∀ j, j ≤ a → m ≤ xs.getD j 0) : m ≤ (mf xs).getD a 0 := by
  rw [mf_get h]
  have hne : xs.take (a + 1) ≠ [] := fun e => by
    have e2 := congrArg List.length e
    rw [List.length_take] at e2
    simp only [List.length_nil] at e2; omega
  obtain ⟨j, hj, e⟩ := List.mem_take_iff_getElem.mp (mn_mem hne)
  rw [← e]
  have := hm j (by omega)
  rw [List.getD_eq_getElem?_getD, List.getElem?_eq_getElem (by omega)] at this
  exact this
theorem getD_out {xs : List Int} {a : Nat} (h : xs.length ≤ a) : xs.getD a 0 = 0 := by rw [List.getD_eq_getElem?_getD, List.getElem?_eq_none h]; rfl
theorem mf_nn {xs : List Int} (hp : ∀ c ∈ xs, 0 ≤ c) (a : Nat) : 0 ≤ (mf xs).getD a 0 := by
  by_cases h : a < xs.length
  · exact le_mf h fun j _ => getD_nn hp j
  · rw [getD_out (by rw [len_mf]; omega)]; exact Int.le_refl _
theorem mf_anti {xs : List Int} (hp : ∀ c ∈ xs, 0 ≤ c) (a : Nat) : (mf xs).getD (a + 1) 0 ≤ (mf xs).getD a 0 := by
  by_cases h : a + 1 < xs.length
  · exact le_mf (by omega) fun j hj => mf_le h (by omega)
  · rw [getD_out (by rw [len_mf]; omega)]; exact mf_nn hp a
/-! ### room -/
def rooms (ts : List Int) (j : Int) (ow he : List Int) : List Int := (zip3 ts ow he).map fun p => if p.2.1 + p.2.2 > 0 then p.1 - (p.2.1 + p.2.2) - j else p.1
def roomL (ns : List Int) (j : Int) (ow he : List Int) : List Int := rooms (tails ns) j ow he
def spareO (ns : List Int) (j : Int) (ow he : List Int) : Option (List Int) := if 0 ≤ mn (roomL ns j ow he) then some (mf (roomL ns j ow he)) else none
def oD : Option (List Int) → PyData
  | none => .none
  | some xs => tN xs
def mayT (ns : List Int) (j : Int) (ow he ss : List Int) : Bool := match spareO ns j ow he with
  | none => false
  | some sp => atMost (stails ns.length ss) sp
/-- what has to stay free from a place on -/
def EE (j : Int) (ow he : List Int) (a : Nat) : Int := if 0 < ow.getD a 0 + he.getD a 0 then ow.getD a 0 + he.getD a 0 + j else 0
theorem zip3_getD : ∀ {xs ys zs : List Int} {a : Nat}, a < xs.length → a < ys.length → a < zs.length → (zip3 xs ys zs)[a]? = some (xs.getD a 0, ys.getD a 0, zs.getD a 0)
  | [], _, _, _, h, _, _ => by simp at h
  | _ :: _, [], _, _, _, h, _ => by simp at h
  | _ :: _, _ :: _, [], _, _, _, h => by simp at h
  | x :: xs, y :: ys, z :: zs, 0, _, _, _ => by simp [zip3]
  | x :: xs, y :: ys, z :: zs, a + 1, h1, h2, h3 => by simpa [zip3] using zip3_getD (xs := xs) (ys := ys) (zs := zs) (a := a) (by simpa using h1) (by simpa using h2) (by simpa using h3)
section
variable {ns ow he : List Int} {j : Int}
theorem len_roomL (h1 : ow.length = ns.length) (h2 : he.length = ns.length) : (roomL ns j ow he).length = ns.length := by
  unfold roomL rooms; rw [List.length_map, zip3_len]; simp; omega
theorem room_get (h1 : ow.length = ns.length) (h2 : he.length = ns.length) {a : Nat} (h : a < ns.length) : (roomL ns j ow he).getD a 0 = T ns a - EE j ow he a := by
  unfold roomL rooms EE
  rw [List.getD_eq_getElem?_getD, List.getElem?_map, zip3_getD (by simpa using h) (by omega) (by omega)]
  rw [tails_get]
  simp only [Option.map_some, Option.getD_some]
  split <;> omega
theorem mn_ge {xs : List Int} {m : Int} (hne : 0 < xs.length) : m ≤ mn xs ↔ ∀ a, a < xs.length → m ≤ xs.getD a 0 := by
  constructor
  · intro h a ha
    refine Int.le_trans h (mn_le ?_)
    rw [List.getD_eq_getElem?_getD, List.getElem?_eq_getElem ha]; exact List.getElem_mem ha
  · intro h
    have hm := mn_mem (ns := xs) (fun e => by rw [e] at hne; simp at hne)
    obtain ⟨i, hi, e⟩ := List.mem_iff_getElem.mp hm
    have := h i hi
    rw [List.getD_eq_getElem?_getD, List.getElem?_eq_getElem hi] at this
    rw [← e]; exact this
theorem spare_some (h1 : ow.length = ns.length) (h2 : he.length = ns.length) (hn : 0 < ns.length) (h : ∀ a, a < ns.length → EE j ow he a ≤ T ns a) : spareO ns j ow he = some (mf (roomL ns j ow he)) := by
  unfold spareO
  rw [if_pos]
  rw [mn_ge (by rw [len_roomL h1 h2]; exact hn)]
  intro a ha
  rw [len_roomL h1 h2] at ha
  rw [room_get h1 h2 ha]
  have := h a ha; omega
theorem spare_inv (h1 : ow.length = ns.length) (h2 : he.length = ns.length) (hn : 0 < ns.length) {sp : List Int} (h : spareO ns j ow he = some sp) : sp = mf (roomL ns j ow he) ∧ ∀ a, a < ns.length → EE j ow he a ≤ T ns a := by
  unfold spareO at h
  split at h
  · rename_i h0
    cases h
    refine ⟨rfl, fun a ha => ?_⟩
    have := (mn_ge (by rw [len_roomL h1 h2]; exact hn)).mp h0 a (by rw [len_roomL h1 h2]; exact ha)
    rw [room_get h1 h2 ha] at this; omega
  · cases h
theorem atMost_iff : ∀ {xs ys : List Int}, xs.length = ys.length → (atMost xs ys = true ↔ ∀ a, a < xs.length → xs.getD a 0 ≤ ys.getD a 0)
  | [], [], _ => by simp [atMost]
  | [], _ :: _, h => by simp at h
  | _ :: _, [], h => by simp at h
  | x :: xs, y :: ys, h => by
    have ih := atMost_iff (xs := xs) (ys := ys) (by simpa using h)
    have e : atMost (x :: xs) (y :: ys) = (decide (x ≤ y) && atMost xs ys) := by simp [atMost]
    rw [e, Bool.and_eq_true, ih, decide_eq_true_iff]
    constructor
    · rintro ⟨q1, q2⟩ a ha
      cases a with
      | zero => simpa using q1
      | succ a => simpa using q2 a (by simpa using ha)
    · intro q
      exact ⟨by simpa using q 0 (by simp), fun a ha => by simpa using q (a + 1) (by simpa using ha)⟩
theorem fits_mf (h1 : ow.length = ns.length) (h2 : he.length = ns.length) (ss : List Int) : atMost (stails ns.length ss) (mf (roomL ns j ow he)) = true ↔ OK (EE j ow he) ns ss := by
  have hl := len_roomL (j := j) h1 h2
  rw [atMost_iff (by simp [hl])]
  simp only [len_stails, Int.toNat_natCast]
  constructor
  · intro h a ha
    have := h a ha
    rw [stails_get (by omega)] at this
    have h3 := mf_le (xs := roomL ns j ow he) (a := a) (j := a) (by omega) (Nat.le_refl _)
    rw [room_get h1 h2 ha] at h3; omega
  · intro h a ha
    rw [stails_get (by omega)]
    refine le_mf (by omega) fun i hi => ?_
    rw [room_get h1 h2 (by omega)]
    have := h i (by omega)
    have := S_anti ss hi
    omega
theorem mayT_iff (h1 : ow.length = ns.length) (h2 : he.length = ns.length) (hn : 0 < ns.length) (ss : List Int) : mayT ns j ow he ss = true ↔ OK (EE j ow he) ns ss := by
  unfold mayT
  constructor
  · intro h
    cases e : spareO ns j ow he with
    | none => rw [e] at h; cases h
    | some sp =>
      rw [e] at h
      rw [(spare_inv h1 h2 hn e).1] at h
      exact (fits_mf h1 h2 ss).mp h
  · intro h
    rw [spare_some h1 h2 hn fun a ha => by have := h a ha; have := S_nn ss a; omega]
    exact (fits_mf h1 h2 ss).mpr h
/-- with needs that fall -/
theorem EE_anti (ho : ∀ a, ow.getD (a + 1) 0 ≤ ow.getD a 0) (hh : ∀ a, he.getD (a + 1) 0 ≤ he.getD a 0) (hj : 0 ≤ j) (a : Nat) : EE j ow he (a + 1) ≤ EE j ow he a := by
  unfold EE
  have := ho a; have := hh a
  split <;> split <;> omega
theorem EE_nn (hj : 0 ≤ j) (a : Nat) : 0 ≤ EE j ow he a := by unfold EE; split <;> omega
end
end K96

namespace K96
open PySem PySem.Spec PyProof.Rows L2 Dt
def topS (i : Nat) : Stmt := PySem.Challenge.pw_owedbeside_k96_returns_in_a_cut_that_lea.main.body.getD i (.Pass ⟨0, 0, 0, 0⟩)
local macro_rules | `(tactic| walk_at "sd") => `(tactic| first | assumption | omega | decide | (simp; done) | (simp; omega) | (simp only [List.length_map, List.length_append, List.length_range, List.length_drop, List.length_take, List.length_zip, Int.toNat_natCast]; omega))
local macro_rules | `(tactic| walk_at "pg") => `(tactic| first | exact pg_nm (by assumption) rfl (Or.inl rfl) | exact pg_nm (by assumption) rfl (Or.inr rfl) | (refine pg_tp (n := 2) rfl (pgs_cn ?_ (pgs_cn ?_ pgs_nl)) <;> walk_at "pg") | (refine pg_tp (n := 3) rfl (pgs_cn ?_ (pgs_cn ?_ (pgs_cn ?_ pgs_nl))) <;> walk_at "pg"))
local macro_rules | `(tactic| walk_at "b_len") => `(tactic| first | refine c_lenT ?_ | refine c_lenL ?_ | refine c_len .t ?_ | refine c_len .l ?_ | refine c_lenM 0 rfl ?_ | refine c_lenM 1 rfl ?_ | refine c_lenM 2 rfl ?_)
local macro_rules | `(tactic| walk_at "b_sum") => `(tactic| first | refine c_sum .t ?_ | refine c_sum .l ?_)
local macro_rules | `(tactic| walk_at "b_min") => `(tactic| first | refine c_min .t (by walk_at "sd") ?_ | refine c_min .l (by walk_at "sd") ?_)
local macro_rules | `(tactic| walk_at "b_min2") => `(tactic| refine c_min2 ?_)
local macro_rules | `(tactic| walk_at "b_max2") => `(tactic| refine c_max2 ?_)
local macro_rules | `(tactic| walk_at "b_abs") => `(tactic| refine c_abs ?_)
local macro_rules | `(tactic| walk_at "b_int") => `(tactic| refine c_int ?_)
local macro_rules | `(tactic| walk_at "b_all") => `(tactic| refine c_all .l rfl ?_)
local macro_rules | `(tactic| walk_at "b_tuple") => `(tactic| first | refine c_tuple .l ?_ | refine c_tuple .t ?_ | refine c_tupleM 0 rfl ?_ | refine c_tupleM 1 rfl ?_)
local macro_rules | `(tactic| walk_at "op+") => `(tactic| first | refine a_int ?_ | refine a_tI (by walk_at "sd") ?_ | refine a_lI (by walk_at "sd") ?_ | refine a_tI1 (by walk_at "sd") ?_ | refine a_lI1 (by walk_at "sd") ?_ | refine a_t (by walk_at "sd") ?_ | refine a_l (by walk_at "sd") ?_)
local macro_rules | `(tactic| walk_at "op-") => `(tactic| refine o_sub ?_)
local macro_rules | `(tactic| walk_at "op*") => `(tactic| first | refine m_int (by walk_at "mul") ?_ | refine m_t1 (by walk_at "sd") ?_ | refine m_l1 (by walk_at "sd") ?_)
local macro_rules | `(tactic| walk_at "mul") => `(tactic| first | exact Or.inl ⟨by decide, by decide⟩ | exact Or.inr ⟨by decide, by decide⟩ | exact Or.inr (by constructor <;> omega) | exact Or.inl (by constructor <;> omega))
local macro_rules | `(tactic| walk_at "op//") => `(tactic| refine o_div (by constructor <;> omega) ?_)
local macro_rules | `(tactic| walk_at "op%") => `(tactic| refine o_mod (by omega) ?_)
local macro_rules | `(tactic| walk_at "op**") => `(tactic| refine o_pow (by refine ⟨?_, ?_, ?_⟩ <;> decide) ?_)
local macro_rules | `(tactic| walk_at "op<") => `(tactic| refine o_lt ?_)
local macro_rules | `(tactic| walk_at "op<=") => `(tactic| refine o_le ?_)
local macro_rules | `(tactic| walk_at "op>") => `(tactic| refine o_gt ?_)
local macro_rules | `(tactic| walk_at "op>=") => `(tactic| refine o_ge ?_)
local macro_rules | `(tactic| walk_at "op==") => `(tactic| first | refine e_int ?_ | refine e_bl ?_ | refine e_tI ?_ | refine e_lI ?_ | refine e_lI0 ?_ | refine e_M0 0 rfl ?_ | refine e_M0 1 rfl ?_)
local macro_rules | `(tactic| walk_at "op!=") => `(tactic| first | refine n_int ?_ | refine n_bl ?_ | refine n_tI ?_ | refine n_lI ?_ | refine n_lI0 ?_ | refine n_M0 0 rfl ?_ | refine n_M0 1 rfl ?_)
local macro_rules | `(tactic| walk_at "opis") => `(tactic| first | refine i_non ?_ | refine i_bl ?_)
local macro_rules | `(tactic| walk_at "opisnot") => `(tactic| first | refine in_non ?_ | refine in_bl ?_)
local macro_rules | `(tactic| walk_at "ix") => `(tactic| first | refine x_tI (by walk_at "sd") (by walk_at "sd") ?_ | refine x_lI (by walk_at "sd") (by walk_at "sd") ?_ | refine x_tL (by walk_at "sd") ?_ | refine x_lL (by walk_at "sd") ?_ | refine o_ixM 0 rfl rfl ?_ | refine o_ixM 1 rfl rfl ?_ | refine o_ix .t rfl ?_)
local macro_rules | `(tactic| walk_at "sl") => `(tactic| first | refine s_tLo (by walk_at "sd") ?_ | refine s_tHi (by walk_at "sd") ?_ | refine s_lLo (by walk_at "sd") ?_ | refine s_lHi (by walk_at "sd") ?_ | refine s_sHi (by walk_at "sd") ?_)
local macro_rules | `(tactic| walk_at "tru") => `(tactic| first | refine .inl ⟨_, rfl, ?_⟩ | refine .inr (.inl ⟨_, rfl, ?_⟩))
local macro_rules | `(tactic| walk_at "star") => `(tactic| first | refine st_axb (by walk_at "sd") ?_ | refine st_ax (by walk_at "sd") ?_)
section
variable {P : Program} {w : World} {K : PySem.W.Frag} {mg : Str → Option Value} {base : Heap} {f : Addr} {fd : FuncData}
theorem sc_tails_of : FnScope ["counts", "at"] ["counts"] (defScope (topS 5)) := ⟨rfl, rfl, rfl, by decide +kernel, rfl, by decide +kernel, by decide +kernel⟩
def C_tails_of : Ctr := fun es M Q => ∃ ns : List Int, es = [.d (tN ns)] ∧ ns.length ≤ 1000 ∧ Q (.d (tN (tails ns))) M
theorem c_tails_of (F : Fun K "tails_of" "tails_of" (topS 5) f fd) (hm : mg "tails_of" = some (.ref f)) (hb : L2.Binds K fd ["counts"] []) (B : Bt mg) : Cal P w K mg base "tails_of" 1 C_tails_of := by
  refine cal_of F sc_tails_of hm hb (fun es M Q h => by obtain ⟨ns, rfl, hl, q⟩ := h; rfl) fun cdv A outer s H E es M Q hr h => ?_
  obtain ⟨ns, rfl, hl, q⟩ := h
  have nd := sc_tails_of.nd
  change SB _ _ [some _, none] _ _
  refine sb_one ?_
  refine s_ret ?_
  refine de_callTy call_tuple_of rfl B.tuple (by decide +kernel) ?_
  refine da_cons ?_
  refine de_lc (.nm 1) [("at", 1)] rfl nd (blkOk_by (own := [("at", 1)]) (N := ["counts", "at"]) (sc := defScope (topS 5)) (by decide +kernel)) (fun _ _ _ _ _ => by walk_at "pg") (by decide) (lc_pureI ?_)
  refine di_range1 rfl B.range ?_
  refine da_cons ?_
  refine de_callB call_len_seq rfl B.len PySem.boot_len ?_
  refine da_cons ?_
  refine de_var 0 rfl ?_
  refine da_nil ?_
  walk_at "b_len"
  refine da_nil ?_
  refine ⟨_, rfl, by walk_at "sd", by walk_at "sd", ?_⟩
  apply lcI_mk0
  case h1 => exact rfl
  case turn =>
    intro w hw
    try (rw [List.mem_range] at hw)
    refine ⟨_, rfl, fun D acc s H C cl fp => ?_⟩
    refine de_callB (cr_sumA rfl) rfl B.sum (by decide +kernel) ?_
    refine da_cons ?_
    refine de_slice sl_U ?_
    refine de_var 0 rfl ?_
    refine do_some ?_
    refine de_var 1 rfl ?_
    refine ⟨_, rfl, ?_⟩
    refine do_none ?_
    walk_at "sl"
    refine da_nil ?_
    walk_at "b_sum"
    exact ⟨rfl, rfl⟩
  case len => walk_at "sd"
  refine da_nil ?_
  walk_at "b_tuple"
  refine q_of q ?_; simp [tails]

theorem sc_tails_of_sizes : FnScope ["m", "sizes", "size", "at"] ["m", "sizes"] (defScope (topS 6)) := ⟨rfl, rfl, rfl, by decide +kernel, rfl, by decide +kernel, by decide +kernel⟩
def C_tails_of_sizes : Ctr := fun es M Q => ∃ (m : Int) (ss : List Int), es = [.d (.int m), .d (tN ss)] ∧ (0 ≤ m ∧ m ≤ 1000) ∧ ss.length ≤ 1000 ∧ Q (.d (tN (stails m ss))) M
theorem c_tails_of_sizes (F : Fun K "tails_of_sizes" "tails_of_sizes" (topS 6) f fd) (hm : mg "tails_of_sizes" = some (.ref f)) (hb : L2.Binds K fd ["m", "sizes"] []) (B : Bt mg) : Cal P w K mg base "tails_of_sizes" 1 C_tails_of_sizes := by
  refine cal_of F sc_tails_of_sizes hm hb (fun es M Q h => by obtain ⟨m, ss, rfl, hm, hl, q⟩ := h; rfl) fun cdv A outer s H E es M Q hr h => ?_
  obtain ⟨m, ss, rfl, hm, hl, q⟩ := h
  have nd := sc_tails_of_sizes.nd
  change SB _ _ [some _, some _, none, none] _ _
  refine sb_one ?_
  refine s_ret ?_
  refine de_callTy call_tuple_of rfl B.tuple (by decide +kernel) ?_
  refine da_cons ?_
  refine de_lc (.nm 3) [("at", 3)] rfl nd (blkOk_by (own := [("at", 3)]) (N := ["m", "sizes", "size", "at"]) (sc := defScope (topS 6)) (by decide +kernel)) (fun _ _ _ _ _ => by walk_at "pg") (by decide) (lc_pureI ?_)
  refine di_range1 rfl B.range ?_
  refine da_cons ?_
  refine de_var 0 rfl ?_
  refine da_nil ?_
  refine ⟨_, rfl, by walk_at "sd", by walk_at "sd", ?_⟩
  apply lcI_mk0
  case h1 => exact rfl
  case turn =>
    intro w hw
    try (rw [List.mem_range] at hw)
    refine ⟨_, rfl, fun D acc s H C cl fp => ?_⟩
    refine de_callB call_len_seq rfl B.len PySem.boot_len ?_
    refine da_cons ?_
    refine de_lc (.nm 2) [("size", 2)] rfl nd (blkOk_by (own := [("size", 2)]) (N := ["m", "sizes", "size", "at"]) (sc := relS _ (defScope (topS 6))) (by decide +kernel)) (fun _ _ _ _ _ => by walk_at "pg") (by decide) (lc_pureI ?_)
    first | (refine di_list ?_; refine de_var 1 rfl ?_; refine ⟨_, rfl, ?_⟩) | (refine di_tup ?_; refine de_var 1 rfl ?_; refine ⟨_, rfl, ?_⟩)
    apply lcI_mk
    case h1 => exact rfl
    case turn =>
      intro w hw
      try (rw [List.mem_range] at hw)
      refine ⟨_, rfl, fun D acc => ⟨?ts, ?el⟩⟩
      case ts =>
        intro s H C cl fp
        refine dts_one ?_
        refine dt_cmp op_gt ?_
        refine de_var 2 rfl ?_
        refine de_var 3 rfl ?_
        walk_at "op>"
        refine ⟨_, rfl, ?_⟩
        exact ⟨rfl, rfl⟩
      case el =>
        intro hf s H C cl fp
        refine de_var 2 rfl ?_
        exact ⟨rfl, rfl⟩
    case len => walk_at "sd"
    refine da_nil ?_
    walk_at "b_len"
    exact ⟨rfl, rfl⟩
  case len => walk_at "sd"
  refine da_nil ?_
  walk_at "b_tuple"
  refine q_of q ?_; simp [stails]

theorem sc_made_falling : FnScope ["tails", "at"] ["tails"] (defScope (topS 8)) := ⟨rfl, rfl, rfl, by decide +kernel, rfl, by decide +kernel, by decide +kernel⟩
def C_made_falling : Ctr := fun es M Q => ∃ ns : List Int, es = [.d (tN ns)] ∧ ns.length ≤ 1000 ∧ Q (.d (tN (mf ns))) M
theorem c_made_falling (F : Fun K "made_falling" "made_falling" (topS 8) f fd) (hm : mg "made_falling" = some (.ref f)) (hb : L2.Binds K fd ["tails"] []) (B : Bt mg) : Cal P w K mg base "made_falling" 1 C_made_falling := by
  refine cal_of F sc_made_falling hm hb (fun es M Q h => by obtain ⟨ns, rfl, hl, q⟩ := h; rfl) fun cdv A outer s H E es M Q hr h => ?_
  obtain ⟨ns, rfl, hl, q⟩ := h
  have nd := sc_made_falling.nd
  change SB _ _ [some _, none] _ _
  refine sb_one ?_
  refine s_ret ?_
  refine de_callTy call_tuple_of rfl B.tuple (by decide +kernel) ?_
  refine da_cons ?_
  refine de_lc (.nm 1) [("at", 1)] rfl nd (blkOk_by (own := [("at", 1)]) (N := ["tails", "at"]) (sc := defScope (topS 8)) (by decide +kernel)) (fun _ _ _ _ _ => by walk_at "pg") (by decide) (lc_pureI ?_)
  refine di_range1 rfl B.range ?_
  refine da_cons ?_
  refine de_callB call_len_seq rfl B.len PySem.boot_len ?_
  refine da_cons ?_
  refine de_var 0 rfl ?_
  refine da_nil ?_
  walk_at "b_len"
  refine da_nil ?_
  refine ⟨_, rfl, by walk_at "sd", by walk_at "sd", ?_⟩
  apply lcI_mk0
  case h1 => exact rfl
  case turn =>
    intro w hw
    try (rw [List.mem_range] at hw)
    refine ⟨_, rfl, fun D acc s H C cl fp => ?_⟩
    refine de_callB (cr_minA rfl) rfl B.min (by decide +kernel) ?_
    refine da_cons ?_
    refine de_slice sl_U ?_
    refine de_var 0 rfl ?_
    refine do_none ?_
    refine do_some ?_
    refine de_op op_addU ?_
    refine de_var 1 rfl ?_
    refine de_int ?_
    walk_at "op+"
    refine ⟨_, rfl, ?_⟩
    walk_at "sl"
    refine da_nil ?_
    walk_at "b_min"
    exact ⟨rfl, rfl⟩
  case len => walk_at "sd"
  refine da_nil ?_
  walk_at "b_tuple"
  refine q_of q ?_; simp [mf]

theorem sc_at_most : FnScope ["tails", "others", "tail", "other"] ["tails", "others"] (defScope (topS 9)) := ⟨rfl, rfl, rfl, by decide +kernel, rfl, by decide +kernel, by decide +kernel⟩
def C_at_most : Ctr := fun es M Q => ∃ xs ys : List Int, es = [.d (tN xs), .d (tN ys)] ∧ xs.length ≤ 1000 ∧ Q (.d (.bool (atMost xs ys))) M
theorem c_at_most (F : Fun K "at_most" "at_most" (topS 9) f fd) (hm : mg "at_most" = some (.ref f)) (hb : L2.Binds K fd ["tails", "others"] []) (B : Bt mg) : Cal P w K mg base "at_most" 1 C_at_most := by
  refine cal_of F sc_at_most hm hb (fun es M Q h => by obtain ⟨xs, ys, rfl, hl, q⟩ := h; rfl) fun cdv A outer s H E es M Q hr h => ?_
  obtain ⟨xs, ys, rfl, hl, q⟩ := h
  have nd := sc_at_most.nd
  change SB _ _ [some _, some _, none, none] _ _
  refine sb_one ?_
  refine s_ret ?_
  refine de_callB (cr_all rfl) rfl B.all (by decide +kernel) ?_
  refine da_cons ?_
  refine de_lc (.tp (.cons (.nm 2) (.cons (.nm 3) .nil))) [("tail", 2), ("other", 3)] rfl nd (blkOk_by (own := [("tail", 2), ("other", 3)]) (N := ["tails", "others", "tail", "other"]) (sc := defScope (topS 9)) (by decide +kernel)) (fun _ _ _ _ _ => by walk_at "pg") (by decide) (lc_pureB ?_)
  refine di_zipI rfl B.zip ?_
  refine da_cons ?_
  refine de_var 0 rfl ?_
  refine da_cons ?_
  refine de_var 1 rfl ?_
  refine da_nil ?_
  refine ⟨_, _,  (by first | exact Or.inl rfl | exact Or.inr rfl | rfl), ?_⟩
  apply lcB_mk0
  case h1 => exact rfl
  case turn =>
    intro w hw
    try (rw [List.mem_range] at hw)
    refine ⟨_, rfl, fun D acc s H C cl fp => ?_⟩
    refine de_cmp op_le ?_
    refine de_var 2 rfl ?_
    refine de_var 3 rfl ?_
    walk_at "op<="
    exact ⟨rfl, rfl⟩
  case len => walk_at "sd"
  refine da_nil ?_
  walk_at "b_all"
  exact q

theorem sc_fits_all : FnScope ["sizes", "counts"] ["sizes", "counts"] (defScope (topS 10)) := ⟨rfl, rfl, rfl, by decide +kernel, rfl, by decide +kernel, by decide +kernel⟩
def C_fits_all : Ctr := fun es M Q => ∃ ss ns : List Int, es = [.d (tN ss), .d (tN ns)] ∧ ns.length ≤ 1000 ∧ ss.length ≤ 1000 ∧ Q (.d (.bool (atMost (stails ns.length ss) (tails ns)))) M
theorem c_fits_all (F : Fun K "fits_all" "fits_all" (topS 10) f fd) (hm : mg "fits_all" = some (.ref f)) (hb : L2.Binds K fd ["sizes", "counts"] []) (B : Bt mg) (c_tails_of_sizes : Cal P w K mg base "tails_of_sizes" 1 C_tails_of_sizes) (c_tails_of : Cal P w K mg base "tails_of" 1 C_tails_of) (c_at_most : Cal P w K mg base "at_most" 1 C_at_most) : Cal P w K mg base "fits_all" 2 C_fits_all := by
  refine cal_of F sc_fits_all hm hb (fun es M Q h => by obtain ⟨ss, ns, rfl, hl, hs, q⟩ := h; rfl) fun cdv A outer s H E es M Q hr h => ?_
  obtain ⟨ss, ns, rfl, hl, hs, q⟩ := h
  have nd := sc_fits_all.nd
  change SB _ _ [some _, some _] _ _
  refine sb_one ?_
  refine s_ret ?_
  refine de_call c_at_most hr (by decide) rfl ?_
  refine da_cons ?_
  refine de_call c_tails_of_sizes hr (by decide) rfl ?_
  refine da_cons ?_
  refine de_callB call_len_seq rfl B.len PySem.boot_len ?_
  refine da_cons ?_
  refine de_var 1 rfl ?_
  refine da_nil ?_
  walk_at "b_len"
  refine da_cons ?_
  refine de_var 0 rfl ?_
  refine da_nil ?_
  refine ⟨_, _, rfl, by walk_at "sd", by walk_at "sd", ?_⟩
  refine da_cons ?_
  refine de_call c_tails_of hr (by decide) rfl ?_
  refine da_cons ?_
  refine de_var 1 rfl ?_
  refine da_nil ?_
  refine ⟨_, rfl, by walk_at "sd", ?_⟩
  refine da_nil ?_
  refine ⟨_, _, rfl, by walk_at "sd", ?_⟩
  exact q

theorem sc_least_box : FnScope ["counts", "size", "found", "box"] ["counts", "size"] (defScope (topS 11)) := ⟨rfl, rfl, rfl, by decide +kernel, rfl, by decide +kernel, by decide +kernel⟩
def C_least_box : Ctr := fun es M Q => ∃ (ns : List Int) (i : Int), es = [.d (tN ns), .d (.int i)] ∧ ns.length ≤ 1000 ∧ (1 ≤ i ∧ i ≤ 1000) ∧ Q (.d (lbD (lbs ns i))) M
theorem c_least_box (F : Fun K "least_box" "least_box" (topS 11) f fd) (hm : mg "least_box" = some (.ref f)) (hb : L2.Binds K fd ["counts", "size"] []) (B : Bt mg) : Cal P w K mg base "least_box" 1 C_least_box := by
  refine cal_of F sc_least_box hm hb (fun es M Q h => by obtain ⟨ns, i, rfl, hl, hi, q⟩ := h; rfl) fun cdv A outer s H E es M Q hr h => ?_
  obtain ⟨ns, i, rfl, hl, hi, q⟩ := h
  have nd := sc_least_box.nd
  change SB _ _ [some _, some _, none, none] _ _
  refine sb_cons ?_
  refine s_setLc (i := 2) (.nm 3) [("box", 3)] rfl nd rfl rfl (sw_true rfl rfl rfl (by decide +kernel)) (blkOk_by (own := [("box", 3)]) (N := ["counts", "size", "found", "box"]) (sc := defScope (topS 11)) (by decide +kernel)) (fun _ _ _ _ _ => by walk_at "pg") (by decide) (lc_pureI ?_)
  refine di_range2 rfl B.range ?_
  refine da_cons ?_
  refine de_var 1 rfl ?_
  refine da_cons ?_
  refine de_op op_addU ?_
  refine de_callB call_len_seq rfl B.len PySem.boot_len ?_
  refine da_cons ?_
  refine de_var 0 rfl ?_
  refine da_nil ?_
  walk_at "b_len"
  refine de_int ?_
  walk_at "op+"
  refine da_nil ?_
  refine ⟨_,_, rfl, by walk_at "sd", ?_⟩
  apply lcI_mk
  case h1 => exact rfl
  case turn =>
    intro w hw
    try (rw [List.mem_range] at hw)
    refine ⟨_, rfl, fun D acc => ⟨?ts, ?el⟩⟩
    case ts =>
      intro s H C cl fp
      refine dts_one ?_
      refine dt_cmp op_gt ?_
      refine de_ix ix_seq ?_
      refine de_var 0 rfl ?_
      refine de_op op_sub ?_
      refine de_var 3 rfl ?_
      refine de_int ?_
      walk_at "op-"
      walk_at "ix"
      refine de_int ?_
      walk_at "op>"
      refine ⟨_, rfl, ?_⟩
      exact ⟨rfl, rfl⟩
    case el =>
      intro hf s H C cl fp
      refine de_var 3 rfl ?_
      exact ⟨rfl, rfl⟩
  case len => walk_at "sd"
  refine sb_one ?_
  refine s_ret ?_
  apply de_ifeD
  case h =>
    refine dt_truth ?_
    refine de_var 2 rfl ?_
    walk_at "tru"
    exact ⟨rfl, rfl⟩
  case h1 =>
    intro hb
    refine de_ix ix_seq ?_
    refine de_var 2 rfl ?_
    refine de_int ?_
    refine x_lI (by decide) (by simpa [List.isEmpty_iff] using found_pos hb) ?_
    exact ⟨rfl, rfl⟩
  case h2 =>
    intro hb
    refine de_non ?_
    exact ⟨rfl, rfl⟩
  refine q_of q ?_
  exact lbD_of _

theorem sc_changed_by : FnScope ["counts", "box", "many"] ["counts", "box", "many"] (defScope (topS 13)) := ⟨rfl, rfl, rfl, by decide +kernel, rfl, by decide +kernel, by decide +kernel⟩
def C_changed_by : Ctr := fun es M Q => ∃ (ns : List Int) (i k : Int), es = [.d (tN ns), .d (.int i), .d (.int k)] ∧ ns.length ≤ 1000 ∧ (1 ≤ i ∧ i ≤ ns.length) ∧ Q (.d (tN (addAt ns i k))) M
theorem c_changed_by (F : Fun K "changed_by" "changed_by" (topS 13) f fd) (hm : mg "changed_by" = some (.ref f)) (hb : L2.Binds K fd ["counts", "box", "many"] []) (B : Bt mg) : Cal P w K mg base "changed_by" 1 C_changed_by := by
  refine cal_of F sc_changed_by hm hb (fun es M Q h => by obtain ⟨ns, i, k, rfl, hl, hi, q⟩ := h; rfl) fun cdv A outer s H E es M Q hr h => ?_
  obtain ⟨ns, i, k, rfl, hl, hi, q⟩ := h
  have nd := sc_changed_by.nd
  change SB _ _ [some _, some _, some _] _ _
  refine sb_one ?_
  refine s_ret ?_
  refine de_tup ?_
  refine da_star ?_
  refine de_slice sl_U ?_
  refine de_var 0 rfl ?_
  refine do_none ?_
  refine do_some ?_
  refine de_op op_sub ?_
  refine de_var 1 rfl ?_
  refine de_int ?_
  walk_at "op-"
  refine ⟨_, rfl, ?_⟩
  walk_at "sl"
  refine ⟨_, by first | exact .t | exact .l, ?_⟩
  refine da_cons ?_
  refine de_op op_addU ?_
  refine de_ix ix_seq ?_
  refine de_var 0 rfl ?_
  refine de_op op_sub ?_
  refine de_var 1 rfl ?_
  refine de_int ?_
  walk_at "op-"
  walk_at "ix"
  refine de_var 2 rfl ?_
  walk_at "op+"
  refine da_star ?_
  refine de_slice sl_U ?_
  refine de_var 0 rfl ?_
  refine do_some ?_
  refine de_var 1 rfl ?_
  refine ⟨_, rfl, ?_⟩
  refine do_none ?_
  walk_at "sl"
  refine ⟨_, by first | exact .t | exact .l, ?_⟩
  refine da_nil ?_
  walk_at "star"
  exact q

theorem sc_taken_from : FnScope ["counts", "box"] ["counts", "box"] (defScope (topS 14)) := ⟨rfl, rfl, rfl, by decide +kernel, rfl, by decide +kernel, by decide +kernel⟩
def C_taken_from : Ctr := fun es M Q => ∃ (ns : List Int) (i : Int), es = [.d (tN ns), .d (.int i)] ∧ ns.length ≤ 1000 ∧ (1 ≤ i ∧ i ≤ ns.length) ∧ ns.getD (i - 1).toNat 0 ≠ 0 ∧ Q (.d (tN (addAt ns i (-1)))) M
theorem c_taken_from (F : Fun K "taken_from" "taken_from" (topS 14) f fd) (hm : mg "taken_from" = some (.ref f)) (hb : L2.Binds K fd ["counts", "box"] []) (B : Bt mg) (c_changed_by : Cal P w K mg base "changed_by" 1 C_changed_by) : Cal P w K mg base "taken_from" 2 C_taken_from := by
  refine cal_of F sc_taken_from hm hb (fun es M Q h => by obtain ⟨ns, i, rfl, hl, hi, h0, q⟩ := h; rfl) fun cdv A outer s H E es M Q hr h => ?_
  obtain ⟨ns, i, rfl, hl, hi, h0, q⟩ := h
  have nd := sc_taken_from.nd
  change SB _ _ [some _, some _] _ _
  refine sb_cons ?_
  refine s_if ?_
  refine dt_cmp (op_eqU hr.units) ?_
  refine de_ix ix_seq ?_
  refine de_var 0 rfl ?_
  refine de_op op_sub ?_
  refine de_var 1 rfl ?_
  refine de_int ?_
  walk_at "op-"
  walk_at "ix"
  refine de_int ?_
  walk_at "op=="
  refine ⟨_, rfl, ?_⟩
  refine ⟨fun hb => ?_, fun hb => ?_⟩
  ·
    refine sb_one ?_
    exact s_never (h0 (of_decide_eq_true hb))
  refine sb_nil ?_
  refine sb_one ?_
  refine s_ret ?_
  refine de_call c_changed_by hr (by decide) rfl ?_
  refine da_cons ?_
  refine de_var 0 rfl ?_
  refine da_cons ?_
  refine de_var 1 rfl ?_
  refine da_cons ?_
  refine de_un un_neg ?_
  refine de_int ?_
  refine o_neg ?_
  refine da_nil ?_
  refine ⟨_, _, _, rfl, by walk_at "sd", by walk_at "sd", ?_⟩
  exact q

theorem sc_counts_of : FnScope ["tails", "counts", "tail", "later", "many"] ["tails"] (defScope (topS 7)) := ⟨rfl, rfl, rfl, by decide +kernel, rfl, by decide +kernel, by decide +kernel⟩
def C_counts_of : Ctr := fun es M Q => ∃ ns : List Int, es = [.d (tN ns)] ∧ ns.length ≤ 1000 ∧ (∀ c ∈ cnts ns, 0 ≤ c) ∧ Q (.d (tN (cnts ns))) M
theorem c_counts_of (F : Fun K "counts_of" "counts_of" (topS 7) f fd) (hm : mg "counts_of" = some (.ref f)) (hb : L2.Binds K fd ["tails"] []) (B : Bt mg) : Cal P w K mg base "counts_of" 1 C_counts_of := by
  refine cal_of F sc_counts_of hm hb (fun es M Q h => by obtain ⟨ns, rfl, hl, h0, q⟩ := h; rfl) fun cdv A outer s H E es M Q hr h => ?_
  obtain ⟨ns, rfl, hl, h0, q⟩ := h
  have nd := sc_counts_of.nd
  change SB _ _ [some _, none, none, none, none] _ _
  refine sb_cons ?_
  refine s_setLc (i := 1) (.tp (.cons (.nm 2) (.cons (.nm 3) .nil))) [("tail", 2), ("later", 3)] rfl nd rfl rfl (sw_true rfl rfl rfl (by decide +kernel)) (blkOk_by (own := [("tail", 2), ("later", 3)]) (N := ["tails", "counts", "tail", "later", "many"]) (sc := defScope (topS 7)) (by decide +kernel)) (fun _ _ _ _ _ => by walk_at "pg") (by decide) (lc_pureI ?_)
  refine di_zipI rfl B.zip ?_
  refine da_cons ?_
  refine de_var 0 rfl ?_
  refine da_cons ?_
  refine de_tup ?_
  refine da_star ?_
  refine de_slice sl_U ?_
  refine de_var 0 rfl ?_
  refine do_some ?_
  refine de_int ?_
  refine ⟨_, rfl, ?_⟩
  refine do_none ?_
  walk_at "sl"
  refine ⟨_, by first | exact .t | exact .l, ?_⟩
  refine da_cons ?_
  refine de_int ?_
  refine da_nil ?_
  walk_at "star"
  refine da_nil ?_
  refine ⟨_, _,  (by first | exact Or.inl rfl | exact Or.inr rfl | rfl), ?_⟩
  apply lcI_mk0
  case h1 => exact rfl
  case turn =>
    intro w hw
    try (rw [List.mem_range] at hw)
    refine ⟨_, rfl, fun D acc s H C cl fp => ?_⟩
    refine de_op op_sub ?_
    refine de_var 2 rfl ?_
    refine de_var 3 rfl ?_
    walk_at "op-"
    exact ⟨rfl, rfl⟩
  case len => walk_at "sd"
  refine sb_cons ?_
  refine s_if ?_
  refine dt_not ?_
  refine dt_val ?_
  refine de_callB (cr_all rfl) rfl B.all (by decide +kernel) ?_
  refine da_cons ?_
  refine de_lc (.nm 4) [("many", 4)] rfl nd (blkOk_by (own := [("many", 4)]) (N := ["tails", "counts", "tail", "later", "many"]) (sc := defScope (topS 7)) (by decide +kernel)) (fun _ _ _ _ _ => by walk_at "pg") (by decide) (lc_pureB ?_)
  first | (refine di_list ?_; refine de_var 1 rfl ?_; refine ⟨_, rfl, ?_⟩) | (refine di_tup ?_; refine de_var 1 rfl ?_; refine ⟨_, rfl, ?_⟩)
  apply lcB_mk0
  case h1 => exact rfl
  case turn =>
    intro w hw
    try (rw [List.mem_range] at hw)
    refine ⟨_, rfl, fun D acc s H C cl fp => ?_⟩
    refine de_cmp op_ge ?_
    refine de_var 4 rfl ?_
    refine de_int ?_
    walk_at "op>="
    exact ⟨rfl, rfl⟩
  case len => walk_at "sd"
  refine da_nil ?_
  walk_at "b_all"
  refine ⟨_, rfl, ?_⟩
  refine ⟨fun hb => ?_, fun hb => ?_⟩
  ·
    refine sb_one ?_
    exact s_never (cnts_ok h0 hb)
  refine sb_nil ?_
  refine sb_one ?_
  refine s_ret ?_
  refine de_callTy call_tuple_of rfl B.tuple (by decide +kernel) ?_
  refine da_cons ?_
  refine de_var 1 rfl ?_
  refine da_nil ?_
  walk_at "b_tuple"
  exact q

theorem sc_less_greatest : FnScope ["counts", "many", "tail"] ["counts", "many"] (defScope (topS 12)) := ⟨rfl, rfl, rfl, by decide +kernel, rfl, by decide +kernel, by decide +kernel⟩
def C_less_greatest : Ctr := fun es M Q => ∃ (ns : List Int) (k : Int), es = [.d (tN ns), .d (.int k)] ∧ ns.length ≤ 1000 ∧ (∀ c ∈ ns, 0 ≤ c) ∧ 0 ≤ k ∧ Q (.d (tN (lessG ns k))) M
theorem c_less_greatest (F : Fun K "less_greatest" "less_greatest" (topS 12) f fd) (hm : mg "less_greatest" = some (.ref f)) (hb : L2.Binds K fd ["counts", "many"] []) (B : Bt mg) (c_tails_of : Cal P w K mg base "tails_of" 1 C_tails_of) (c_counts_of : Cal P w K mg base "counts_of" 1 C_counts_of) : Cal P w K mg base "less_greatest" 2 C_less_greatest := by
  refine cal_of F sc_less_greatest hm hb (fun es M Q h => by obtain ⟨ns, k, rfl, hl, hp, hk, q⟩ := h; rfl) fun cdv A outer s H E es M Q hr h => ?_
  obtain ⟨ns, k, rfl, hl, hp, hk, q⟩ := h
  have nd := sc_less_greatest.nd
  change SB _ _ [some _, some _, none] _ _
  refine sb_one ?_
  refine s_ret ?_
  refine de_call c_counts_of hr (by decide) rfl ?_
  refine da_cons ?_
  refine de_callTy call_tuple_of rfl B.tuple (by decide +kernel) ?_
  refine da_cons ?_
  refine de_lc (.nm 2) [("tail", 2)] rfl nd (blkOk_by (own := [("tail", 2)]) (N := ["counts", "many", "tail"]) (sc := defScope (topS 12)) (by decide +kernel)) (fun _ _ _ _ _ => by walk_at "pg") (by decide) (lc_pureI ?_)
  first | (refine di_list ?_; refine de_call c_tails_of hr (by decide) rfl ?_; refine da_cons ?_; refine de_var 0 rfl ?_; refine da_nil ?_; refine ⟨_, rfl, by walk_at "sd", ?_⟩; refine ⟨_, rfl, ?_⟩) | (refine di_tup ?_; refine de_call c_tails_of hr (by decide) rfl ?_; refine da_cons ?_; refine de_var 0 rfl ?_; refine da_nil ?_; refine ⟨_, rfl, by walk_at "sd", ?_⟩; refine ⟨_, rfl, ?_⟩)
  apply lcI_mk0
  case h1 => exact rfl
  case turn =>
    intro w hw
    try (rw [List.mem_range] at hw)
    refine ⟨_, rfl, fun D acc s H C cl fp => ?_⟩
    refine de_callB (call_max2 rfl) rfl B.max (by decide +kernel) ?_
    refine da_cons ?_
    refine de_int ?_
    refine da_cons ?_
    refine de_op op_sub ?_
    refine de_var 2 rfl ?_
    refine de_var 1 rfl ?_
    walk_at "op-"
    refine da_nil ?_
    walk_at "b_max2"
    exact ⟨rfl, rfl⟩
  case len => walk_at "sd"
  refine da_nil ?_
  walk_at "b_tuple"
  refine da_nil ?_
  refine ⟨_, rfl, by walk_at "sd", lessG_nn hp hk, ?_⟩
  exact q

theorem sc_heard_tails : FnScope ["c", "came", "most", "many"] ["c", "came"] (defScope (topS 16)) := ⟨rfl, rfl, rfl, by decide +kernel, rfl, by decide +kernel, by decide +kernel⟩
def C_heard_tails : Ctr := fun es M Q => ∃ xs ys : List Int, es = [.d (tN xs), .d (tN ys)] ∧ xs.length ≤ 1000 ∧ Q (.d (tN (heard xs ys))) M
theorem c_heard_tails (F : Fun K "heard_tails" "heard_tails" (topS 16) f fd) (hm : mg "heard_tails" = some (.ref f)) (hb : L2.Binds K fd ["c", "came"] []) (B : Bt mg) (c_made_falling : Cal P w K mg base "made_falling" 1 C_made_falling) : Cal P w K mg base "heard_tails" 2 C_heard_tails := by
  refine cal_of F sc_heard_tails hm hb (fun es M Q h => by obtain ⟨xs, ys, rfl, hl, q⟩ := h; rfl) fun cdv A outer s H E es M Q hr h => ?_
  obtain ⟨xs, ys, rfl, hl, q⟩ := h
  have nd := sc_heard_tails.nd
  change SB _ _ [some _, some _, none, none] _ _
  refine sb_one ?_
  refine s_ret ?_
  refine de_call c_made_falling hr (by decide) rfl ?_
  refine da_cons ?_
  refine de_callTy call_tuple_of rfl B.tuple (by decide +kernel) ?_
  refine da_cons ?_
  refine de_lc (.tp (.cons (.nm 2) (.cons (.nm 3) .nil))) [("most", 2), ("many", 3)] rfl nd (blkOk_by (own := [("most", 2), ("many", 3)]) (N := ["c", "came", "most", "many"]) (sc := defScope (topS 16)) (by decide +kernel)) (fun _ _ _ _ _ => by walk_at "pg") (by decide) (lc_pureI ?_)
  refine di_zipI rfl B.zip ?_
  refine da_cons ?_
  refine de_var 0 rfl ?_
  refine da_cons ?_
  refine de_var 1 rfl ?_
  refine da_nil ?_
  refine ⟨_, _,  (by first | exact Or.inl rfl | exact Or.inr rfl | rfl), ?_⟩
  apply lcI_mk0
  case h1 => exact rfl
  case turn =>
    intro w hw
    try (rw [List.mem_range] at hw)
    refine ⟨_, rfl, fun D acc s H C cl fp => ?_⟩
    refine de_op op_sub ?_
    refine de_var 2 rfl ?_
    refine de_var 3 rfl ?_
    walk_at "op-"
    exact ⟨rfl, rfl⟩
  case len => walk_at "sd"
  refine da_nil ?_
  walk_at "b_tuple"
  refine da_nil ?_
  refine ⟨_, rfl, by walk_at "sd", ?_⟩
  exact q
end
/-! ### the bag of draws -/
def bagOK (ds : List PyData) : Prop := ∃ (x s i : Int) (ns : List Int), ds = [.int x, .int s, .int i, lN ns] ∧ 0 ≤ i ∧ ns.length ≤ 64
def Hb (a : Addr) (k : Nat) (M : Mm) : Prop := ∃ ds, M[k]? = some (a, ds) ∧ bagOK ds
def Bg (a : Addr) (k : Nat) (M M' : Mm) : Prop := ∃ ds, bagOK ds ∧ M' = M.set k (a, ds)
theorem get_set {M : Mm} {k : Nat} {p q : Addr × List PyData} (h : M[k]? = some p) : (M.set k q)[k]? = some q := List.getElem?_set_self (List.getElem?_eq_some_iff.mp h).1
theorem Hb.to {a : Addr} {k : Nat} {M M' : Mm} (h : Hb a k M) (g : Bg a k M M') : Hb a k M' := by
  obtain ⟨ds, h1, _⟩ := h
  obtain ⟨es, h2, rfl⟩ := g
  exact ⟨es, get_set h1, h2⟩
theorem Bg.trans {a : Addr} {k : Nat} {M M1 M2 : Mm} (g : Bg a k M M1) (h : Bg a k M1 M2) : Bg a k M M2 := by
  obtain ⟨ds, _, rfl⟩ := g
  obtain ⟨es, h2, rfl⟩ := h
  exact ⟨es, h2, by rw [List.set_set]⟩
theorem Hb.refl {a : Addr} {k : Nat} {M : Mm} (h : Hb a k M) : Bg a k M M := by
  obtain ⟨ds, h1, h2⟩ := h
  refine ⟨ds, h2, List.ext_getElem? fun j => ?_⟩
  by_cases hj : k = j
  · subst hj; rw [get_set h1, h1]
  · rw [List.getElem?_set_ne hj]
theorem Hb.cons {a : Addr} {k : Nat} {M : Mm} {p : Addr × List PyData} (h : Hb a k M) : Hb a (k + 1) (p :: M) := h
theorem Bg.cons {a : Addr} {k : Nat} {M M' : Mm} {p : Addr × List PyData} (h : Bg a (k + 1) (p :: M) M') : ∃ M1, M' = p :: M1 ∧ Bg a k M M1 := by
  obtain ⟨ds, h1, rfl⟩ := h
  exact ⟨_, rfl, ds, h1, rfl⟩
theorem set_same {M : Mm} {k : Nat} {p : Addr × List PyData} (h : M[k]? = some p) : M = M.set k p := List.ext_getElem? fun j => by
  by_cases hj : k = j
  · subst hj; rw [get_set h, h]
  · rw [List.getElem?_set_ne hj]
theorem take_snoc {α : Type} {xs : List α} {i : Nat} {x : α} (h : xs[i]? = some x) : xs.take (i + 1) = xs.take i ++ [x] := by rw [List.take_add_one, h]; rfl
theorem getD_mem {ns : List Int} {i : Nat} (h : i < ns.length) : ns.getD i 0 ∈ ns := by
  rw [List.getD_eq_getElem?_getD, List.getElem?_eq_getElem h]; exact List.getElem_mem h
section
variable {X : Cx} {st : Stmt} {rest : List Stmt} {ρ : Rho} {M : Mm} {P : Pst}
/-- a statement, what holds after it, the rest -/
theorem sb_mid (J : Rho → Mm → Prop) (h : S1 X st ρ M { P with N := J }) (q : ∀ ρ' M', J ρ' M' → SB X rest ρ' M' P) : SB X (st :: rest) ρ M P :=
  sb_cons (s1_imp h fun D σ H hE hM n r b c => ⟨hE, hM, fun σ' H' ρ' M' x e m z => n σ' H' ρ' M' x e m (q ρ' M' z), r, b, c⟩)
end
section
variable {P : Program} {w : World} {K : PySem.W.Frag} {mg : Str → Option Value} {base : Heap} {f : Addr} {fd : FuncData}
theorem sc_law_take : FnScope ["bag", "many", "cell", "stirred", "value", "begin", "second"] ["bag", "many"] (defScope (topS 22)) := ⟨rfl, rfl, rfl, by decide +kernel, rfl, by decide +kernel, by decide +kernel⟩
def C_law_take : Ctr := fun es M Q => ∃ (a : Addr) (n : Int) (k : Nat), es = [.m a, .d (.int n)] ∧ (0 < n ∧ n < 2 ^ 30) ∧ Hb a k M ∧ ∀ v M', 0 ≤ v → v < n → Bg a k M M' → Q (.d (.int v)) M'
theorem c_law_take (F : Fun K "_law_take" "_law_take" (topS 22) f fd) (hm : mg "_law_take" = some (.ref f)) (hb : L2.Binds K fd ["bag", "many"] []) (B : Bt mg) : Cal P w K mg base "_law_take" 1 C_law_take := by
  refine cal_of F sc_law_take hm hb (fun es M Q h => by obtain ⟨a, n, k, rfl, hn, hB, q⟩ := h; rfl) fun cdv A outer s H E es M Q hr h => ?_
  obtain ⟨a, n, k, rfl, hn, hB, q⟩ := h
  obtain ⟨ds, hk, x, sd, i, ns, rfl, hi, hnl⟩ := hB
  have nd := sc_law_take.nd
  change SB _ _ [some _, some _, none, none, none, none, none] _ _
  refine sb_mid (fun ρ' M' => ∃ (x sd i : Int) (c t : Option Ent), 0 ≤ i ∧ ρ' = [some (.m a), some (.d (.int n)), c, t, none, none, none] ∧ M' = M.set k (a, [.int x, .int sd, .int i, lN ns])) ?_ ?_
  refine s_if ?_
  refine dt_cmp (op_eqU hr.units) ?_
  refine de_ix ix_seq ?_
  refine de_var 0 rfl ?_
  refine de_int ?_
  refine o_ixM k (by first | exact hk2 | exact hk1 | exact hk) rfl ?_
  refine de_int ?_
  walk_at "op=="
  refine ⟨_, rfl, ?_⟩
  refine ⟨fun hb => ?_, fun hb => ?_⟩
  ·
    refine sb_cons ?_
    refine s_set (i := 2) nd rfl (Or.inl rfl) ?_
    refine de_ix ix_seq ?_
    refine de_op op_addU ?_
    refine de_slice sl_U ?_
    refine de_ix ix_seq ?_
    refine de_var 0 rfl ?_
    refine de_int ?_
    refine o_ixM k (by first | exact hk2 | exact hk1 | exact hk) rfl ?_
    refine do_some ?_
    refine de_ix ix_seq ?_
    refine de_var 0 rfl ?_
    refine de_int ?_
    refine o_ixM k (by first | exact hk2 | exact hk1 | exact hk) rfl ?_
    refine ⟨_, rfl, ?_⟩
    refine do_none ?_
    walk_at "sl"
    refine de_lst ?_
    refine da_cons ?_
    refine de_int ?_
    refine da_nil ?_
    refine ⟨[_], rfl, by decide, ?_⟩
    walk_at "op+"
    refine de_int ?_
    walk_at "ix"
    refine sb_cons ?_
    refine s_augIx ip_add ?_
    refine de_var 0 rfl ?_
    refine de_int ?_
    refine ⟨a, 2, k, _, _, rfl, rfl, hk, rfl, ?_⟩
    refine de_int ?_
    refine ⟨k, _, _, rfl, hk, by walk_at "sd", ?_⟩
    have hk1 := get_set (q := (a, [PyData.int x, .int sd, .int (i + 1), lN ns])) hk
    refine sb_mid (fun ρ' M' => ∃ (x c : Int), ρ' = [some (.m a), some (.d (.int n)), some (.d (.int c)), none, none, none, none] ∧ M' = M.set k (a, [.int x, .int sd, .int (i + 1), lN ns])) ?_ ?_
    refine s_if ?_
    refine dt_cmp op_ge ?_
    refine de_var 2 rfl ?_
    refine de_op op_pow ?_
    refine de_int ?_
    refine de_int ?_
    walk_at "op**"
    walk_at "op>="
    refine ⟨_, rfl, ?_⟩
    refine ⟨fun hb => ?_, fun hb => ?_⟩
    ·
      refine sb_one ?_
      refine s_setIx ?_
      refine de_var 2 rfl ?_
      refine de_var 0 rfl ?_
      refine de_int ?_
      refine ⟨_, a, k, _, 0, rfl, rfl, rfl, hk1, by simp, ?_⟩
      exact ⟨_, _, rfl, by rw [List.set_set]; rfl⟩
    ·
      refine sb_nil ?_
      exact ⟨_, _, rfl, rfl⟩
    rintro ρ' M' ⟨x, c, rfl, rfl⟩
    have hk2 := get_set (q := (a, [PyData.int x, .int sd, .int (i + 1), lN ns])) hk
    refine sb_cons ?_
    refine s_set (i := 3) nd rfl (Or.inl rfl) ?_
    refine de_op op_addU ?_
    refine de_op op_addU ?_
    refine de_op op_mulU ?_
    refine de_ix ix_seq ?_
    refine de_var 0 rfl ?_
    refine de_int ?_
    refine o_ixM k (by first | exact hk2 | exact hk1 | exact hk) rfl ?_
    refine de_int ?_
    walk_at "op*"
    refine de_op op_mod ?_
    refine de_callTy call_int1 rfl B.int (by decide +kernel) ?_
    refine da_cons ?_
    refine de_var 2 rfl ?_
    refine da_nil ?_
    walk_at "b_int"
    refine de_int ?_
    walk_at "op%"
    walk_at "op+"
    refine de_op op_mulU ?_
    refine de_int ?_
    refine de_ix ix_seq ?_
    refine de_var 0 rfl ?_
    refine de_int ?_
    refine o_ixM k (by first | exact hk2 | exact hk1 | exact hk) rfl ?_
    refine m_int (Or.inl ⟨by decide, by decide⟩) ?_
    walk_at "op+"
    refine sb_one ?_
    refine s_setIx ?_
    refine de_op op_mod ?_
    refine de_callTy call_int1 rfl B.int (by decide +kernel) ?_
    refine da_cons ?_
    refine de_var 3 rfl ?_
    refine da_nil ?_
    walk_at "b_int"
    refine de_int ?_
    walk_at "op%"
    refine de_var 0 rfl ?_
    refine de_int ?_
    refine ⟨_, a, k, _, 1, rfl, rfl, rfl, hk2, by simp, ?_⟩
    exact ⟨x, _, i + 1, _, _, by omega, rfl, by rw [List.set_set]; rfl⟩
  ·
    refine sb_nil ?_
    exact ⟨x, sd, i, _, _, hi, rfl, set_same hk⟩
  rintro ρ' M' ⟨x, sd, i, c, t, hi, rfl, rfl⟩
  have hk1 := get_set (q := (a, [PyData.int x, .int sd, .int i, lN ns])) hk
  refine sb_cons ?_
  refine s_if ?_
  refine dt_cmp op_gt ?_
  refine de_ix ix_seq ?_
  refine de_var 0 rfl ?_
  refine de_int ?_
  refine o_ixM k (by first | exact hk2 | exact hk1 | exact hk) rfl ?_
  refine de_int ?_
  walk_at "op>"
  refine ⟨_, rfl, ?_⟩
  refine ⟨fun hb => ?_, fun hb => ?_⟩
  ·
    refine sb_cons ?_
    refine s_set (i := 4) nd rfl (Or.inl rfl) ?_
    refine de_op op_mod ?_
    refine de_callTy call_int1 rfl B.int (by decide +kernel) ?_
    refine da_cons ?_
    refine de_ix ix_seq ?_
    refine de_var 0 rfl ?_
    refine de_int ?_
    refine o_ixM k (by first | exact hk2 | exact hk1 | exact hk) rfl ?_
    refine da_nil ?_
    walk_at "b_int"
    refine de_var 1 rfl ?_
    walk_at "op%"
    refine sb_cons ?_
    refine s_setIx ?_
    refine de_op op_fdiv ?_
    refine de_callTy call_int1 rfl B.int (by decide +kernel) ?_
    refine da_cons ?_
    refine de_ix ix_seq ?_
    refine de_var 0 rfl ?_
    refine de_int ?_
    refine o_ixM k (by first | exact hk2 | exact hk1 | exact hk) rfl ?_
    refine da_nil ?_
    walk_at "b_int"
    refine de_var 1 rfl ?_
    walk_at "op//"
    refine de_var 0 rfl ?_
    refine de_int ?_
    refine ⟨_, a, k, _, 0, rfl, rfl, rfl, hk1, by simp, ?_⟩
    refine sb_one ?_
    refine s_ret ?_
    refine de_var 4 rfl ?_
    rw [List.set_set]
    exact q _ _ (Int.emod_nonneg _ (by omega)) (Int.emod_lt_of_pos _ hn.1) ⟨_, ⟨_, _, _, _, rfl, hi, hnl⟩, rfl⟩
  refine sb_nil ?_
  refine sb_cons ?_
  refine s_set (i := 5) nd rfl (Or.inl rfl) ?_
  refine de_op op_mod ?_
  refine de_callTy call_int1 rfl B.int (by decide +kernel) ?_
  refine da_cons ?_
  refine de_op op_mulU ?_
  refine de_op op_addU ?_
  refine de_ix ix_seq ?_
  refine de_var 0 rfl ?_
  refine de_int ?_
  refine o_ixM k (by first | exact hk2 | exact hk1 | exact hk) rfl ?_
  refine de_int ?_
  walk_at "op+"
  refine de_int ?_
  walk_at "op*"
  refine da_nil ?_
  walk_at "b_int"
  refine de_int ?_
  walk_at "op%"
  refine sb_cons ?_
  refine s_set (i := 6) nd rfl (Or.inl rfl) ?_
  refine de_op op_mod ?_
  refine de_callTy call_int1 rfl B.int (by decide +kernel) ?_
  refine da_cons ?_
  refine de_op op_mulU ?_
  refine de_op op_mod ?_
  refine de_callTy call_int1 rfl B.int (by decide +kernel) ?_
  refine da_cons ?_
  refine de_op op_mulU ?_
  refine de_var 5 rfl ?_
  refine de_var 5 rfl ?_
  walk_at "op*"
  refine da_nil ?_
  walk_at "b_int"
  refine de_int ?_
  walk_at "op%"
  refine de_int ?_
  walk_at "op*"
  refine da_nil ?_
  walk_at "b_int"
  refine de_int ?_
  walk_at "op%"
  refine sb_one ?_
  refine s_ret ?_
  refine de_op op_mod ?_
  refine de_callTy call_int1 rfl B.int (by decide +kernel) ?_
  refine da_cons ?_
  refine de_op op_fdiv ?_
  refine de_var 6 rfl ?_
  refine de_int ?_
  walk_at "op//"
  refine da_nil ?_
  walk_at "b_int"
  refine de_var 1 rfl ?_
  walk_at "op%"
  exact q _ _ (Int.emod_nonneg _ (by omega)) (Int.emod_lt_of_pos _ hn.1) ⟨_, ⟨_, _, _, _, rfl, hi, hnl⟩, rfl⟩
theorem sc_law_bag : FnScope ["script", "cell"] ["script"] (defScope (topS 21)) := ⟨rfl, rfl, rfl, by decide +kernel, rfl, by decide +kernel, by decide +kernel⟩
def C_law_bag : Ctr := fun es M Q => ∃ ns : List Int, es = [.s (ns.map PyData.int)] ∧ ∀ p ds, bagOK ds → Q (.m p) ((p, ds) :: M)
theorem c_law_bag (F : Fun K "_law_bag" "_law_bag" (topS 21) f fd) (hm : mg "_law_bag" = some (.ref f)) (hb : L2.Binds K fd ["script"] []) (B : Bt mg) : Cal P w K mg base "_law_bag" 1 C_law_bag := by
  refine cal_of F sc_law_bag hm hb (fun es M Q h => by obtain ⟨ns, rfl, q⟩ := h; rfl) fun cdv A outer s H E es M Q hr h => ?_
  obtain ⟨ns, rfl, q⟩ := h
  have nd := sc_law_bag.nd
  change SB _ _ [some _, none] _ _
  refine sb_one ?_
  refine s_ret ?_
  refine de_lstM ?_
  refine da_cons ?_
  refine de_int ?_
  refine da_cons ?_
  refine de_int ?_
  refine da_cons ?_
  refine de_int ?_
  refine da_cons ?_
  refine de_lc (.nm 1) [("cell", 1)] rfl nd (blkOk_by (own := [("cell", 1)]) (N := ["script", "cell"]) (sc := defScope (topS 21)) (by decide +kernel)) (fun _ _ _ _ _ => by walk_at "pg") (by decide) (lc_pureI ?_)
  first | (refine di_list ?_; refine de_slice sl_U ?_; refine de_var 0 rfl ?_; refine do_none ?_; refine do_some ?_; refine de_int ?_; refine ⟨_, rfl, ?_⟩; walk_at "sl"; refine ⟨_, rfl, ?_⟩) | (refine di_tup ?_; refine de_slice sl_U ?_; refine de_var 0 rfl ?_; refine do_none ?_; refine do_some ?_; refine de_int ?_; refine ⟨_, rfl, ?_⟩; walk_at "sl"; refine ⟨_, rfl, ?_⟩)
  apply lcI_mk0
  case h1 => exact rfl
  case turn =>
    intro w hw
    try (rw [List.mem_range] at hw)
    refine ⟨_, rfl, fun D acc s H C cl fp => ?_⟩
    refine de_callB call_abs rfl B.abs (by decide +kernel) ?_
    refine da_cons ?_
    refine de_var 1 rfl ?_
    refine da_nil ?_
    walk_at "b_abs"
    exact ⟨rfl, rfl⟩
  case len => walk_at "sd"
  refine da_nil ?_
  refine ⟨[_, _, _, _], rfl, by first | decide | simp, fun p => ?_⟩
  exact q p _ ⟨_, _, _, _, rfl, by decide, by simp; omega⟩

theorem sc_law_some : FnScope ["bag", "things"] ["bag", "things"] (defScope (topS 23)) := ⟨rfl, rfl, rfl, by decide +kernel, rfl, by decide +kernel, by decide +kernel⟩
def C_law_some : Ctr := fun es M Q => ∃ (a : Addr) (ns : List Int) (k : Nat), es = [.m a, .d (lN ns)] ∧ (0 < ns.length ∧ ns.length ≤ 1000) ∧ Hb a k M ∧ ∀ v M', v ∈ ns → Bg a k M M' → Q (.d (.int v)) M'
theorem c_law_some (F : Fun K "_law_some" "_law_some" (topS 23) f fd) (hm : mg "_law_some" = some (.ref f)) (hb : L2.Binds K fd ["bag", "things"] []) (B : Bt mg) (c_law_take : Cal P w K mg base "_law_take" 1 C_law_take) : Cal P w K mg base "_law_some" 2 C_law_some := by
  refine cal_of F sc_law_some hm hb (fun es M Q h => by obtain ⟨a, ns, k, rfl, hl, hB, q⟩ := h; rfl) fun cdv A outer s H E es M Q hr h => ?_
  obtain ⟨a, ns, k, rfl, hl, hB, q⟩ := h
  have nd := sc_law_some.nd
  change SB _ _ [some _, some _] _ _
  refine sb_one ?_
  refine s_ret ?_
  refine de_ix ix_seq ?_
  refine de_var 1 rfl ?_
  refine de_call c_law_take hr (by decide) rfl ?_
  refine da_cons ?_
  refine de_var 0 rfl ?_
  refine da_cons ?_
  refine de_callB call_len_seq rfl B.len PySem.boot_len ?_
  refine da_cons ?_
  refine de_var 1 rfl ?_
  refine da_nil ?_
  walk_at "b_len"
  refine da_nil ?_
  refine ⟨_, _, k, rfl, by walk_at "sd", hB, fun v M1 hv0 hv1 hg => ?_⟩
  walk_at "ix"
  exact q _ _ (getD_mem (by omega)) hg

theorem sc_law_tails : FnScope ["counts", "at"] ["counts"] (defScope (topS 25)) := ⟨rfl, rfl, rfl, by decide +kernel, rfl, by decide +kernel, by decide +kernel⟩
def C_law_tails : Ctr := fun es M Q => ∃ ns : List Int, es = [.d (tN ns)] ∧ ns.length ≤ 1000 ∧ Q (.d (tN (tails ns))) M
theorem c_law_tails (F : Fun K "_law_tails" "_law_tails" (topS 25) f fd) (hm : mg "_law_tails" = some (.ref f)) (hb : L2.Binds K fd ["counts"] []) (B : Bt mg) : Cal P w K mg base "_law_tails" 1 C_law_tails := by
  refine cal_of F sc_law_tails hm hb (fun es M Q h => by obtain ⟨ns, rfl, hl, q⟩ := h; rfl) fun cdv A outer s H E es M Q hr h => ?_
  obtain ⟨ns, rfl, hl, q⟩ := h
  have nd := sc_law_tails.nd
  change SB _ _ [some _, none] _ _
  refine sb_one ?_
  refine s_ret ?_
  refine de_callTy call_tuple_of rfl B.tuple (by decide +kernel) ?_
  refine da_cons ?_
  refine de_lc (.nm 1) [("at", 1)] rfl nd (blkOk_by (own := [("at", 1)]) (N := ["counts", "at"]) (sc := defScope (topS 25)) (by decide +kernel)) (fun _ _ _ _ _ => by walk_at "pg") (by decide) (lc_pureI ?_)
  refine di_range1 rfl B.range ?_
  refine da_cons ?_
  refine de_callB call_len_seq rfl B.len PySem.boot_len ?_
  refine da_cons ?_
  refine de_var 0 rfl ?_
  refine da_nil ?_
  walk_at "b_len"
  refine da_nil ?_
  refine ⟨_, rfl, by walk_at "sd", by walk_at "sd", ?_⟩
  apply lcI_mk0
  case h1 => exact rfl
  case turn =>
    intro w hw
    try (rw [List.mem_range] at hw)
    refine ⟨_, rfl, fun D acc s H C cl fp => ?_⟩
    refine de_callB (cr_sumA rfl) rfl B.sum (by decide +kernel) ?_
    refine da_cons ?_
    refine de_slice sl_U ?_
    refine de_var 0 rfl ?_
    refine do_some ?_
    refine de_var 1 rfl ?_
    refine ⟨_, rfl, ?_⟩
    refine do_none ?_
    walk_at "sl"
    refine da_nil ?_
    walk_at "b_sum"
    exact ⟨rfl, rfl⟩
  case len => walk_at "sd"
  refine da_nil ?_
  walk_at "b_tuple"
  refine q_of q ?_; simp [tails]

theorem sc_law_size_tails : FnScope ["m", "sizes", "size", "at"] ["m", "sizes"] (defScope (topS 26)) := ⟨rfl, rfl, rfl, by decide +kernel, rfl, by decide +kernel, by decide +kernel⟩
def C_law_size_tails : Ctr := fun es M Q => ∃ (m : Int) (ss : List Int), es = [.d (.int m), .d (lN ss)] ∧ (0 ≤ m ∧ m ≤ 1000) ∧ ss.length ≤ 1000 ∧ Q (.d (tN (stails m ss))) M
theorem c_law_size_tails (F : Fun K "_law_size_tails" "_law_size_tails" (topS 26) f fd) (hm : mg "_law_size_tails" = some (.ref f)) (hb : L2.Binds K fd ["m", "sizes"] []) (B : Bt mg) : Cal P w K mg base "_law_size_tails" 1 C_law_size_tails := by
  refine cal_of F sc_law_size_tails hm hb (fun es M Q h => by obtain ⟨m, ss, rfl, hm, hl, q⟩ := h; rfl) fun cdv A outer s H E es M Q hr h => ?_
  obtain ⟨m, ss, rfl, hm, hl, q⟩ := h
  have nd := sc_law_size_tails.nd
  change SB _ _ [some _, some _, none, none] _ _
  refine sb_one ?_
  refine s_ret ?_
  refine de_callTy call_tuple_of rfl B.tuple (by decide +kernel) ?_
  refine da_cons ?_
  refine de_lc (.nm 3) [("at", 3)] rfl nd (blkOk_by (own := [("at", 3)]) (N := ["m", "sizes", "size", "at"]) (sc := defScope (topS 26)) (by decide +kernel)) (fun _ _ _ _ _ => by walk_at "pg") (by decide) (lc_pureI ?_)
  refine di_range1 rfl B.range ?_
  refine da_cons ?_
  refine de_var 0 rfl ?_
  refine da_nil ?_
  refine ⟨_, rfl, by walk_at "sd", by walk_at "sd", ?_⟩
  apply lcI_mk0
  case h1 => exact rfl
  case turn =>
    intro w hw
    try (rw [List.mem_range] at hw)
    refine ⟨_, rfl, fun D acc s H C cl fp => ?_⟩
    refine de_callB call_len_seq rfl B.len PySem.boot_len ?_
    refine da_cons ?_
    refine de_lc (.nm 2) [("size", 2)] rfl nd (blkOk_by (own := [("size", 2)]) (N := ["m", "sizes", "size", "at"]) (sc := relS _ (defScope (topS 26))) (by decide +kernel)) (fun _ _ _ _ _ => by walk_at "pg") (by decide) (lc_pureI ?_)
    first | (refine di_list ?_; refine de_var 1 rfl ?_; refine ⟨_, rfl, ?_⟩) | (refine di_tup ?_; refine de_var 1 rfl ?_; refine ⟨_, rfl, ?_⟩)
    apply lcI_mk
    case h1 => exact rfl
    case turn =>
      intro w hw
      try (rw [List.mem_range] at hw)
      refine ⟨_, rfl, fun D acc => ⟨?ts, ?el⟩⟩
      case ts =>
        intro s H C cl fp
        refine dts_one ?_
        refine dt_cmp op_gt ?_
        refine de_var 2 rfl ?_
        refine de_var 3 rfl ?_
        walk_at "op>"
        refine ⟨_, rfl, ?_⟩
        exact ⟨rfl, rfl⟩
      case el =>
        intro hf s H C cl fp
        refine de_var 2 rfl ?_
        exact ⟨rfl, rfl⟩
    case len => walk_at "sd"
    refine da_nil ?_
    walk_at "b_len"
    exact ⟨rfl, rfl⟩
  case len => walk_at "sd"
  refine da_nil ?_
  walk_at "b_tuple"
  refine q_of q ?_; simp [stails]
theorem sc_room_left : FnScope ["counts", "jams", "owed", "c", "came", "found", "there", "back", "later", "need"] ["counts", "jams", "owed", "c", "came"] (defScope (topS 17)) := ⟨rfl, rfl, rfl, by decide +kernel, rfl, by decide +kernel, by decide +kernel⟩
def C_room_left : Ctr := fun es M Q => ∃ (ns : List Int) (j : Int) (ow cs cm : List Int), es = [.d (tN ns), .d (.int j), .d (tN ow), .d (tN cs), .d (tN cm)] ∧ ns.length ≤ 1000 ∧ 0 < ns.length ∧ ow.length = ns.length ∧ cs.length = ns.length ∧ cm.length = ns.length ∧ Q (.d (tN (roomL ns j ow (heard cs cm)))) M
theorem c_room_left (F : Fun K "room_left" "room_left" (topS 17) f fd) (hm : mg "room_left" = some (.ref f)) (hb : L2.Binds K fd ["counts", "jams", "owed", "c", "came"] []) (B : Bt mg) (c_tails_of : Cal P w K mg base "tails_of" 1 C_tails_of) (c_heard_tails : Cal P w K mg base "heard_tails" 2 C_heard_tails) : Cal P w K mg base "room_left" 3 C_room_left := by
  refine cal_of F sc_room_left hm hb (fun es M Q h => by obtain ⟨ns, j, ow, cs, cm, rfl, hl, hn, h1, h2, h3, q⟩ := h; rfl) fun cdv A outer s H E es M Q hr h => ?_
  obtain ⟨ns, j, ow, cs, cm, rfl, hl, hn, h1, h2, h3, q⟩ := h
  have nd := sc_room_left.nd
  change SB _ _ [some _, some _, some _, some _, some _, none, none, none, none, none] _ _
  refine sb_cons ?_
  refine s_set (i := 5) nd rfl (Or.inl rfl) ?_
  refine de_lstM ?_
  refine da_nil ?_
  refine ⟨[], rfl, by decide, fun p => ?_⟩
  refine sb_cons ?_
  refine s_for (.tp (.cons (.nm 6) (.cons (.nm 7) (.cons (.nm 8) .nil)))) .never rfl (by walk_at "pg") ?_
  refine di_zip3I rfl B.zip ?_
  refine da_cons ?_
  refine de_call c_tails_of hr (by decide) rfl ?_
  refine da_cons ?_
  refine de_var 0 rfl ?_
  refine da_nil ?_
  refine ⟨_, rfl, by walk_at "sd", ?_⟩
  refine da_cons ?_
  refine de_var 2 rfl ?_
  refine da_cons ?_
  refine de_call c_heard_tails hr (by decide) rfl ?_
  refine da_cons ?_
  refine de_var 3 rfl ?_
  refine da_cons ?_
  refine de_var 4 rfl ?_
  refine da_nil ?_
  refine ⟨_, _, rfl, by walk_at "sd", ?_⟩
  refine da_nil ?_
  refine ⟨_, _, _,  (by first | exact Or.inl rfl | exact Or.inr rfl | rfl), ?_⟩
  have lr : (roomL ns j ow (heard cs cm)).length = ns.length := len_roomL h1 (by simp [heard]; omega)
  refine ⟨fun i ρ' M' => ∃ (t b l x : Option Ent), ρ' = [some (.d (tN ns)), some (.d (.int j)), some (.d (tN ow)), some (.d (tN cs)), some (.d (tN cm)), some (.m p), t, b, l, x] ∧ M' = (p, ((roomL ns j ow (heard cs cm)).take i).map PyData.int) :: M, ?_, fun i ρ' M' d hd hJ => ?_, fun ρ' M' hJ => ?_⟩
  · exact ⟨none, none, none, none, rfl, rfl⟩
  ·
    obtain ⟨t, b, l, x, rfl, rfl⟩ := hJ
    rw [List.getElem?_map] at hd
    cases hz : (zip3 (tails ns) ow (heard cs cm))[i]? with
    | none => rw [hz] at hd; cases hd
    | some w => ?_
    rw [hz] at hd
    have ed : pIII w = d := Option.some.inj hd
    subst ed
    refine ⟨_, rfl, ?_⟩
    refine sb_cons ?_
    refine s_set (i := 9) nd rfl (Or.inl rfl) ?_
    refine de_op op_addU ?_
    refine de_var 7 rfl ?_
    refine de_var 8 rfl ?_
    walk_at "op+"
    refine sb_one ?_
    refine s_expr ?_
    refine de_append ?_
    refine de_var 5 rfl ?_
    refine ⟨_, rfl, ⟨0, _, rfl⟩, ?_⟩
    apply de_ifeI
    case h =>
      refine dt_cmp op_gt ?_
      refine de_var 9 rfl ?_
      refine de_int ?_
      walk_at "op>"
      refine ⟨_, rfl, ?_⟩
      exact ⟨rfl, rfl⟩
    case h1 =>
      intro hb
      refine de_op op_sub ?_
      refine de_op op_sub ?_
      refine de_var 6 rfl ?_
      refine de_var 9 rfl ?_
      walk_at "op-"
      refine de_var 1 rfl ?_
      walk_at "op-"
      exact ⟨rfl, rfl⟩
    case h2 =>
      intro hb
      refine de_var 6 rfl ?_
      exact ⟨rfl, rfl⟩
    refine ⟨_, 0, _, rfl, rfl, by simp [lr]; omega, ?_⟩
    refine ⟨_, _, _, _, rfl, ?_⟩
    have e : (roomL ns j ow (heard cs cm))[i]? = some (if w.2.1 + w.2.2 > 0 then w.1 - (w.2.1 + w.2.2) - j else w.1) := by unfold roomL rooms; rw [List.getElem?_map, hz]; rfl
    rw [take_snoc e, List.map_append]
    simp
  obtain ⟨t, b, l, x, rfl, rfl⟩ := hJ
  rw [show (List.map pIII (zip3 (tails ns) ow (heard cs cm))).length = (roomL ns j ow (heard cs cm)).length by simp [roomL, rooms], List.take_length]
  refine sb_thaw 5 ?_ rfl
  refine sb_one ?_
  refine s_ret ?_
  refine de_callTy call_tuple_of rfl B.tuple (by decide +kernel) ?_
  refine da_cons ?_
  refine de_var 5 rfl ?_
  refine da_nil ?_
  walk_at "b_tuple"
  exact q

theorem sc_spare_tails : FnScope ["counts", "jams", "owed", "c", "came", "found"] ["counts", "jams", "owed", "c", "came"] (defScope (topS 19)) := ⟨rfl, rfl, rfl, by decide +kernel, rfl, by decide +kernel, by decide +kernel⟩
def C_spare_tails : Ctr := fun es M Q => ∃ (ns : List Int) (j : Int) (ow cs cm : List Int), es = [.d (tN ns), .d (.int j), .d (tN ow), .d (tN cs), .d (tN cm)] ∧ ns.length ≤ 1000 ∧ 0 < ns.length ∧ ow.length = ns.length ∧ cs.length = ns.length ∧ cm.length = ns.length ∧ Q (.d (oD (spareO ns j ow (heard cs cm)))) M
theorem c_spare_tails (F : Fun K "spare_tails" "spare_tails" (topS 19) f fd) (hm : mg "spare_tails" = some (.ref f)) (hb : L2.Binds K fd ["counts", "jams", "owed", "c", "came"] []) (B : Bt mg) (c_room_left : Cal P w K mg base "room_left" 3 C_room_left) (c_made_falling : Cal P w K mg base "made_falling" 1 C_made_falling) : Cal P w K mg base "spare_tails" 4 C_spare_tails := by
  refine cal_of F sc_spare_tails hm hb (fun es M Q h => by obtain ⟨ns, j, ow, cs, cm, rfl, hl, hn, h1, h2, h3, q⟩ := h; rfl) fun cdv A outer s H E es M Q hr h => ?_
  obtain ⟨ns, j, ow, cs, cm, rfl, hl, hn, h1, h2, h3, q⟩ := h
  have nd := sc_spare_tails.nd
  change SB _ _ [some _, some _, some _, some _, some _, none] _ _
  refine sb_cons ?_
  refine s_set (i := 5) nd rfl (Or.inl rfl) ?_
  refine de_call c_room_left hr (by decide) rfl ?_
  refine da_cons ?_
  refine de_var 0 rfl ?_
  refine da_cons ?_
  refine de_var 1 rfl ?_
  refine da_cons ?_
  refine de_var 2 rfl ?_
  refine da_cons ?_
  refine de_var 3 rfl ?_
  refine da_cons ?_
  refine de_var 4 rfl ?_
  refine da_nil ?_
  refine ⟨_, _, _, _, _, rfl, by walk_at "sd", by walk_at "sd", by walk_at "sd", by walk_at "sd", by walk_at "sd", ?_⟩
  have lr : (roomL ns j ow (heard cs cm)).length = ns.length := len_roomL h1 (by simp [heard]; omega)
  refine sb_one ?_
  refine s_ret ?_
  apply de_ifeD
  case h =>
    refine dt_cmp op_ge ?_
    refine de_callB (cr_minA rfl) rfl B.min (by decide +kernel) ?_
    refine da_cons ?_
    refine de_var 5 rfl ?_
    refine da_nil ?_
    walk_at "b_min"
    refine de_int ?_
    walk_at "op>="
    refine ⟨_, rfl, ?_⟩
    exact ⟨rfl, rfl⟩
  case h1 =>
    intro hb
    refine de_call c_made_falling hr (by decide) rfl ?_
    refine da_cons ?_
    refine de_var 5 rfl ?_
    refine da_nil ?_
    refine ⟨_, rfl, by walk_at "sd", ?_⟩
    exact ⟨rfl, rfl⟩
  case h2 =>
    intro hb
    refine de_non ?_
    exact ⟨rfl, rfl⟩
  refine q_of q ?_; unfold spareO; by_cases hm : 0 ≤ mn (roomL ns j ow (heard cs cm)) <;> simp [oD, hm, ge_iff_le]

theorem sc_may_take : FnScope ["counts", "jams", "owed", "c", "came", "sizes", "tails", "most", "few", "many"] ["counts", "jams", "owed", "c", "came", "sizes"] (defScope (topS 18)) := ⟨rfl, rfl, rfl, by decide +kernel, rfl, by decide +kernel, by decide +kernel⟩
def C_may_take : Ctr := fun es M Q => ∃ (ns : List Int) (j : Int) (ow cs cm ss : List Int), es = [.d (tN ns), .d (.int j), .d (tN ow), .d (tN cs), .d (tN cm), .d (tN ss)] ∧ ns.length ≤ 1000 ∧ 0 < ns.length ∧ ow.length = ns.length ∧ cs.length = ns.length ∧ cm.length = ns.length ∧ ss.length ≤ 1000 ∧ Q (.d (.bool (mayT ns j ow (heard cs cm) ss))) M
theorem c_may_take (F : Fun K "may_take" "may_take" (topS 18) f fd) (hm : mg "may_take" = some (.ref f)) (hb : L2.Binds K fd ["counts", "jams", "owed", "c", "came", "sizes"] []) (B : Bt mg) (c_tails_of_sizes : Cal P w K mg base "tails_of_sizes" 1 C_tails_of_sizes) (c_spare_tails : Cal P w K mg base "spare_tails" 4 C_spare_tails) : Cal P w K mg base "may_take" 5 C_may_take := by
  refine cal_of F sc_may_take hm hb (fun es M Q h => by obtain ⟨ns, j, ow, cs, cm, ss, rfl, hl, hn, h1, h2, h3, h4, q⟩ := h; rfl) fun cdv A outer s H E es M Q hr h => ?_
  obtain ⟨ns, j, ow, cs, cm, ss, rfl, hl, hn, h1, h2, h3, h4, q⟩ := h
  have nd := sc_may_take.nd
  change SB _ _ [some _, some _, some _, some _, some _, some _, none, none, none, none] _ _
  refine sb_cons ?_
  refine s_par 6 7 rfl nd rfl rfl (by decide) rfl rfl (by rfl) ?_
  refine da_cons ?_
  refine de_call c_tails_of_sizes hr (by decide) rfl ?_
  refine da_cons ?_
  refine de_callB call_len_seq rfl B.len PySem.boot_len ?_
  refine da_cons ?_
  refine de_var 0 rfl ?_
  refine da_nil ?_
  walk_at "b_len"
  refine da_cons ?_
  refine de_var 5 rfl ?_
  refine da_nil ?_
  refine ⟨_, _, rfl, by walk_at "sd", by walk_at "sd", ?_⟩
  refine da_cons ?_
  refine de_call c_spare_tails hr (by decide) rfl ?_
  refine da_cons ?_
  refine de_var 0 rfl ?_
  refine da_cons ?_
  refine de_var 1 rfl ?_
  refine da_cons ?_
  refine de_var 2 rfl ?_
  refine da_cons ?_
  refine de_var 3 rfl ?_
  refine da_cons ?_
  refine de_var 4 rfl ?_
  refine da_nil ?_
  refine ⟨_, _, _, _, _, rfl, by walk_at "sd", by walk_at "sd", by walk_at "sd", by walk_at "sd", by walk_at "sd", ?_⟩
  refine da_nil ?_
  refine ⟨_, _, rfl, ?_⟩
  refine sb_one ?_
  refine s_ret ?_
  cases hsp : spareO ns j ow (heard cs cm) with
  | none =>
    have q' : Q (.d (.bool false)) M := by simpa [mayT, hsp] using q
    refine de_andP (c1 := false) (c2 := false) ?_ (fun hb => by cases hb) q'
    refine de_cmp op_isnU ?_
    refine de_var 7 rfl ?_
    refine de_non ?_
    walk_at "opisnot"
    exact ⟨rfl, rfl⟩
  | some sp =>
    have q' : Q (.d (.bool (atMost (stails ns.length ss) sp))) M := by simpa [mayT, hsp] using q
    apply de_andP
    case h1 =>
      refine de_cmp op_isnU ?_
      refine de_var 7 rfl ?_
      refine de_non ?_
      walk_at "opisnot"
      exact ⟨rfl, rfl⟩
    case h2 =>
      intro hb
      refine de_one ?_
      refine de_callB (cr_all rfl) rfl B.all (by decide +kernel) ?_
      refine da_cons ?_
      refine de_lc (.tp (.cons (.nm 8) (.cons (.nm 9) .nil))) [("few", 8), ("many", 9)] rfl nd (blkOk_by (own := [("few", 8), ("many", 9)]) (N := ["counts", "jams", "owed", "c", "came", "sizes", "tails", "most", "few", "many"]) (sc := defScope (topS 18)) (by decide +kernel)) (fun _ _ _ _ _ => by walk_at "pg") (by decide) (lc_pureB ?_)
      refine di_zipI rfl B.zip ?_
      refine da_cons ?_
      refine de_var 6 rfl ?_
      refine da_cons ?_
      refine de_var 7 rfl ?_
      refine da_nil ?_
      refine ⟨_, _,  (by first | exact Or.inl rfl | exact Or.inr rfl | rfl), ?_⟩
      apply lcB_mk0
      case h1 => exact rfl
      case turn =>
        intro w hw
        try (rw [List.mem_range] at hw)
        refine ⟨_, rfl, fun D acc s H C cl fp => ?_⟩
        refine de_cmp op_le ?_
        refine de_var 8 rfl ?_
        refine de_var 9 rfl ?_
        walk_at "op<="
        exact ⟨rfl, rfl⟩
      case len => walk_at "sd"
      refine da_nil ?_
      walk_at "b_all"
      exact ⟨rfl, rfl⟩
    exact q'
end
section
variable {K : PySem.W.Frag} {M : Mm} {Q : QE}
theorem x_l0 {b : Int} {bs : List Int} (q : Q (.d (.int b)) M) : R2D K (rIx K) (.d (lN (b :: bs))) (.d (.int 0)) M Q := x_lI (ns := b :: bs) (by decide) (by simp only [List.length_cons]; omega) q
end
theorem laid_cons (ns ss : List Int) (s : Int) : laid ns (s :: ss) = match lbs ns s with
    | [] => none
    | b :: _ => laid (addAt ns b (-1)) ss := rfl
theorem laid_app : ∀ (ss ts ns : List Int), laid ns (ss ++ ts) = (laid ns ss).bind fun fr => laid fr ts
  | [], ts, ns => rfl
  | s :: ss, ts, ns => by
    rw [List.cons_append, laid_cons, laid_cons]
    cases lbs ns s with
    | nil => rfl
    | cons b bs => exact laid_app ss ts _
theorem take_split {ss : List Int} {i : Nat} {z : Int} (hz : ss[i]? = some z) : ss = ss.take i ++ z :: ss.drop (i + 1) := by
  have hi := (List.getElem?_eq_some_iff.mp hz).1
  conv => lhs; rw [← List.take_append_drop i ss, List.drop_eq_getElem_cons hi]
  rw [(List.getElem?_eq_some_iff.mp hz).2]
theorem laid_stop {ns fr ss : List Int} {i : Nat} {z : Int} (h : laid ns (ss.take i) = some fr) (hz : ss[i]? = some z) (e : lbs fr z = []) : laid ns ss = none := by
  rw [take_split hz, laid_app, h]
  show laid fr (z :: _) = none
  unfold laid
  rw [e]
theorem laid_step {ns fr ss bs : List Int} {i : Nat} {z b : Int} (h : laid ns (ss.take i) = some fr) (hz : ss[i]? = some z) (e : lbs fr z = b :: bs) : laid ns (ss.take (i + 1)) = some (addAt fr b (-1)) := by
  rw [take_snoc hz, laid_app, h]
  show laid fr [z] = _
  unfold laid
  rw [e]; rfl
theorem erase_map {f : Int → PyData} : ∀ (xs : List Int) (i : Nat), (xs.map f).eraseIdx i = (xs.eraseIdx i).map f
  | [], i => by simp
  | x :: xs, 0 => rfl
  | x :: xs, i + 1 => by simp [erase_map xs i]
theorem erase_perm : ∀ {xs : List Int} {i : Nat}, i < xs.length → (xs.getD i 0 :: xs.eraseIdx i).Perm xs
  | [], i, h => by simp at h
  | x :: xs, 0, h => .refl _
  | x :: xs, i + 1, h => by
    have ih := erase_perm (xs := xs) (i := i) (by simpa using h)
    have e : (x :: xs).getD (i + 1) 0 = xs.getD i 0 := by simp
    rw [e, List.eraseIdx_cons_succ]
    exact (List.Perm.swap _ _ _).trans (ih.cons x)
theorem get_map {xs : List Int} {i : Nat} (h : i < xs.length) : (xs.map PyData.int)[i]? = some (.int (xs.getD i 0)) := by
  rw [List.getElem?_map, List.getD_eq_getElem?_getD, List.getElem?_eq_getElem h]; rfl
theorem map_inv {xs : List Int} {i : Nat} {d : PyData} (h : (xs.map PyData.int)[i]? = some d) : ∃ z, xs[i]? = some z ∧ d = .int z := by
  rw [List.getElem?_map] at h
  cases e : xs[i]? with
  | none => rw [e] at h; cases h
  | some z => rw [e] at h; cases h; exact ⟨z, rfl, rfl⟩
section
variable {P : Program} {w : World} {K : PySem.W.Frag} {mg : Str → Option Value} {base : Heap} {f : Addr} {fd : FuncData}
theorem sc_law_mixed : FnScope ["bag", "things", "left", "found"] ["bag", "things"] (defScope (topS 24)) := ⟨rfl, rfl, rfl, by decide +kernel, rfl, by decide +kernel, by decide +kernel⟩
def C_law_mixed : Ctr := fun es M Q => ∃ (a : Addr) (ns : List Int) (k : Nat), es = [.m a, .d (lN ns)] ∧ ns.length ≤ 1000 ∧ Hb a k M ∧ ∀ ms M', ms.Perm ns → Bg a k M M' → Q (.d (lN ms)) M'
theorem c_law_mixed (F : Fun K "_law_mixed" "_law_mixed" (topS 24) f fd) (hm : mg "_law_mixed" = some (.ref f)) (hb : L2.Binds K fd ["bag", "things"] []) (B : Bt mg) (c_law_take : Cal P w K mg base "_law_take" 1 C_law_take) : Cal P w K mg base "_law_mixed" 2 C_law_mixed := by
  refine cal_of F sc_law_mixed hm hb (fun es M Q h => by obtain ⟨a, ns, k, rfl, hl, hB, q⟩ := h; rfl) fun cdv A outer s H E es M Q hr h => ?_
  obtain ⟨a, ns, k, rfl, hl, hB, q⟩ := h
  have nd := sc_law_mixed.nd
  change SB _ _ [some _, some _, none, none] _ _
  refine sb_cons ?_
  refine s_par 2 3 rfl nd rfl rfl (by decide) rfl rfl (by rfl) ?_
  refine da_cons ?_
  refine de_callTy call_list_of rfl B.list (by decide +kernel) ?_
  refine da_cons ?_
  refine de_var 1 rfl ?_
  refine da_nil ?_
  refine c_listM .l fun p1 => ?_
  refine da_cons ?_
  refine de_lstM ?_
  refine da_nil ?_
  refine ⟨[], rfl, by first | decide | simp, fun p => ?_⟩
  refine da_nil ?_
  refine ⟨_, _, rfl, ?_⟩
  refine sb_cons ?_
  refine s_while .never (fun m ρ' M' => ∃ (left found : List Int) (M1 : Mm), left.length = m ∧ (found ++ left).Perm ns ∧ Bg a k M M1 ∧ ρ' = [some (.m a), some (.d (lN ns)), some (.m p1), some (.m p)] ∧ M' = (p, found.map PyData.int) :: (p1, left.map PyData.int) :: M1) ns.length ?_ fun m ρ' M' hW => ?_
  · exact ⟨ns, [], M, rfl, .refl _, hB.refl, rfl, rfl⟩
  ·
    obtain ⟨left, found, M1, hlm, hp, hg, rfl, rfl⟩ := hW
    have hpl := hp.length_eq
    rw [List.length_append] at hpl
    refine dt_cmp (op_neU hr.units) ?_
    refine de_var 2 rfl ?_
    refine de_lst ?_
    refine da_nil ?_
    refine ⟨[], rfl, by first | decide | simp, ?_⟩
    walk_at "op!="
    refine ⟨_, rfl, ?_⟩
    refine ⟨fun hb => ?_, fun hb => ?_⟩
    ·
      have hne : left ≠ [] := by simpa using hb
      have hpos : 0 < left.length := List.length_pos_iff.mpr hne
      refine sb_one ?_
      refine s_expr ?_
      refine de_append ?_
      refine de_var 3 rfl ?_
      refine ⟨_, rfl, ⟨0, _, rfl⟩, ?_⟩
      refine de_popAt ?_
      refine de_var 2 rfl ?_
      refine ⟨_, rfl, ⟨1, _, rfl⟩, ?_⟩
      refine de_call c_law_take hr (by decide) rfl ?_
      refine da_cons ?_
      refine de_var 0 rfl ?_
      refine da_cons ?_
      refine de_callB call_len_seq rfl B.len PySem.boot_len ?_
      refine da_cons ?_
      refine de_var 2 rfl ?_
      refine da_nil ?_
      walk_at "b_len"
      refine da_nil ?_
      refine ⟨_, _, k + 2, rfl, by rw [List.length_map]; omega, (hB.to hg).cons.cons, fun v M2 hv0 hv1 hg2 => ?_⟩
      rw [List.length_map] at hv1
      obtain ⟨M3, rfl, hg3⟩ := hg2.cons
      obtain ⟨M4, rfl, hg4⟩ := hg3.cons
      obtain ⟨vn, rfl⟩ : ∃ vn : Nat, v = vn := ⟨v.toNat, by omega⟩
      refine ⟨vn, 1, _, .int (left.getD vn 0), rfl, rfl, get_map (by omega), by omega, ?_⟩
      refine ⟨_, 0, _, rfl, rfl, by rw [List.length_map]; omega, ?_⟩
      refine ⟨left.length - 1, by omega, left.eraseIdx vn, found ++ [left.getD vn 0], M4, by rw [List.length_eraseIdx, if_pos (by omega)], ?_, hg.trans hg4, rfl, ?_⟩
      · rw [List.append_assoc]
        exact ((erase_perm (by omega)).append_left found).trans hp
      · rw [erase_map, List.map_append]; rfl
    · have hne : left = [] := by simpa using hb
      subst hne
      rw [List.append_nil] at hp
      refine sb_thaw 3 ?_ rfl
      refine sb_drop ?_
      refine sb_one ?_
      refine s_ret ?_
      refine de_var 3 rfl ?_
      exact q _ _ hp hg

theorem sc_law_drawn_tails : FnScope ["bag", "m", "most", "turn"] ["bag", "m", "most"] (defScope (topS 27)) := ⟨rfl, rfl, rfl, by decide +kernel, rfl, by decide +kernel, by decide +kernel⟩
def C_law_drawn_tails : Ctr := fun es M Q => ∃ (a : Addr) (m mo : Int) (k : Nat), es = [.m a, .d (.int m), .d (.int mo)] ∧ (1 ≤ m ∧ m ≤ 1000) ∧ (0 ≤ mo ∧ mo ≤ 1000) ∧ Hb a k M ∧ ∀ ss M', (∀ s ∈ ss, 1 ≤ s ∧ s ≤ m) → (ss.length : Int) ≤ mo → Bg a k M M' → Q (.d (tN (stails m ss))) M'
theorem c_law_drawn_tails (F : Fun K "_law_drawn_tails" "_law_drawn_tails" (topS 27) f fd) (hm : mg "_law_drawn_tails" = some (.ref f)) (hb : L2.Binds K fd ["bag", "m", "most"] []) (B : Bt mg) (c_law_take : Cal P w K mg base "_law_take" 1 C_law_take) (c_law_size_tails : Cal P w K mg base "_law_size_tails" 1 C_law_size_tails) : Cal P w K mg base "_law_drawn_tails" 2 C_law_drawn_tails := by
  refine cal_of F sc_law_drawn_tails hm hb (fun es M Q h => by obtain ⟨a, m, mo, k, rfl, hm, hmo, hB, q⟩ := h; rfl) fun cdv A outer s H E es M Q hr h => ?_
  obtain ⟨a, m, mo, k, rfl, hm, hmo, hB, q⟩ := h
  have nd := sc_law_drawn_tails.nd
  change SB _ _ [some _, some _, some _, none] _ _
  refine sb_one ?_
  refine s_ret ?_
  refine de_call c_law_size_tails hr (by decide) rfl ?_
  refine da_cons ?_
  refine de_var 1 rfl ?_
  refine da_cons ?_
  refine de_lc (.nm 3) [("turn", 3)] rfl nd (blkOk_by (own := [("turn", 3)]) (N := ["bag", "m", "most", "turn"]) (sc := defScope (topS 27)) (by decide +kernel)) (fun _ _ _ _ _ => by walk_at "pg") (by decide) (lc_draw (fun M' => Bg a k M M') (fun v => 1 ≤ v ∧ v ≤ m) ?_)
  refine di_range1 rfl B.range ?_
  refine da_cons ?_
  refine de_call c_law_take hr (by decide) rfl ?_
  refine da_cons ?_
  refine de_var 0 rfl ?_
  refine da_cons ?_
  refine de_op op_addU ?_
  refine de_var 2 rfl ?_
  refine de_int ?_
  walk_at "op+"
  refine da_nil ?_
  refine ⟨_, _, k, rfl, by omega, hB, fun v M1 hv0 hv1 hg => ?_⟩
  refine da_nil ?_
  refine ⟨_, rfl, by walk_at "sd", by walk_at "sd", ?_⟩
  refine ⟨by walk_at "sd", hg, fun M2 d D acc hd hS => ?_, fun ss M2 hnl hns hS => ?_⟩
  · obtain ⟨i, hi, rfl⟩ := List.mem_map.mp hd
    refine ⟨_, rfl, rfl, fun s H C cl fp => ?_⟩
    refine de_op op_addU ?_
    refine de_int ?_
    refine de_call c_law_take hr (by decide) rfl ?_
    refine da_cons ?_
    refine de_var 0 rfl ?_
    refine da_cons ?_
    refine de_var 1 rfl ?_
    refine da_nil ?_
    refine ⟨_, _, k + 1, rfl, by omega, (hB.to hS).cons, fun u M3 hu0 hu1 hg3 => ?_⟩
    obtain ⟨M4, rfl, hg4⟩ := hg3.cons
    walk_at "op+"
    exact ⟨_, _, rfl, ⟨by omega, by omega⟩, rfl, hS.trans hg4⟩
  rw [List.length_map, List.length_range] at hnl
  refine da_nil ?_
  refine ⟨_, _, rfl, by omega, by omega, ?_⟩
  exact q ss M2 hns (by omega) hS

theorem sc_law_laid_in : FnScope ["free", "sizes", "size", "box", "one"] ["free", "sizes"] (defScope (topS 28)) := ⟨rfl, rfl, rfl, by decide +kernel, rfl, by decide +kernel, by decide +kernel⟩
def C_law_laid_in : Ctr := fun es M Q => ∃ ns ss : List Int, es = [.d (tN ns), .d (lN ss)] ∧ ns.length ≤ 1000 ∧ (∀ s ∈ ss, 1 ≤ s ∧ s ≤ 1000) ∧ ss.length ≤ 1000 ∧ Q (.d (oD (laid ns ss))) M
theorem c_law_laid_in (F : Fun K "_law_laid_in" "_law_laid_in" (topS 28) f fd) (hm : mg "_law_laid_in" = some (.ref f)) (hb : L2.Binds K fd ["free", "sizes"] []) (B : Bt mg) : Cal P w K mg base "_law_laid_in" 1 C_law_laid_in := by
  refine cal_of F sc_law_laid_in hm hb (fun es M Q h => by obtain ⟨ns, ss, rfl, hl, hs, hsl, q⟩ := h; rfl) fun cdv A outer s H E es M Q hr h => ?_
  obtain ⟨ns, ss, rfl, hl, hs, hsl, q⟩ := h
  have nd := sc_law_laid_in.nd
  change SB _ _ [some _, some _, none, none, none] _ _
  refine sb_cons ?_
  refine s_for (.nm 2) .never rfl (by walk_at "pg") ?_
  first | (refine di_list ?_; refine de_var 1 rfl ?_; refine ⟨_, rfl, ?_⟩) | (refine di_tup ?_; refine de_var 1 rfl ?_; refine ⟨_, rfl, ?_⟩)
  refine ⟨fun i ρ' M' => M' = M ∧ ∃ (fr : List Int) (x b o : Option Ent), laid ns (ss.take i) = some fr ∧ fr.length = ns.length ∧ ρ' = [some (.d (tN fr)), some (.d (lN ss)), x, b, o], ?_, fun i ρ' M' d hd hJ => ?_, fun ρ' M' hJ => ?_⟩
  · exact ⟨rfl, ns, none, none, none, rfl, rfl, rfl⟩
  ·
    obtain ⟨rfl, fr, x, b0, o, hla, hfl, rfl⟩ := hJ
    obtain ⟨z, hz, rfl⟩ := map_inv hd
    have hzs := hs z (List.mem_of_getElem? hz)
    refine ⟨_, rfl, ?_⟩
    refine sb_cons ?_
    refine s_setLc (i := 3) (.nm 4) [("one", 4)] rfl nd rfl rfl (sw_true rfl rfl rfl (by decide +kernel)) (blkOk_by (own := [("one", 4)]) (N := ["free", "sizes", "size", "box", "one"]) (sc := defScope (topS 28)) (by decide +kernel)) (fun _ _ _ _ _ => by walk_at "pg") (by decide) (lc_pureI ?_)
    refine di_range2 rfl B.range ?_
    refine da_cons ?_
    refine de_var 2 rfl ?_
    refine da_cons ?_
    refine de_op op_addU ?_
    refine de_callB call_len_seq rfl B.len PySem.boot_len ?_
    refine da_cons ?_
    refine de_var 0 rfl ?_
    refine da_nil ?_
    walk_at "b_len"
    refine de_int ?_
    walk_at "op+"
    refine da_nil ?_
    refine ⟨_,_, rfl, by walk_at "sd", ?_⟩
    apply lcI_mk
    case h1 => exact rfl
    case turn =>
      intro w hw
      try (rw [List.mem_range] at hw)
      refine ⟨_, rfl, fun D acc => ⟨?ts, ?el⟩⟩
      case ts =>
        intro s H C cl fp
        refine dts_one ?_
        refine dt_cmp op_gt ?_
        refine de_ix ix_seq ?_
        refine de_var 0 rfl ?_
        refine de_op op_sub ?_
        refine de_var 4 rfl ?_
        refine de_int ?_
        walk_at "op-"
        walk_at "ix"
        refine de_int ?_
        walk_at "op>"
        refine ⟨_, rfl, ?_⟩
        exact ⟨rfl, rfl⟩
      case el =>
        intro hf s H C cl fp
        refine de_var 4 rfl ?_
        exact ⟨rfl, rfl⟩
    case len => walk_at "sd"
    change SB _ _ [some (.d (tN fr)), some (.d (lN ss)), some (.d (.int z)), some (.d (lN (lbs fr z))), o] _ _
    refine sb_cons ?_
    refine s_if ?_
    refine dt_cmp (op_eqU hr.units) ?_
    refine de_var 3 rfl ?_
    refine de_lst ?_
    refine da_nil ?_
    refine ⟨[], rfl, by first | decide | simp, ?_⟩
    walk_at "op=="
    refine ⟨_, rfl, ?_⟩
    refine ⟨fun hb => ?_, fun hb => ?_⟩
    ·
      refine sb_one ?_
      refine s_ret ?_
      refine de_non ?_
      rw [laid_stop hla hz (of_decide_eq_true hb)] at q
      exact q
    refine sb_nil ?_
    obtain ⟨b, bs, e⟩ : ∃ b bs, lbs fr z = b :: bs := by
      cases e : lbs fr z with
      | nil => rw [e] at hb; simp at hb
      | cons b bs => exact ⟨b, bs, rfl⟩
    have hm := (mem_lbs (ns := fr) (b := b) hzs.1).mp (by rw [e]; simp)
    rw [e]
    refine sb_one ?_
    refine s_set (i := 0) nd rfl (Or.inr rfl) ?_
    refine de_op op_addU ?_
    refine de_op op_addU ?_
    refine de_slice sl_U ?_
    refine de_var 0 rfl ?_
    refine do_none ?_
    refine do_some ?_
    refine de_op op_sub ?_
    refine de_ix ix_seq ?_
    refine de_var 3 rfl ?_
    refine de_int ?_
    refine x_l0 ?_
    refine de_int ?_
    walk_at "op-"
    refine ⟨_, rfl, ?_⟩
    walk_at "sl"
    refine de_tup ?_
    refine da_cons ?_
    refine de_op op_sub ?_
    refine de_ix ix_seq ?_
    refine de_var 0 rfl ?_
    refine de_op op_sub ?_
    refine de_ix ix_seq ?_
    refine de_var 3 rfl ?_
    refine de_int ?_
    refine x_l0 ?_
    refine de_int ?_
    walk_at "op-"
    walk_at "ix"
    refine de_int ?_
    walk_at "op-"
    refine da_nil ?_
    refine ⟨[_], rfl, by first | decide | simp, ?_⟩
    walk_at "op+"
    refine de_slice sl_U ?_
    refine de_var 0 rfl ?_
    refine do_some ?_
    refine de_ix ix_seq ?_
    refine de_var 3 rfl ?_
    refine de_int ?_
    refine x_l0 ?_
    refine ⟨_, rfl, ?_⟩
    refine do_none ?_
    walk_at "sl"
    walk_at "op+"
    refine ⟨rfl, addAt fr b (-1), some (.d (.int z)), some (.d (lN (b :: bs))), o, laid_step hla hz e, (len_addAt ⟨by omega, hm.2.1⟩).trans hfl, ?_⟩
    unfold addAt
    simp [Int.sub_eq_add_neg]
  obtain ⟨rfl, fr, x, b, o, hla, hfl, rfl⟩ := hJ
  rw [List.length_map, List.take_length] at hla
  rw [hla] at q
  refine sb_one ?_
  refine s_ret ?_
  refine de_var 0 rfl ?_
  exact q
end
/-! ### sizes, playing -/
def fl (ps : List (Int × Int × Int)) : List Int := ps.flatMap fun p => List.replicate (p.2.1 - p.2.2).toNat (p.1 + 1)
theorem fl_szs : ∀ (k : Nat) (xs : List Int), fl (ezs k xs (xs.drop 1 ++ [0])) = szs k (cnts xs)
  | k, [] => rfl
  | k, [x] => by simp [fl, ezs, cnts, szs]
  | k, x :: y :: r => by
    have ih := fl_szs (k + 1) (y :: r)
    rw [cnts_cons]
    show List.replicate (x - y).toNat ((k : Int) + 1) ++ fl (ezs (k + 1) (y :: r) ((y :: r).drop 1 ++ [0])) = _
    rw [ih]; rfl
theorem fl_len : ∀ {ps : List (Int × Int × Int)}, (∀ p ∈ ps, p.2.1 - p.2.2 ≤ 1000) → (fl ps).length ≤ 1000 * ps.length
  | [], _ => by simp [fl]
  | p :: ps, h => by
    have ih := fl_len (ps := ps) fun q hq => h q (by simp [hq])
    have hp := h p (by simp)
    have e : fl (p :: ps) = List.replicate (p.2.1 - p.2.2).toNat (p.1 + 1) ++ fl ps := rfl
    rw [e, List.length_append, List.length_replicate, List.length_cons]; omega
theorem ez_cnt {xs : List Int} {p : Int × Int × Int} (h : p ∈ ezs 0 xs (xs.drop 1 ++ [0])) : p.2.1 - p.2.2 ∈ cnts xs := by
  obtain ⟨i, hi⟩ := List.mem_iff_getElem?.mp h
  obtain ⟨_, h1, h2⟩ := ezs_get _ _ _ _ _ hi
  unfold cnts
  refine List.mem_map.mpr ⟨(p.2.1, p.2.2), List.mem_of_getElem? (i := i) ?_, rfl⟩
  rw [List.getElem?_zip_eq_some]; exact ⟨h1, h2⟩
theorem sum_mem : ∀ {cs : List Int}, (∀ c ∈ cs, 0 ≤ c) → ∀ c ∈ cs, c ≤ cs.sum
  | [], _, c, h => by cases h
  | x :: cs, hp, c, h => by
    have h0 : 0 ≤ cs.sum := by
      have := T_nn (ns := cs) (fun c hc => hp c (by simp [hc])) 0
      simpa [T] using this
    have hx := hp x (by simp)
    rw [List.sum_cons]
    rcases List.mem_cons.mp h with rfl | h
    · omega
    · have := sum_mem (cs := cs) (fun c hc => hp c (by simp [hc])) c h; omega
theorem cnt_bd {xs : List Int} (hf : ∀ a, xs.getD (a + 1) 0 ≤ xs.getD a 0) (hb : xs.getD 0 0 ≤ 400) : ∀ c ∈ cnts xs, -1000 ≤ c ∧ c ≤ 1000 := fun c hc => by
  have h0 := cnts_nn hf
  have h1 := sum_mem h0 c hc
  have h2 := T_cnts xs 0
  unfold T at h2
  rw [List.drop_zero] at h2
  have := h0 c hc
  omega
theorem S_all : ∀ {ss : List Int}, (∀ z ∈ ss, 1 ≤ z) → S ss 0 = ss.length
  | [], _ => rfl
  | s :: ss, h => by
    have := h s (by simp)
    rw [S_cons, S_all (ss := ss) fun z hz => h z (by simp [hz]), if_pos (by simp; omega), List.length_cons]; push_cast; rfl
theorem len_sizesOf {xs : List Int} (hf : ∀ a, xs.getD (a + 1) 0 ≤ xs.getD a 0) : ((sizesOf xs).length : Int) = xs.getD 0 0 := by
  rw [← S_sizesOf hf 0, S_all fun z hz => (mem_sizesOf hz).1]
def pss (ns : List Int) : List Int := ((List.range ((ns.length : Int)).toNat).filter fun (w : Nat) => decide (0 < ns.getD ((w : Int)).toNat 0)).map fun (w : Nat) => (w : Int)
theorem mem_pss {ns : List Int} {b : Int} (h : b ∈ pss ns) : 0 ≤ b ∧ b < ns.length ∧ 0 < ns.getD b.toNat 0 := by
  obtain ⟨w, hw, rfl⟩ := List.mem_map.mp h
  rw [List.mem_filter, List.mem_range] at hw
  exact ⟨by omega, by omega, of_decide_eq_true hw.2⟩
theorem len_pss (ns : List Int) : (pss ns).length ≤ ns.length := by
  unfold pss
  rw [List.length_map]
  exact Nat.le_trans (List.length_filter_le ..) (by simp)
structure PlOK (fr : List Int) (j : Int) (ow he : List Int) : Prop where
  nn : ∀ c ∈ fr, 0 ≤ c
  len : fr.length ≤ 50
  lo : ow.length = fr.length
  lh : he.length = fr.length
  fo : ∀ a, ow.getD (a + 1) 0 ≤ ow.getD a 0
  fh : ∀ a, he.getD (a + 1) 0 ≤ he.getD a 0
  bo : ow.getD 0 0 ≤ 400
  bh : he.getD 0 0 ≤ 400
  j0 : 0 ≤ j
  need : ∀ a, a < fr.length → 0 < ow.getD a 0 + he.getD a 0 → ow.getD a 0 + he.getD a 0 + j ≤ T fr a
structure PlI (n : Nat) (fr : List Int) (j : Int) (r : List Int) : Prop where
  nn : ∀ c ∈ fr, 0 ≤ c
  len : fr.length = n
  j0 : 0 ≤ j
  need : ∀ a, a < n → 0 < S r a → S r a + j ≤ T fr a
theorem PlOK.start {fr : List Int} {j : Int} {ow he ms : List Int} (h : PlOK fr j ow he) (hp : ms.Perm (sizesOf ow ++ sizesOf he)) : PlI fr.length fr j ms :=
  ⟨h.nn, rfl, h.j0, fun a ha hs => by
    rw [S_perm hp, S_app, S_sizesOf h.fo, S_sizesOf h.fh] at hs ⊢
    exact h.need a ha hs⟩
theorem PlI.jam {n : Nat} {fr : List Int} {j b : Int} {r : List Int} (h : PlI n fr j r) (hj : 0 < j) (hb : b ∈ pss fr) : PlI n (addAt fr (b + 1) (-1)) (j - 1) r := by
  obtain ⟨b0, b1, b2⟩ := mem_pss hb
  have hbb : 1 ≤ b + 1 ∧ b + 1 ≤ fr.length := ⟨by omega, by omega⟩
  refine ⟨addAt_nn h.nn (by rw [show b + 1 - 1 = b by omega]; omega), (len_addAt hbb).trans h.len, by omega, fun a ha hs => ?_⟩
  rw [T_addAt hbb]
  have := h.need a ha hs
  split <;> omega
theorem PlI.lay {n : Nat} {fr : List Int} {j z : Int} {r : List Int} (h : PlI n fr j (z :: r)) (hz : 1 ≤ z ∧ z ≤ n) : ∃ fr', laid fr [z] = some fr' ∧ PlI n fr' j r := by
  have hj := h.j0
  have hE0 : ∀ a, 0 ≤ (fun a => if 0 < S r a then j else 0) a := fun a => by show 0 ≤ if 0 < S r a then j else 0; split <;> omega
  have hE : ∀ a, (fun a => if 0 < S r a then j else 0) (a + 1) ≤ (fun a => if 0 < S r a then j else 0) a := fun a => by
    show (if 0 < S r (a + 1) then j else 0) ≤ if 0 < S r a then j else 0
    have := S_anti1 r a
    split <;> split <;> omega
  have ok : OK (fun a => if 0 < S r a then j else 0) fr (z :: r) := fun a ha => by
    rw [h.len] at ha
    have h1 := h.need a ha
    have h2 := T_nn h.nn a
    have h3 := S_nn r a
    rw [S_cons] at h1 ⊢
    show _ + (if 0 < S r a then j else 0) ≤ _
    split <;> split at h1 <;> omega
  obtain ⟨b, bs, e, hb⟩ := lay_has hE0 (by rw [h.len]; exact hz) h.nn ok
  have hbb : 1 ≤ b ∧ b ≤ fr.length := ⟨by have := hb.lo; omega, hb.hi⟩
  refine ⟨addAt fr b (-1), by rw [laid_cons, e]; rfl, addAt_nn h.nn (by have := hb.pos; omega), (len_addAt hbb).trans h.len, hj, fun a ha hs => ?_⟩
  have := lay1 hE hz.1 h.nn hb ok a (by rw [len_addAt hbb, h.len]; exact ha)
  have e2 : (if 0 < S r a then j else 0) = j := if_pos hs
  simp only [e2] at this
  exact this
theorem addAt_j {fr : List Int} {b : Int} : fr.take b.toNat ++ [fr.getD b.toNat 0 - 1] ++ fr.drop (b + 1).toNat = addAt fr (b + 1) (-1) := by
  unfold addAt
  rw [show b + 1 - 1 = b by omega]
  simp [Int.sub_eq_add_neg]
section
variable {P : Program} {w : World} {K : PySem.W.Frag} {mg : Str → Option Value} {base : Heap} {f : Addr} {fd : FuncData}
theorem sc_law_sizes_of : FnScope ["tails", "found", "size", "one", "two"] ["tails"] (defScope (topS 29)) := ⟨rfl, rfl, rfl, by decide +kernel, rfl, by decide +kernel, by decide +kernel⟩
def C_law_sizes_of : Ctr := fun es M Q => ∃ xs : List Int, es = [.d (tN xs)] ∧ xs.length ≤ 50 ∧ (∀ c ∈ cnts xs, -1000 ≤ c ∧ c ≤ 1000) ∧ Q (.d (lN (sizesOf xs))) M
theorem c_law_sizes_of (F : Fun K "_law_sizes_of" "_law_sizes_of" (topS 29) f fd) (hm : mg "_law_sizes_of" = some (.ref f)) (hb : L2.Binds K fd ["tails"] []) (B : Bt mg) : Cal P w K mg base "_law_sizes_of" 1 C_law_sizes_of := by
  refine cal_of F sc_law_sizes_of hm hb (fun es M Q h => by obtain ⟨xs, rfl, hl, hc, q⟩ := h; rfl) fun cdv A outer s H E es M Q hr h => ?_
  obtain ⟨xs, rfl, hl, hc, q⟩ := h
  have nd := sc_law_sizes_of.nd
  change SB _ _ [some _, none, none, none, none] _ _
  refine sb_cons ?_
  refine s_set (i := 1) nd rfl (Or.inl rfl) ?_
  refine de_lst ?_
  refine da_nil ?_
  refine ⟨[], rfl, by first | decide | simp, ?_⟩
  refine sb_cons ?_
  refine s_for (.tp (.cons (.nm 2) (.cons (.tp (.cons (.nm 3) (.cons (.nm 4) .nil))) .nil))) .never rfl (by walk_at "pg") ?_
  refine di_ezI rfl B.enumerate rfl B.zip ?_
  refine da_cons ?_
  refine de_var 0 rfl ?_
  refine da_cons ?_
  refine de_op op_addU ?_
  refine de_callTy call_tuple_of rfl B.tuple (by decide +kernel) ?_
  refine da_cons ?_
  refine de_slice sl_U ?_
  refine de_var 0 rfl ?_
  refine do_some ?_
  refine de_int ?_
  refine ⟨_, rfl, ?_⟩
  refine do_none ?_
  walk_at "sl"
  refine da_nil ?_
  walk_at "b_tuple"
  refine de_tup ?_
  refine da_cons ?_
  refine de_int ?_
  refine da_nil ?_
  refine ⟨[_], rfl, by first | decide | simp, ?_⟩
  walk_at "op+"
  refine da_nil ?_
  refine ⟨_, _, rfl, by walk_at "sd", ?_⟩
  refine ⟨fun i ρ' M' => M' = M ∧ ∃ (x b c : Option Ent), ρ' = [some (.d (tN xs)), some (.d (lN (fl ((ezs 0 xs (xs.drop 1 ++ [0])).take i)))), x, b, c], ?_, fun i ρ' M' d hd hJ => ?_, fun ρ' M' hJ => ?_⟩
  · exact ⟨rfl, none, none, none, rfl⟩
  ·
    obtain ⟨rfl, x, b, c, rfl⟩ := hJ
    rw [List.getElem?_map] at hd
    cases hz : (ezs 0 xs (xs.drop 1 ++ [0]))[i]? with
    | none => rw [show (Int.toNat 1) = 1 from rfl, hz] at hd; cases hd
    | some p => ?_
    rw [show (Int.toNat 1) = 1 from rfl, hz] at hd
    have ed : pIP p = d := Option.some.inj hd
    subst ed
    have hpc := hc _ (ez_cnt (List.mem_of_getElem? hz))
    have hi := (List.getElem?_eq_some_iff.mp hz).1
    rw [ezs_len] at hi
    have hfl : (fl ((ezs 0 xs (xs.drop 1 ++ [0])).take i)).length ≤ 50000 := Nat.le_trans (fl_len fun p hp => (hc _ (ez_cnt (List.mem_of_mem_take hp))).2) (by rw [List.length_take, ezs_len]; omega)
    refine ⟨_, rfl, ?_⟩
    refine sb_one ?_
    refine s_set (i := 1) nd rfl (Or.inl rfl) ?_
    refine de_op op_addU ?_
    refine de_var 1 rfl ?_
    refine de_op op_mulU ?_
    refine de_lst ?_
    refine da_cons ?_
    refine de_op op_addU ?_
    refine de_var 2 rfl ?_
    refine de_int ?_
    walk_at "op+"
    refine da_nil ?_
    refine ⟨[_], rfl, by first | decide | simp, ?_⟩
    refine de_op op_sub ?_
    refine de_var 3 rfl ?_
    refine de_var 4 rfl ?_
    walk_at "op-"
    refine m_l1 hpc ?_
    refine a_lI (by rw [List.length_replicate]; omega) ?_
    refine ⟨rfl, some (.d (.int p.1)), some (.d (.int p.2.1)), some (.d (.int p.2.2)), ?_⟩
    have e : fl ((ezs 0 xs (xs.drop 1 ++ [0])).take (i + 1)) = fl ((ezs 0 xs (xs.drop 1 ++ [0])).take i) ++ List.replicate (p.2.1 - p.2.2).toNat (p.1 + 1) := by
      rw [take_snoc hz]; simp [fl]
    rw [e]; rfl
  obtain ⟨rfl, x, b, c, rfl⟩ := hJ
  rw [List.length_map, show (Int.toNat 1) = 1 from rfl, List.take_length, fl_szs]
  refine sb_one ?_
  refine s_ret ?_
  refine de_var 1 rfl ?_
  exact q

theorem sc_law_played : FnScope ["bag", "free", "jams", "owed", "heard", "line", "size", "some", "box"] ["bag", "free", "jams", "owed", "heard"] (defScope (topS 30)) := ⟨rfl, rfl, rfl, by decide +kernel, rfl, by decide +kernel, by decide +kernel⟩
def C_law_played : Ctr := fun es M Q => ∃ (a : Addr) (fr : List Int) (j : Int) (ow he : List Int) (k : Nat), es = [.m a, .d (tN fr), .d (.int j), .d (tN ow), .d (tN he)] ∧ Hb a k M ∧ PlOK fr j ow he ∧ ∀ M', Bg a k M M' → Q (.d (.bool true)) M'
theorem c_law_played (F : Fun K "_law_played" "_law_played" (topS 30) f fd) (hm : mg "_law_played" = some (.ref f)) (hb : L2.Binds K fd ["bag", "free", "jams", "owed", "heard"] []) (B : Bt mg) (c_law_take : Cal P w K mg base "_law_take" 1 C_law_take) (c_law_some : Cal P w K mg base "_law_some" 2 C_law_some) (c_law_mixed : Cal P w K mg base "_law_mixed" 2 C_law_mixed) (c_law_laid_in : Cal P w K mg base "_law_laid_in" 1 C_law_laid_in) (c_law_sizes_of : Cal P w K mg base "_law_sizes_of" 1 C_law_sizes_of) : Cal P w K mg base "_law_played" 3 C_law_played := by
  refine cal_of F sc_law_played hm hb (fun es M Q h => by obtain ⟨a, fr, j, ow, he, k, rfl, hB, hyp, q⟩ := h; rfl) fun cdv A outer s H E es M Q hr h => ?_
  obtain ⟨a, fr, j, ow, he, k, rfl, hB, hyp, q⟩ := h
  have nd := sc_law_played.nd
  change SB _ _ [some _, some _, some _, some _, some _, none, none, none, none] _ _
  have cbo := cnt_bd hyp.fo hyp.bo
  have cbh := cnt_bd hyp.fh hyp.bh
  have lso := len_sizesOf hyp.fo
  have lsh := len_sizesOf hyp.fh
  obtain ⟨h50, hlo, hlh, hbo, hbh⟩ : fr.length ≤ 50 ∧ ow.length = fr.length ∧ he.length = fr.length ∧ ow.getD 0 0 ≤ 400 ∧ he.getD 0 0 ≤ 400 := ⟨hyp.len, hyp.lo, hyp.lh, hyp.bo, hyp.bh⟩
  refine sb_cons ?_
  refine s_set (i := 5) nd rfl (Or.inl rfl) ?_
  refine de_op op_addU ?_
  refine de_call c_law_sizes_of hr (by decide) rfl ?_
  refine da_cons ?_
  refine de_var 3 rfl ?_
  refine da_nil ?_
  refine ⟨_, rfl, by walk_at "sd", by walk_at "sd", ?_⟩
  refine de_call c_law_sizes_of hr (by decide) rfl ?_
  refine da_cons ?_
  refine de_var 4 rfl ?_
  refine da_nil ?_
  refine ⟨_, rfl, by walk_at "sd", by walk_at "sd", ?_⟩
  walk_at "op+"
  refine sb_cons ?_
  refine s_for (.nm 6) .never rfl (by walk_at "pg") ?_
  refine di_list ?_
  refine de_call c_law_mixed hr (by decide) rfl ?_
  refine da_cons ?_
  refine de_var 0 rfl ?_
  refine da_cons ?_
  refine de_var 5 rfl ?_
  refine da_nil ?_
  refine ⟨_, _, k, rfl, by rw [List.length_append]; omega, hB, fun ms M1 hp hg => ?_⟩
  refine ⟨_, rfl, ?_⟩
  refine ⟨fun i ρ' M' => Bg a k M M' ∧ ∃ (fr' : List Int) (j' : Int) (x b c : Option Ent), PlI fr.length fr' j' (ms.drop i) ∧ ρ' = [some (.m a), some (.d (tN fr')), some (.d (.int j')), some (.d (tN ow)), some (.d (tN he)), some (.d (lN (sizesOf ow ++ sizesOf he))), x, b, c], ?_, fun i ρ' M' d hd hJ => ?_, fun ρ' M' hJ => ?_⟩
  · exact ⟨hg, fr, j, none, none, none, hyp.start hp, rfl⟩
  ·
    obtain ⟨hg1, fr', j', x, b, c, hI, rfl⟩ := hJ
    obtain ⟨z, hz, rfl⟩ := map_inv hd
    have hzm : 1 ≤ z ∧ z ≤ fr.length := by
      rcases List.mem_append.mp (hp.mem_iff.mp (List.mem_of_getElem? hz)) with h | h
      · have := mem_sizesOf h; omega
      · have := mem_sizesOf h; omega
    have hdr : ms.drop i = z :: ms.drop (i + 1) := by
      have hi := (List.getElem?_eq_some_iff.mp hz).1
      rw [List.drop_eq_getElem_cons hi, (List.getElem?_eq_some_iff.mp hz).2]
    have hfl := hI.len
    refine ⟨_, rfl, ?_⟩
    refine sb_cons ?_
    refine s_setLc (i := 7) (.nm 8) [("box", 8)] rfl nd rfl rfl (sw_true rfl rfl rfl (by decide +kernel)) (blkOk_by (own := [("box", 8)]) (N := ["bag", "free", "jams", "owed", "heard", "line", "size", "some", "box"]) (sc := defScope (topS 30)) (by decide +kernel)) (fun _ _ _ _ _ => by walk_at "pg") (by decide) (lc_pureI ?_)
    refine di_range1 rfl B.range ?_
    refine da_cons ?_
    refine de_callB call_len_seq rfl B.len PySem.boot_len ?_
    refine da_cons ?_
    refine de_var 1 rfl ?_
    refine da_nil ?_
    walk_at "b_len"
    refine da_nil ?_
    refine ⟨_, rfl, by walk_at "sd", by walk_at "sd", ?_⟩
    apply lcI_mk
    case h1 => exact rfl
    case turn =>
      intro w hw
      try (rw [List.mem_range] at hw)
      refine ⟨_, rfl, fun D acc => ⟨?ts, ?el⟩⟩
      case ts =>
        intro s H C cl fp
        refine dts_one ?_
        refine dt_cmp op_gt ?_
        refine de_ix ix_seq ?_
        refine de_var 1 rfl ?_
        refine de_var 8 rfl ?_
        walk_at "ix"
        refine de_int ?_
        walk_at "op>"
        refine ⟨_, rfl, ?_⟩
        exact ⟨rfl, rfl⟩
      case el =>
        intro hf s H C cl fp
        refine de_var 8 rfl ?_
        exact ⟨rfl, rfl⟩
    case len => walk_at "sd"
    change SB _ _ [some (.m a), some (.d (tN fr')), some (.d (.int j')), some (.d (tN ow)), some (.d (tN he)), some (.d (lN (sizesOf ow ++ sizesOf he))), some (.d (.int z)), some (.d (lN (pss fr'))), c] _ _
    have hpl := len_pss fr'
    refine sb_mid (fun ρ' M' => Bg a k M M' ∧ ∃ (fr2 : List Int) (j2 : Int) (x b : Option Ent), PlI fr.length fr2 j2 (ms.drop i) ∧ ρ' = [some (.m a), some (.d (tN fr2)), some (.d (.int j2)), some (.d (tN ow)), some (.d (tN he)), some (.d (lN (sizesOf ow ++ sizesOf he))), some (.d (.int z)), x, b]) ?_ ?_
    refine s_if ?_
    refine dw_pt ?_
    refine dw_and ?_
    refine dt_cmp op_gt ?_
    refine de_var 2 rfl ?_
    refine de_int ?_
    walk_at "op>"
    refine ⟨_, rfl, ?_⟩
    refine ⟨fun hb1 => ?_, fun _ => ⟨fun h => (by cases h), fun _ => sb_nil ⟨hg1, fr', j', _, _, hI, rfl⟩⟩⟩
    refine dw_and ?_
    refine dt_cmp (op_neU hr.units) ?_
    refine de_var 7 rfl ?_
    refine de_lst ?_
    refine da_nil ?_
    refine ⟨[], rfl, by first | decide | simp, ?_⟩
    walk_at "op!="
    refine ⟨_, rfl, ?_⟩
    refine ⟨fun hb2 => ?_, fun _ => ⟨fun h => (by cases h), fun _ => sb_nil ⟨hg1, fr', j', _, _, hI, rfl⟩⟩⟩
    have hpne : 0 < (pss fr').length := List.length_pos_iff.mpr (by simpa using hb2)
    have hj1 : 0 < j' := of_decide_eq_true hb1
    refine dw_and1 ?_
    refine dt_cmp (op_eqU hr.units) ?_
    refine de_call c_law_take hr (by decide) rfl ?_
    refine da_cons ?_
    refine de_var 0 rfl ?_
    refine da_cons ?_
    refine de_int ?_
    refine da_nil ?_
    refine ⟨_, _, k, rfl, ⟨by decide, by decide⟩, hB.to hg1, fun v M2 hv0 hv1 hg2 => ?_⟩
    refine de_int ?_
    walk_at "op=="
    refine ⟨_, rfl, ?_⟩
    refine ⟨fun hb => ?_, fun hb => ?_⟩
    ·
      have hg3 := hg1.trans hg2
      refine sb_mid (fun ρ' M' => Bg a k M M' ∧ ∃ bx : Int, bx ∈ pss fr' ∧ ρ' = [some (.m a), some (.d (tN fr')), some (.d (.int j')), some (.d (tN ow)), some (.d (tN he)), some (.d (lN (sizesOf ow ++ sizesOf he))), some (.d (.int z)), some (.d (lN (pss fr'))), some (.d (.int bx))]) ?_ ?_
      refine s_set (i := 8) nd rfl (Or.inl rfl) ?_
      refine de_ife ?_
      refine dt_cmp (op_eqU hr.units) ?_
      refine de_call c_law_take hr (by decide) rfl ?_
      refine da_cons ?_
      refine de_var 0 rfl ?_
      refine da_cons ?_
      refine de_int ?_
      refine da_nil ?_
      refine ⟨_, _, k, rfl, ⟨by decide, by decide⟩, hB.to hg3, fun v M3 hv0 hv1 hg4 => ?_⟩
      refine de_int ?_
      walk_at "op=="
      refine ⟨_, rfl, ?_⟩
      refine ⟨fun _ => ?_, fun _ => ?_⟩
      · refine de_ix ix_seq ?_
        refine de_var 7 rfl ?_
        refine de_un un_neg ?_
        refine de_int ?_
        refine o_neg ?_
        refine x_lL hpne ?_
        exact ⟨hg3.trans hg4, _, getD_mem (by omega), rfl⟩
      · refine de_call c_law_some hr (by decide) rfl ?_
        refine da_cons ?_
        refine de_var 0 rfl ?_
        refine da_cons ?_
        refine de_var 7 rfl ?_
        refine da_nil ?_
        refine ⟨_, _, k, rfl, ⟨hpne, by omega⟩, hB.to (hg3.trans hg4), fun v M4 hv hg5 => ?_⟩
        exact ⟨(hg3.trans hg4).trans hg5, _, hv, rfl⟩
      rintro ρ' M' ⟨hg6, bx, hbx, rfl⟩
      obtain ⟨bx0, bx1, bx2⟩ := mem_pss hbx
      refine sb_one ?_
      refine s_parC 1 2 rfl nd rfl rfl (by decide) (Or.inr rfl) (Or.inl rfl) ?_
      refine da_cons ?_
      refine de_op op_addU ?_
      refine de_op op_addU ?_
      refine de_slice sl_U ?_
      refine de_var 1 rfl ?_
      refine do_none ?_
      refine do_some ?_
      refine de_var 8 rfl ?_
      refine ⟨_, rfl, ?_⟩
      walk_at "sl"
      refine de_tup ?_
      refine da_cons ?_
      refine de_op op_sub ?_
      refine de_ix ix_seq ?_
      refine de_var 1 rfl ?_
      refine de_var 8 rfl ?_
      walk_at "ix"
      refine de_int ?_
      walk_at "op-"
      refine da_nil ?_
      refine ⟨[_], rfl, by first | decide | simp, ?_⟩
      walk_at "op+"
      refine de_slice sl_U ?_
      refine de_var 1 rfl ?_
      refine do_some ?_
      refine de_op op_addU ?_
      refine de_var 8 rfl ?_
      refine de_int ?_
      walk_at "op+"
      refine ⟨_, rfl, ?_⟩
      refine do_none ?_
      walk_at "sl"
      walk_at "op+"
      refine da_cons ?_
      refine de_op op_sub ?_
      refine de_var 2 rfl ?_
      refine de_int ?_
      walk_at "op-"
      refine da_nil ?_
      refine ⟨_, _, rfl, ?_⟩
      refine ⟨hg6, addAt fr' (bx + 1) (-1), j' - 1, some (.d (lN (pss fr'))), some (.d (.int bx)), hI.jam hj1 hbx, ?_⟩
      rw [← addAt_j]; rfl
    ·
      refine sb_nil ?_
      exact ⟨hg1.trans hg2, fr', j', _, _, hI, rfl⟩
    rintro ρ' M' ⟨hg2, fr2, j2, x2, b2, hI2, rfl⟩
    rw [hdr] at hI2
    obtain ⟨fr3, e3, hI3⟩ := hI2.lay hzm
    have hfl2 := hI2.len
    refine sb_cons ?_
    refine s_set (i := 1) nd rfl (Or.inr rfl) ?_
    refine de_call c_law_laid_in hr (by decide) rfl ?_
    refine da_cons ?_
    refine de_var 1 rfl ?_
    refine da_cons ?_
    refine de_lst ?_
    refine da_cons ?_
    refine de_var 6 rfl ?_
    refine da_nil ?_
    refine ⟨[_], rfl, by first | decide | simp, ?_⟩
    refine da_nil ?_
    refine ⟨fr2, [z], rfl, by omega, fun s hs => by rw [List.mem_singleton] at hs; omega, by simp, ?_⟩
    rw [e3]
    refine sb_one ?_
    refine s_if ?_
    refine dt_cmp op_isU ?_
    refine de_var 1 rfl ?_
    refine de_non ?_
    walk_at "opis"
    refine ⟨_, rfl, ?_⟩
    refine ⟨fun hb => ?_, fun hb => ?_⟩
    ·
      refine sb_one ?_
      refine s_ret ?_
      refine de_bl ?_
      cases hb
    refine sb_nil ?_
    exact ⟨hg2, fr3, j2, _, _, _, hI3, rfl⟩
  obtain ⟨hg1, fr', j', x, b, c, hI, rfl⟩ := hJ
  refine sb_one ?_
  refine s_ret ?_
  refine de_bl ?_
  exact q _ hg1
end
/-! ### what one lap draws -/
def cmf (cs ct : List Int) : List Int := (cs.zip ct).map fun p => if p.2 < p.1 then p.2 else p.1
def hdf (cs cm : List Int) : List Int := (cs.zip cm).map fun p => p.1 - p.2
def hef (m : Int) (hd : List Int) : List Int := (List.range m.toNat).map fun (w : Nat) => mn (hd.take ((w : Int) + 1).toNat)
def ndf (he ow : List Int) : List Int := (he.zip ow).map fun p => p.1 + p.2
def bdf (m j : Int) (tk tl nd : List Int) : List Int := ((List.range m.toNat).filter fun (w : Nat) => decide (tk.getD ((w : Int)).toNat 0 > tl.getD ((w : Int)).toNat 0) || (decide (nd.getD ((w : Int)).toNat 0 > 0) && decide (tk.getD ((w : Int)).toNat 0 + nd.getD ((w : Int)).toNat 0 + j > tl.getD ((w : Int)).toNat 0))).map fun (w : Nat) => (w : Int)
structure Pre (m j : Int) (fr ow cs cm nd ss bd : List Int) : Prop where
  m1 : 1 ≤ m ∧ m ≤ 4
  j0 : 0 ≤ j ∧ j < 4
  lf : fr.length = m.toNat
  nn : ∀ c ∈ fr, 0 ≤ c
  tb : T fr 0 ≤ 400
  lo : ow.length = m.toNat
  lc : cs.length = m.toNat
  lm : cm.length = m.toNat
  fo : ∀ a, ow.getD (a + 1) 0 ≤ ow.getD a 0
  fh : ∀ a, (heard cs cm).getD (a + 1) 0 ≤ (heard cs cm).getD a 0
  bo : ow.getD 0 0 ≤ 2
  bh : (heard cs cm).getD 0 0 ≤ 3
  ln : nd.length = m.toNat
  hn : ∀ a : Nat, (a : Int) < m → nd.getD a 0 = ow.getD a 0 + (heard cs cm).getD a 0
  hs : ∀ s ∈ ss, 1 ≤ s ∧ s ≤ m
  ls : ss.length ≤ 5
  hb : ∀ b, b ∈ bd ↔ 0 ≤ b ∧ b < m ∧ (T fr b.toNat < S ss b.toNat ∨ (0 < nd.getD b.toNat 0 ∧ T fr b.toNat < S ss b.toNat + nd.getD b.toNat 0 + j))
theorem fall_nn {xs : List Int} (h : ∀ a, xs.getD (a + 1) 0 ≤ xs.getD a 0) (a : Nat) : 0 ≤ xs.getD a 0 := by
  have := anti_of h (a := a) (b := a + xs.length) (by omega)
  rw [getD_out (xs := xs) (a := a + xs.length) (by omega)] at this; exact this
theorem sum_bd {k : Int} : ∀ {cs : List Int}, (∀ c ∈ cs, c ≤ k) → cs.sum ≤ k * cs.length
  | [], _ => by simp
  | x :: cs, h => by
    have h1 := h x (by simp)
    have h2 := sum_bd (cs := cs) fun c hc => h c (by simp [hc])
    rw [List.sum_cons, List.length_cons]
    have : k * ((cs.length + 1 : Nat) : Int) = k * cs.length + k := by push_cast; rw [Int.mul_add, Int.mul_one]
    rw [this]; omega
theorem stails_fall (m : Int) (ss : List Int) (a : Nat) : (stails m ss).getD (a + 1) 0 ≤ (stails m ss).getD a 0 := by
  by_cases h : ((a + 1 : Nat) : Int) < m
  · rw [stails_get h, stails_get (by omega)]; exact S_anti1 ss a
  · rw [getD_out (xs := stails m ss) (a := a + 1) (by rw [len_stails]; omega)]
    by_cases h2 : (a : Int) < m
    · rw [stails_get h2]; exact S_nn ss a
    · rw [getD_out (by rw [len_stails]; omega)]; exact Int.le_refl _
theorem S_le (ss : List Int) (a : Nat) : S ss a ≤ ss.length := by
  unfold S
  exact Int.ofNat_le.mpr (List.length_filter_le ..)
theorem zip_get {cs ct : List Int} {a : Nat} (h1 : a < cs.length) (h2 : a < ct.length) : (cs.zip ct)[a]? = some (cs.getD a 0, ct.getD a 0) := by
  rw [List.getElem?_zip_eq_some, List.getD_eq_getElem?_getD, List.getD_eq_getElem?_getD, List.getElem?_eq_getElem h1, List.getElem?_eq_getElem h2]
  exact ⟨rfl, rfl⟩
theorem cmf_get {cs ct : List Int} {a : Nat} (h1 : a < cs.length) (h2 : a < ct.length) : (cmf cs ct).getD a 0 = if ct.getD a 0 < cs.getD a 0 then ct.getD a 0 else cs.getD a 0 := by
  unfold cmf
  rw [List.getD_eq_getElem?_getD, List.getElem?_map, zip_get h1 h2]; rfl
theorem hdf_get {cs cm : List Int} {a : Nat} (h1 : a < cs.length) (h2 : a < cm.length) : (hdf cs cm).getD a 0 = cs.getD a 0 - cm.getD a 0 := by
  unfold hdf
  rw [List.getD_eq_getElem?_getD, List.getElem?_map, zip_get h1 h2]; rfl
theorem ndf_get {cs cm : List Int} {a : Nat} (h1 : a < cs.length) (h2 : a < cm.length) : (ndf cs cm).getD a 0 = cs.getD a 0 + cm.getD a 0 := by
  unfold ndf
  rw [List.getD_eq_getElem?_getD, List.getElem?_map, zip_get h1 h2]; rfl
theorem hef_eq {m : Int} {cs cm : List Int} (h1 : cs.length = m.toNat) (h2 : cm.length = m.toNat) : hef m (hdf cs cm) = heard cs cm := by
  unfold hef heard mf
  rw [show ((cs.zip cm).map fun p => p.1 - p.2).length = m.toNat by simp; omega]
  refine List.map_congr_left fun w _ => ?_
  rw [show ((w : Int) + 1).toNat = w + 1 by omega]; rfl
theorem mem_getD {xs : List Int} {c : Int} (h : c ∈ xs) : ∃ a, a < xs.length ∧ xs.getD a 0 = c := by
  obtain ⟨i, hi, e⟩ := List.mem_iff_getElem.mp h
  exact ⟨i, hi, by rw [List.getD_eq_getElem?_getD, List.getElem?_eq_getElem hi]; exact e⟩
theorem pre_mk {m j : Int} {fr so sc ct ss : List Int} (m1 : 1 ≤ m ∧ m ≤ 4) (j0 : 0 ≤ j ∧ j < 4) (lf : fr.length = m.toNat) (hf : ∀ c ∈ fr, 0 ≤ c ∧ c ≤ 100) (hso : (so.length : Int) ≤ 2) (hsc : (sc.length : Int) ≤ 3) (hs : ∀ s ∈ ss, 1 ≤ s ∧ s ≤ m) (ls : ss.length ≤ 5) :
    Pre m j fr (stails m so) (stails m sc) (cmf (stails m sc) (stails m ct)) (ndf (hef m (hdf (stails m sc) (cmf (stails m sc) (stails m ct)))) (stails m so)) ss (bdf m j (stails m ss) (tails fr) (ndf (hef m (hdf (stails m sc) (cmf (stails m sc) (stails m ct)))) (stails m so))) := by
  have lcm : (cmf (stails m sc) (stails m ct)).length = m.toNat := by simp [cmf]
  have lh : (heard (stails m sc) (cmf (stails m sc) (stails m ct))).length = m.toNat := by simp [heard, lcm]
  rw [hef_eq (by simp) lcm]
  have hdn : ∀ c ∈ (((stails m sc).zip (cmf (stails m sc) (stails m ct))).map fun p => p.1 - p.2), 0 ≤ c := fun c hc => by
    obtain ⟨a, ha, e⟩ := mem_getD hc
    have e2 := hdf_get (cs := stails m sc) (cm := cmf (stails m sc) (stails m ct)) (a := a) (by simp at ha ⊢; omega) (by simp [lcm] at ha ⊢; omega)
    unfold hdf at e2
    rw [← e, e2, cmf_get (by simp at ha ⊢; omega) (by simp at ha ⊢; omega)]
    split <;> omega
  refine ⟨m1, j0, lf, fun c hc => (hf c hc).1, ?_, by simp, by simp, lcm, stails_fall m so, fun a => mf_anti hdn a, ?_, ?_, by simp [ndf, lh], fun a ha => ?_, hs, ls, fun b => ?_⟩
  · unfold T
    rw [List.drop_zero]
    have := sum_bd (k := 100) fun c hc => (hf c hc).2
    rw [lf] at this; omega
  · rw [stails_get (by omega)]
    have := S_le so 0; omega
  · refine Int.le_trans (mf_le (xs := ((stails m sc).zip (cmf (stails m sc) (stails m ct))).map fun p => p.1 - p.2) (a := 0) (j := 0) (by simp [lcm]; omega) (Nat.le_refl _)) ?_
    have e2 := hdf_get (cs := stails m sc) (cm := cmf (stails m sc) (stails m ct)) (a := 0) (by simp; omega) (by rw [lcm]; omega)
    unfold hdf at e2
    rw [e2, cmf_get (by simp; omega) (by simp; omega), stails_get (by omega), stails_get (by omega)]
    have := S_le sc 0
    have := S_nn ct 0
    have := S_nn sc 0
    split <;> omega
  · rw [ndf_get (by rw [lh]; omega) (by simp; omega), Int.add_comm]
  · unfold bdf
    simp only [List.mem_map, List.mem_filter, List.mem_range, Bool.or_eq_true, Bool.and_eq_true, decide_eq_true_eq, Int.toNat_natCast, tails_get]
    constructor
    · rintro ⟨w, ⟨h1, h2⟩, rfl⟩
      rw [stails_get (by omega)] at h2
      rw [Int.toNat_natCast]
      refine ⟨by omega, by omega, ?_⟩
      rcases h2 with h | ⟨h, h'⟩
      · exact .inl h
      · exact .inr ⟨h, h'⟩
    · rintro ⟨h1, h2, h3⟩
      refine ⟨b.toNat, ⟨by omega, ?_⟩, by omega⟩
      rw [stails_get (by omega)]
      rcases h3 with h | ⟨h, h'⟩
      · exact .inl h
      · exact .inr ⟨h, h'⟩
namespace Pre
variable {m j : Int} {fr ow cs cm nd ss bd : List Int}
theorem EE (h : Pre m j fr ow cs cm nd ss bd) : (∀ a, K96.EE j ow (heard cs cm) (a + 1) ≤ K96.EE j ow (heard cs cm) a) ∧ ∀ a, 0 ≤ K96.EE j ow (heard cs cm) a := ⟨EE_anti h.fo h.fh h.j0.1, EE_nn h.j0.1⟩
theorem lh (h : Pre m j fr ow cs cm nd ss bd) : (heard cs cm).length = fr.length := by simp [heard, h.lc, h.lm, h.lf]
theorem lof (h : Pre m j fr ow cs cm nd ss bd) : ow.length = fr.length := by rw [h.lo, h.lf]
theorem pos (h : Pre m j fr ow cs cm nd ss bd) : 0 < fr.length := by have := h.m1; have := h.lf; omega
theorem ok_iff (h : Pre m j fr ow cs cm nd ss bd) : OK (K96.EE j ow (heard cs cm)) fr ss ↔ bd = [] := by
  have hm := h.m1
  have hlf := h.lf
  have hj := h.j0
  constructor
  · intro ok
    cases e : bd with
    | nil => rfl
    | cons b r =>
      have hb := (h.hb b).mp (by rw [e]; simp)
      have h1 := ok b.toNat (by omega)
      rw [h.hn b.toNat (by omega)] at hb
      have := S_nn ss b.toNat
      unfold K96.EE at h1
      split at h1 <;> rcases hb with ⟨q1, q2, q3 | ⟨q3, q4⟩⟩ <;> omega
  · intro e a ha
    have hb := (not_congr (h.hb (a : Int))).mp (by rw [e]; simp)
    rw [Int.toNat_natCast, h.hn a (by omega)] at hb
    have ha' : (a : Int) < m := by omega
    have h2 : ¬ (T fr a < S ss a) := fun q => hb ⟨by omega, ha', .inl q⟩
    unfold K96.EE
    split
    · rename_i hpos
      have h3 : ¬ (T fr a < S ss a + (ow.getD a 0 + (heard cs cm).getD a 0) + j) := fun q => hb ⟨by omega, ha', .inr ⟨hpos, q⟩⟩
      omega
    · omega
theorem may (h : Pre m j fr ow cs cm nd ss bd) : mayT fr j ow (heard cs cm) ss = decide (bd = []) := by
  have h1 := mayT_iff (j := j) h.lof h.lh h.pos ss
  rw [h.ok_iff] at h1
  by_cases e : bd = []
  · rw [decide_eq_true e]; exact h1.mpr e
  · rw [decide_eq_false e]
    cases hm : mayT fr j ow (heard cs cm) ss with
    | false => rfl
    | true => exact absurd (h1.mp hm) e
theorem spare (h : Pre m j fr ow cs cm nd ss bd) (e : bd = []) : spareO fr j ow (heard cs cm) = some (mf (roomL fr j ow (heard cs cm))) :=
  spare_some h.lof h.lh h.pos fun a ha => by have := h.ok_iff.mpr e a ha; have := S_nn ss a; omega
/-- the bag of need is played -/
theorem played (h : Pre m j fr ow cs cm nd ss bd) {hr : List Int} (hl : hr.length = fr.length) (hp : ∀ c ∈ hr, 0 ≤ c) (ok : OK (K96.EE j ow (heard cs cm)) hr []) : PlOK hr j ow (heard cs cm) := by
  have hm := h.m1
  have hlf := h.lf
  have b1 := h.bo
  have b2 := h.bh
  refine ⟨hp, by omega, h.lof.trans hl.symm, h.lh.trans hl.symm, h.fo, h.fh, by omega, by omega, h.j0.1, fun a ha hpos => ?_⟩
  have h1 := ok a ha
  rw [S_nil] at h1
  unfold K96.EE at h1
  rw [if_pos hpos] at h1; omega
/-- as many as are spare, no more -/
theorem spare_fit (h : Pre m j fr ow cs cm nd ss bd) (e : bd = []) {a : Nat} (ha : a < fr.length) {k : Int} (hk : 0 ≤ k) : mayT fr j ow (heard cs cm) (List.replicate k.toNat ((a : Int) + 1)) = true ↔ (k = 0 ∨ k ≤ (mf (roomL fr j ow (heard cs cm))).getD a 0) := by
  rw [mayT_iff h.lof h.lh h.pos]
  have base := h.ok_iff.mpr e
  have hlr := len_roomL (j := j) (ns := fr) h.lof h.lh
  constructor
  · intro ok
    by_cases hk0 : k = 0
    · exact .inl hk0
    · refine .inr (le_mf (by omega) fun i hi => ?_)
      rw [room_get h.lof h.lh (by omega)]
      have h1 := ok i (by omega)
      rw [S_rep, if_pos (by omega)] at h1
      omega
  · intro hk1 i hi
    rw [S_rep]
    have hb := base i hi
    have := S_nn ss i
    split
    · rename_i hia
      rcases hk1 with rfl | hk1
      · simp; omega
      · have h2 := mf_le (xs := roomL fr j ow (heard cs cm)) (a := a) (j := i) (by omega) (by omega)
        rw [room_get h.lof h.lh hi] at h2
        omega
    · omega
/-- the other way, the worst -/
theorem worst (h : Pre m j fr ow cs cm nd ss bd) {b : Int} (hb : b ∈ bd) {xs w ms : List Int} (hf : S ss b.toNat ≤ T fr b.toNat) (hx : xs.Perm ss) (h1 : laid fr xs = some w) (h2 : laid (lessG w j) (List.replicate (nd.getD b.toNat 0).toNat (b + 1)) = some ms) : False := by
  obtain ⟨b0, b1, q⟩ := (h.hb b).mp hb
  have hlf := h.lf
  have hj := h.j0
  obtain ⟨p1, p2, p3⟩ := laid_facts (k := b.toNat) (fun s hs => by have := h.hs s (hx.mem_iff.mp hs); omega) h.nn h1
  rw [S_perm hx] at p3
  obtain ⟨r1, r2, r3⟩ := laid_facts (k := b.toNat) (fun s hs => by have := List.eq_of_mem_replicate hs; rw [len_lessG]; omega) (lessG_nn p1 hj.1) h2
  rw [S_rep, if_pos (by omega), T_lessG hj.1] at r3
  have r4 := T_nn r1 b.toNat
  rcases q with q | ⟨q1, q2⟩
  · omega
  · split at r3 <;> omega
end Pre
namespace Pre
variable {m j : Int} {fr ow cs cm ne ss bd : List Int}
theorem cond2 (h : Pre m j fr ow cs cm ne ss bd) {sp : List Int} (hsp : spareO fr j ow (heard cs cm) = some sp) (e : (((stails m ss).zip sp).filter fun p => decide (p.1 > p.2)) = []) : bd = [] := by
  obtain ⟨rfl, _⟩ := spare_inv h.lof h.lh h.pos hsp
  refine h.ok_iff.mp ((fits_mf h.lof h.lh ss).mp ?_)
  have hl := len_roomL (j := j) (ns := fr) h.lof h.lh
  have hm := h.m1
  have hlf := h.lf
  rw [show (fr.length : Int) = m by omega, atMost_iff (by simp [hl]; omega)]
  intro a ha
  rw [len_stails] at ha
  rw [List.filter_eq_nil_iff] at e
  have := e _ (List.mem_of_getElem? (zip_get (a := a) (by rw [len_stails]; exact ha) (by rw [len_mf, hl]; omega)))
  simp only [decide_eq_true_eq] at this
  omega
theorem base (h : Pre m j fr ow cs cm ne ss bd) (e : bd = []) {a : Nat} (ha : a < fr.length) : 0 ≤ (mf (roomL fr j ow (heard cs cm))).getD a 0 ∧ (mf (roomL fr j ow (heard cs cm))).getD a 0 ≤ 400 := by
  have hl := len_roomL (j := j) (ns := fr) h.lof h.lh
  have ok := h.ok_iff.mpr e
  constructor
  · refine le_mf (by omega) fun i hi => ?_
    rw [room_get h.lof h.lh (by omega)]
    have := ok i (by omega)
    have := S_nn ss i
    omega
  · have h2 := mf_le (xs := roomL fr j ow (heard cs cm)) (a := a) (j := a) (by omega) (Nat.le_refl _)
    rw [room_get h.lof h.lh ha] at h2
    have := h.EE.2 a
    have := T_anti h.nn (Nat.zero_le a)
    have := h.tb
    omega
end Pre
theorem lbD_cons (b : Int) (bs : List Int) : lbD (b :: bs) = .int b := by simp [lbD]
section
variable {K : PySem.W.Frag} {M : Mm} {Q : QE}
theorem n_oD {xs ys : List Int} (q : Q (.d (.bool (!decide (xs = ys)))) M) : R2D K (rNeU K) (.d (tN xs)) (.d (oD (some ys))) M Q := n_tI q
end
theorem part_perm (ss : List Int) (k : Int) : ((ss.filter fun w => decide (w < k)) ++ (ss.filter fun w => decide (w ≥ k))).Perm ss := by
  have h := List.filter_append_perm (fun w => decide (w < k)) ss
  have e : (ss.filter fun w => decide (w ≥ k)) = ss.filter fun w => !decide (w < k) := List.filter_congr fun w _ => by
    by_cases hw : w < k
    · rw [decide_eq_true hw, decide_eq_false (by omega)]; rfl
    · rw [decide_eq_false hw, decide_eq_true (by omega)]; rfl
  rw [e]; exact h
theorem fn_of {P : Program} {w : World} {K : PySem.W.Frag} {mg : Str → Option Value} {base : Heap} {x qual : Str} {st : Stmt} {f : Addr} {fd : FuncData} {N ps : List Str} {k : Nat} {C : Ctr} (F : Fun K x qual st f fd) (S : FnScope N ps (defScope st))
    (len : ∀ es M Q, C es M Q → es.length = ps.length)
    (body : ∀ (cdv : Value) (A : Around) (outer : List PySem.Env) (s : Shared) (H : Hp) (E : XK) es M Q, Room k (A.deeper (envOfC qual (defScope st) s.heap.objs.size f cdv)) → C es M Q →
      SB (cxOf CX0 P w K mg base N qual (defScope st) f cdv A outer s H E).nox (defBody st) (startR N es) M { N := fun _ M' => Q (.d .none) M', R := Q }) : FnOk P w K mg base CX0 (k + 1) f fd ps (Pr K C) :=
  F.ok S (fun vs H Q E ⟨M, es, QQ, _, hv, hc, _⟩ => by rw [hv.len, len es M QQ hc]) (fun cdv A outer s H vs Q E hr ⟨M, es, QQ, hM, hv, hc, g⟩ => ⟨_, pss_u _ _, startR N es, M, _, body cdv A outer s H E es M QQ hr hc, env_start hv, hM, fun σ' H' ρ' M' x E' m' q => g .non H' (.d .none) M' x m' .non q, g, fun σ' H' ρ' M' x E' m' q => q.elim, fun σ' H' ρ' M' x E' m' q => q.elim⟩)
section
variable {P : Program} {w : World} {K : PySem.W.Frag} {mg : Str → Option Value} {base : Heap} {f : Addr} {fd : FuncData}
theorem sc_law : FnScope ["script", "bag", "lap", "m", "free", "jams", "size", "owed", "c", "came", "one", "two", "heard", "at", "need", "tails", "sizes", "turn", "taken", "bad", "spare", "here", "box", "later", "great", "rest", "worst"] ["script"] (defScope (topS 31)) := ⟨rfl, rfl, rfl, by decide +kernel, rfl, by decide +kernel, by decide +kernel⟩
def C_law : Ctr := fun es M Q => ∃ ns : List Int, es = [.s (ns.map PyData.int)] ∧ ∀ M', Q (.d (.bool true)) M'
theorem c_law (F : Fun K "law" "law" (topS 31) f fd) (hm : mg "law" = some (.ref f)) (B : Bt mg) (c_law_bag : Cal P w K mg base "_law_bag" 1 C_law_bag) (c_law_take : Cal P w K mg base "_law_take" 1 C_law_take) (c_law_drawn_tails : Cal P w K mg base "_law_drawn_tails" 2 C_law_drawn_tails) (c_law_tails : Cal P w K mg base "_law_tails" 1 C_law_tails) (c_law_size_tails : Cal P w K mg base "_law_size_tails" 1 C_law_size_tails) (c_heard_tails : Cal P w K mg base "heard_tails" 2 C_heard_tails) (c_may_take : Cal P w K mg base "may_take" 5 C_may_take) (c_spare_tails : Cal P w K mg base "spare_tails" 4 C_spare_tails) (c_least_box : Cal P w K mg base "least_box" 1 C_least_box) (c_taken_from : Cal P w K mg base "taken_from" 2 C_taken_from) (c_law_laid_in : Cal P w K mg base "_law_laid_in" 1 C_law_laid_in) (c_law_played : Cal P w K mg base "_law_played" 3 C_law_played) (c_fits_all : Cal P w K mg base "fits_all" 2 C_fits_all) (c_less_greatest : Cal P w K mg base "less_greatest" 2 C_less_greatest) : FnOk P w K mg base CX0 6 f fd ["script"] (Pr K C_law) := by
  refine fn_of F sc_law (fun es M Q h => by obtain ⟨ns, rfl, q⟩ := h; rfl) fun cdv A outer s H E es M Q hr h => ?_
  obtain ⟨ns, rfl, q⟩ := h
  have nd := sc_law.nd
  change SB _ _ [some _, none, none, none, none, none, none, none, none, none, none, none, none, none, none, none, none, none, none, none, none, none, none, none, none, none, none] _ _
  refine sb_cons ?_
  refine s_set (i := 1) nd rfl (Or.inr rfl) ?_
  refine de_call c_law_bag hr (by decide) rfl ?_
  refine da_cons ?_
  refine de_var 0 rfl ?_
  refine da_nil ?_
  refine ⟨_, rfl, fun p ds hbag => ?_⟩
  have hB0 : Hb p 0 ((p, ds) :: M) := ⟨ds, rfl, hbag⟩
  refine sb_cons ?_
  refine s_for (.nm 2) .never rfl (by walk_at "pg") ?_
  refine di_range1 rfl B.range ?_
  refine da_cons ?_
  refine de_int ?_
  refine da_nil ?_
  refine ⟨_, rfl, by walk_at "sd", by walk_at "sd", ?_⟩
  refine ⟨fun i ρ' M' => Hb p 0 M' ∧ ∃ o2 o3 o4 o5 o6 o7 o8 o9 o10 o11 o12 o13 o14 o15 o16 o17 o18 o19 o20 o21 o22 o23 o24 o25 o26 : Option Ent, ρ' = [some (.s (ns.map PyData.int)), some (.m p), o2, o3, o4, o5, o6, o7, o8, o9, o10, o11, o12, o13, o14, o15, o16, o17, o18, o19, o20, o21, o22, o23, o24, o25, o26], ?_, fun i ρ' M' d hd hJ => ?_, fun ρ' M' hJ => ?_⟩
  · exact ⟨hB0, _, _, _, _, _, _, _, _, _, _, _, _, _, _, _, _, _, _, _, _, _, _, _, _, _, rfl⟩
  ·
    obtain ⟨hB, o2, o3, o4, o5, o6, o7, o8, o9, o10, o11, o12, o13, o14, o15, o16, o17, o18, o19, o20, o21, o22, o23, o24, o25, o26, rfl⟩ := hJ
    obtain ⟨lv, rfl⟩ : ∃ lv : Int, d = .int lv := by
      obtain ⟨w, _, rfl⟩ := List.mem_map.mp (List.mem_of_getElem? hd)
      exact ⟨_, rfl⟩
    refine ⟨_, rfl, ?_⟩
    refine sb_cons ?_
    refine s_set (i := 3) nd rfl (Or.inr rfl) ?_
    refine de_op op_addU ?_
    refine de_int ?_
    refine de_call c_law_take hr (by decide) rfl ?_
    refine da_cons ?_
    refine de_var 1 rfl ?_
    refine da_cons ?_
    refine de_int ?_
    refine da_nil ?_
    refine ⟨_, _, 0, rfl, ⟨by decide, by decide⟩, hB, fun v1 M1 hv10 hv11 hg1 => ?_⟩
    have hB1 := hB.to hg1
    walk_at "op+"
    obtain ⟨m, hm⟩ : ∃ m, m = 1 + v1 := ⟨_, rfl⟩
    rw [← hm]
    have m1 : 1 ≤ m ∧ m ≤ 4 := by omega
    have hdiv : 0 ≤ 12 / m ∧ 12 / m ≤ 12 := by
      rcases (by omega : m = 1 ∨ m = 2 ∨ m = 3 ∨ m = 4) with h | h | h | h <;> rw [h] <;> decide
    clear hm hv10 hv11
    refine sb_cons ?_
    refine s_parC 4 5 rfl nd rfl rfl (by decide) (Or.inl rfl) (Or.inr rfl) ?_
    refine da_cons ?_
    refine de_callTy call_tuple_of rfl B.tuple (by decide +kernel) ?_
    refine da_cons ?_
    refine de_lc (.nm 6) [("size", 6)] rfl nd (blkOk_by (own := [("size", 6)]) (N := ["script", "bag", "lap", "m", "free", "jams", "size", "owed", "c", "came", "one", "two", "heard", "at", "need", "tails", "sizes", "turn", "taken", "bad", "spare", "here", "box", "later", "great", "rest", "worst"]) (sc := defScope (topS 31)) (by decide +kernel)) (fun _ _ _ _ _ => by walk_at "pg") (by decide) (lc_draw (fun M' => Hb p 0 M') (fun v => 0 ≤ v ∧ v ≤ 100) ?_)
    refine di_range1 rfl B.range ?_
    refine da_cons ?_
    refine de_var 3 rfl ?_
    refine da_nil ?_
    refine ⟨_, rfl, by walk_at "sd", by walk_at "sd", ?_⟩
    refine ⟨by walk_at "sd", hB1, fun M2 d D acc hd hS => ?_, fun fr M2 hnl hfr hS => ?_⟩
    · obtain ⟨i, hi, rfl⟩ := List.mem_map.mp hd
      refine ⟨_, rfl, rfl, fun s H C cl fp => ?_⟩
      refine de_call c_law_take hr (by decide) rfl ?_
      refine da_cons ?_
      refine de_var 1 rfl ?_
      refine da_cons ?_
      refine de_op op_addU ?_
      refine de_int ?_
      refine de_callTy call_int1 rfl B.int (by decide +kernel) ?_
      refine da_cons ?_
      refine de_op op_fdiv ?_
      refine de_int ?_
      refine de_var 3 rfl ?_
      walk_at "op//"
      refine da_nil ?_
      walk_at "b_int"
      walk_at "op+"
      refine da_nil ?_
      refine ⟨_, _, 1, rfl, by omega, hS.cons, fun v M3 hv0 hv1 hg3 => ?_⟩
      obtain ⟨M4, rfl, hg4⟩ := hg3.cons
      exact ⟨_, _, rfl, ⟨hv0, by omega⟩, rfl, hS.to hg4⟩
    rw [List.length_map, List.length_range] at hnl
    refine da_nil ?_
    walk_at "b_tuple"
    refine da_cons ?_
    refine de_call c_law_take hr (by decide) rfl ?_
    refine da_cons ?_
    refine de_var 1 rfl ?_
    refine da_cons ?_
    refine de_int ?_
    refine da_nil ?_
    refine ⟨_, _, 0, rfl, ⟨by decide, by decide⟩, hS, fun j M3 hj0 hj1 hg3 => ?_⟩
    have hB3 := hS.to hg3
    refine da_nil ?_
    refine ⟨_, _, rfl, ?_⟩
    refine sb_cons ?_
    refine s_par 7 8 rfl nd rfl rfl (by decide) rfl rfl (by rfl) ?_
    refine da_cons ?_
    refine de_call c_law_drawn_tails hr (by decide) rfl ?_
    refine da_cons ?_
    refine de_var 1 rfl ?_
    refine da_cons ?_
    refine de_var 3 rfl ?_
    refine da_cons ?_
    refine de_int ?_
    refine da_nil ?_
    refine ⟨_, _, _, 0, rfl, by omega, ⟨by decide, by decide⟩, hB3, fun so M4 hso hsol hg4 => ?_⟩
    have hB4 := hB3.to hg4
    refine da_cons ?_
    refine de_call c_law_drawn_tails hr (by decide) rfl ?_
    refine da_cons ?_
    refine de_var 1 rfl ?_
    refine da_cons ?_
    refine de_var 3 rfl ?_
    refine da_cons ?_
    refine de_int ?_
    refine da_nil ?_
    refine ⟨_, _, _, 0, rfl, by omega, ⟨by decide, by decide⟩, hB4, fun sc M5 hsc hscl hg5 => ?_⟩
    have hB5 := hB4.to hg5
    refine da_nil ?_
    refine ⟨_, _, rfl, ?_⟩
    refine sb_cons ?_
    refine s_set (i := 9) nd rfl (Or.inl rfl) ?_
    refine de_callTy call_tuple_of rfl B.tuple (by decide +kernel) ?_
    refine da_cons ?_
    refine de_lc (.tp (.cons (.nm 10) (.cons (.nm 11) .nil))) [("one", 10), ("two", 11)] rfl nd (blkOk_by (own := [("one", 10), ("two", 11)]) (N := ["script", "bag", "lap", "m", "free", "jams", "size", "owed", "c", "came", "one", "two", "heard", "at", "need", "tails", "sizes", "turn", "taken", "bad", "spare", "here", "box", "later", "great", "rest", "worst"]) (sc := defScope (topS 31)) (by decide +kernel)) (fun _ _ _ _ _ => by walk_at "pg") (by decide) (lc_pureI ?_)
    refine di_zipI rfl B.zip ?_
    refine da_cons ?_
    refine de_var 8 rfl ?_
    refine da_cons ?_
    refine de_call c_law_drawn_tails hr (by decide) rfl ?_
    refine da_cons ?_
    refine de_var 1 rfl ?_
    refine da_cons ?_
    refine de_var 3 rfl ?_
    refine da_cons ?_
    refine de_int ?_
    refine da_nil ?_
    refine ⟨_, _, _, 0, rfl, by omega, ⟨by decide, by decide⟩, hB5, fun ct M6 hct hctl hg6 => ?_⟩
    have hB6 := hB5.to hg6
    refine da_nil ?_
    refine ⟨_, _,  (by first | exact Or.inl rfl | exact Or.inr rfl | rfl), ?_⟩
    apply lcI_mk0
    case h1 => exact rfl
    case turn =>
      intro w hw
      try (rw [List.mem_range] at hw)
      refine ⟨_, rfl, fun D acc s H C cl fp => ?_⟩
      refine de_callB (call_min2 rfl) rfl B.min (by decide +kernel) ?_
      refine da_cons ?_
      refine de_var 10 rfl ?_
      refine da_cons ?_
      refine de_var 11 rfl ?_
      refine da_nil ?_
      walk_at "b_min2"
      exact ⟨rfl, rfl⟩
    case len => walk_at "sd"
    refine da_nil ?_
    walk_at "b_tuple"
    refine sb_cons ?_
    refine s_set (i := 12) nd rfl (Or.inr rfl) ?_
    refine de_lc (.tp (.cons (.nm 10) (.cons (.nm 11) .nil))) [("one", 10), ("two", 11)] rfl nd (blkOk_by (own := [("one", 10), ("two", 11)]) (N := ["script", "bag", "lap", "m", "free", "jams", "size", "owed", "c", "came", "one", "two", "heard", "at", "need", "tails", "sizes", "turn", "taken", "bad", "spare", "here", "box", "later", "great", "rest", "worst"]) (sc := defScope (topS 31)) (by decide +kernel)) (fun _ _ _ _ _ => by walk_at "pg") (by decide) (lc_pureI ?_)
    refine di_zipI rfl B.zip ?_
    refine da_cons ?_
    refine de_var 8 rfl ?_
    refine da_cons ?_
    refine de_var 9 rfl ?_
    refine da_nil ?_
    refine ⟨_, _,  (by first | exact Or.inl rfl | exact Or.inr rfl | rfl), ?_⟩
    apply lcI_mk0
    case h1 => exact rfl
    case turn =>
      intro w hw
      try (rw [List.mem_range] at hw)
      refine ⟨_, rfl, fun D acc s H C cl fp => ?_⟩
      refine de_op op_sub ?_
      refine de_var 10 rfl ?_
      refine de_var 11 rfl ?_
      walk_at "op-"
      exact ⟨rfl, rfl⟩
    case len => walk_at "sd"
    refine sb_cons ?_
    refine s_set (i := 12) nd rfl (Or.inr rfl) ?_
    refine de_callTy call_tuple_of rfl B.tuple (by decide +kernel) ?_
    refine da_cons ?_
    refine de_lc (.nm 13) [("at", 13)] rfl nd (blkOk_by (own := [("at", 13)]) (N := ["script", "bag", "lap", "m", "free", "jams", "size", "owed", "c", "came", "one", "two", "heard", "at", "need", "tails", "sizes", "turn", "taken", "bad", "spare", "here", "box", "later", "great", "rest", "worst"]) (sc := defScope (topS 31)) (by decide +kernel)) (fun _ _ _ _ _ => by walk_at "pg") (by decide) (lc_pureI ?_)
    refine di_range1 rfl B.range ?_
    refine da_cons ?_
    refine de_var 3 rfl ?_
    refine da_nil ?_
    refine ⟨_, rfl, by walk_at "sd", by walk_at "sd", ?_⟩
    apply lcI_mk0
    case h1 => exact rfl
    case turn =>
      intro w hw
      try (rw [List.mem_range] at hw)
      refine ⟨_, rfl, fun D acc s H C cl fp => ?_⟩
      refine de_callB (cr_minA rfl) rfl B.min (by decide +kernel) ?_
      refine da_cons ?_
      refine de_slice sl_U ?_
      refine de_var 12 rfl ?_
      refine do_none ?_
      refine do_some ?_
      refine de_op op_addU ?_
      refine de_var 13 rfl ?_
      refine de_int ?_
      walk_at "op+"
      refine ⟨_, rfl, ?_⟩
      walk_at "sl"
      refine da_nil ?_
      walk_at "b_min"
      exact ⟨rfl, rfl⟩
    case len => walk_at "sd"
    refine da_nil ?_
    walk_at "b_tuple"
    refine sb_cons ?_
    refine s_parC 14 15 rfl nd rfl rfl (by decide) (Or.inr rfl) (Or.inr rfl) ?_
    refine da_cons ?_
    refine de_lc (.tp (.cons (.nm 10) (.cons (.nm 11) .nil))) [("one", 10), ("two", 11)] rfl nd (blkOk_by (own := [("one", 10), ("two", 11)]) (N := ["script", "bag", "lap", "m", "free", "jams", "size", "owed", "c", "came", "one", "two", "heard", "at", "need", "tails", "sizes", "turn", "taken", "bad", "spare", "here", "box", "later", "great", "rest", "worst"]) (sc := defScope (topS 31)) (by decide +kernel)) (fun _ _ _ _ _ => by walk_at "pg") (by decide) (lc_pureI ?_)
    refine di_zipI rfl B.zip ?_
    refine da_cons ?_
    refine de_var 12 rfl ?_
    refine da_cons ?_
    refine de_var 7 rfl ?_
    refine da_nil ?_
    refine ⟨_, _,  (by first | exact Or.inl rfl | exact Or.inr rfl | rfl), ?_⟩
    apply lcI_mk0
    case h1 => exact rfl
    case turn =>
      intro w hw
      try (rw [List.mem_range] at hw)
      refine ⟨_, rfl, fun D acc s H C cl fp => ?_⟩
      refine de_op op_addU ?_
      refine de_var 10 rfl ?_
      refine de_var 11 rfl ?_
      walk_at "op+"
      exact ⟨rfl, rfl⟩
    case len => walk_at "sd"
    refine da_cons ?_
    refine de_call c_law_tails hr (by decide) rfl ?_
    refine da_cons ?_
    refine de_var 4 rfl ?_
    refine da_nil ?_
    refine ⟨_, rfl, by walk_at "sd", ?_⟩
    refine da_nil ?_
    refine ⟨_, _, rfl, ?_⟩
    refine sb_cons ?_
    refine s_setLc (i := 16) (.nm 17) [("turn", 17)] rfl nd rfl rfl (sw_true rfl rfl rfl (by decide +kernel)) (blkOk_by (own := [("turn", 17)]) (N := ["script", "bag", "lap", "m", "free", "jams", "size", "owed", "c", "came", "one", "two", "heard", "at", "need", "tails", "sizes", "turn", "taken", "bad", "spare", "here", "box", "later", "great", "rest", "worst"]) (sc := defScope (topS 31)) (by decide +kernel)) (fun _ _ _ _ _ => by walk_at "pg") (by decide) (lc_draw (fun M' => Hb p 0 M') (fun v => 1 ≤ v ∧ v ≤ m) ?_)
    refine di_range1 rfl B.range ?_
    refine da_cons ?_
    refine de_call c_law_take hr (by decide) rfl ?_
    refine da_cons ?_
    refine de_var 1 rfl ?_
    refine da_cons ?_
    refine de_int ?_
    refine da_nil ?_
    refine ⟨_, _, 0, rfl, ⟨by decide, by decide⟩, hB6, fun tn M7 ht0 ht1 hg7 => ?_⟩
    refine da_nil ?_
    refine ⟨_, rfl, by walk_at "sd", by walk_at "sd", ?_⟩
    refine ⟨by walk_at "sd", hB6.to hg7, fun M2 d D acc hd hS => ?_, fun ss M8 hnl2 hss hS8 => ?_⟩
    · obtain ⟨i, hi, rfl⟩ := List.mem_map.mp hd
      refine ⟨_, rfl, rfl, fun s H C cl fp => ?_⟩
      refine de_op op_addU ?_
      refine de_int ?_
      refine de_call c_law_take hr (by decide) rfl ?_
      refine da_cons ?_
      refine de_var 1 rfl ?_
      refine da_cons ?_
      refine de_var 3 rfl ?_
      refine da_nil ?_
      refine ⟨_, _, 1, rfl, by omega, hS.cons, fun v M3 hv0 hv1 hg3 => ?_⟩
      obtain ⟨M4, rfl, hg4⟩ := hg3.cons
      walk_at "op+"
      exact ⟨_, _, rfl, ⟨by omega, by omega⟩, rfl, hS.to hg4⟩
    rw [List.length_map, List.length_range] at hnl2
    refine sb_cons ?_
    refine s_set (i := 18) nd rfl (Or.inr rfl) ?_
    refine de_call c_law_size_tails hr (by decide) rfl ?_
    refine da_cons ?_
    refine de_var 3 rfl ?_
    refine da_cons ?_
    refine de_var 16 rfl ?_
    refine da_nil ?_
    refine ⟨_, _, rfl, by walk_at "sd", by walk_at "sd", ?_⟩
    refine sb_mid (fun ρ' M' => Hb p 0 M' ∧ ∃ (m j : Int) (fr ow cs cm he ne ss bd : List Int) (o2 o6 o10 o11 o13 o17 o20 o21 o22 o23 o24 o25 o26 : Option Ent), Pre m j fr ow cs cm ne ss bd ∧ he = heard cs cm ∧ ρ' = [some (.s (ns.map PyData.int)), some (.m p), o2, some (.d (.int m)), some (.d (tN fr)), some (.d (.int j)), o6, some (.d (tN ow)), some (.d (tN cs)), some (.d (tN cm)), o10, o11, some (.d (tN he)), o13, some (.d (lN ne)), some (.d (tN (tails fr))), some (.d (lN ss)), o17, some (.d (tN (stails m ss))), some (.d (lN bd)), o20, o21, o22, o23, o24, o25, o26]) ?_ ?_
    refine s_setLc (i := 19) (.nm 13) [("at", 13)] rfl nd rfl rfl (sw_true rfl rfl rfl (by decide +kernel)) (blkOk_by (own := [("at", 13)]) (N := ["script", "bag", "lap", "m", "free", "jams", "size", "owed", "c", "came", "one", "two", "heard", "at", "need", "tails", "sizes", "turn", "taken", "bad", "spare", "here", "box", "later", "great", "rest", "worst"]) (sc := defScope (topS 31)) (by decide +kernel)) (fun _ _ _ _ _ => by walk_at "pg") (by decide) (lc_pureI ?_)
    refine di_range1 rfl B.range ?_
    refine da_cons ?_
    refine de_var 3 rfl ?_
    refine da_nil ?_
    refine ⟨_, rfl, by walk_at "sd", by walk_at "sd", ?_⟩
    apply lcI_mk
    case h1 => exact rfl
    case turn =>
      intro w hw
      try (rw [List.mem_range] at hw)
      refine ⟨_, rfl, fun D acc => ⟨?ts, ?el⟩⟩
      case ts =>
        intro s H C cl fp
        refine dts_one ?_
        refine dw_pt ?_
        apply dw_orP
        case h1 =>
          refine dt_cmp op_gt ?_
          refine de_ix ix_seq ?_
          refine de_var 18 rfl ?_
          refine de_var 13 rfl ?_
          walk_at "ix"
          refine de_ix ix_seq ?_
          refine de_var 15 rfl ?_
          refine de_var 13 rfl ?_
          walk_at "ix"
          walk_at "op>"
          refine ⟨_, rfl, ?_⟩
          exact ⟨rfl, rfl⟩
        case h2 =>
          intro hb
          refine dw_or1 ?_
          refine dw_pt ?_
          apply dw_andP
          case h1 =>
            refine dt_cmp op_gt ?_
            refine de_ix ix_seq ?_
            refine de_var 14 rfl ?_
            refine de_var 13 rfl ?_
            walk_at "ix"
            refine de_int ?_
            walk_at "op>"
            refine ⟨_, rfl, ?_⟩
            exact ⟨rfl, rfl⟩
          case h2 =>
            intro hb
            refine dw_and1 ?_
            refine dt_cmp op_gt ?_
            refine de_op op_addU ?_
            refine de_op op_addU ?_
            refine de_ix ix_seq ?_
            refine de_var 18 rfl ?_
            refine de_var 13 rfl ?_
            walk_at "ix"
            refine de_ix ix_seq ?_
            refine de_var 14 rfl ?_
            refine de_var 13 rfl ?_
            walk_at "ix"
            walk_at "op+"
            refine de_var 5 rfl ?_
            walk_at "op+"
            refine de_ix ix_seq ?_
            refine de_var 15 rfl ?_
            refine de_var 13 rfl ?_
            walk_at "ix"
            walk_at "op>"
            refine ⟨_, rfl, ?_⟩
            exact ⟨rfl, rfl⟩
          exact ⟨rfl, rfl⟩
        exact ⟨rfl, rfl⟩
      case el =>
        intro hf s H C cl fp
        refine de_var 13 rfl ?_
        exact ⟨rfl, rfl⟩
    case len => walk_at "sd"
    exact ⟨hS8, m, j, fr, _, _, _, _, _, ss, _, _, _, _, _, _, _, _, _, _, _, _, _, _, pre_mk (so := so) (sc := sc) (ct := ct) m1 ⟨hj0, hj1⟩ hnl hfr hsol hscl hss (by omega), hef_eq (by simp) (by simp [cmf]), rfl⟩
    rintro ρ' M' ⟨hB, m, j, fr, ow, cs, cm, he, ne, ss, bd, o2, o6, o10, o11, o13, o17, o20, o21, o22, o23, o24, o25, o26, hpre, rfl, rfl⟩
    have hm := hpre.m1
    have hlf := hpre.lf
    have hlo := hpre.lo
    have hlc := hpre.lc
    have hlm := hpre.lm
    have hlh := hpre.lh
    have hln := hpre.ln
    have hls := hpre.ls
    have hj := hpre.j0
    refine sb_cons ?_
    refine s_if ?_
    refine dw_pt ?_
    apply dw_orP
    case h1 =>
      refine dt_cmp (op_neU hr.units) ?_
      refine de_call c_heard_tails hr (by decide) rfl ?_
      refine da_cons ?_
      refine de_var 8 rfl ?_
      refine da_cons ?_
      refine de_var 9 rfl ?_
      refine da_nil ?_
      refine ⟨_, _, rfl, by walk_at "sd", ?_⟩
      refine de_var 12 rfl ?_
      walk_at "op!="
      refine ⟨_, rfl, ?_⟩
      exact ⟨rfl, rfl⟩
    case h2 =>
      intro hb
      refine dw_or1 ?_
      refine dt_cmp (op_neU hr.units) ?_
      refine de_call c_may_take hr (by decide) rfl ?_
      refine da_cons ?_
      refine de_var 4 rfl ?_
      refine da_cons ?_
      refine de_var 5 rfl ?_
      refine da_cons ?_
      refine de_var 7 rfl ?_
      refine da_cons ?_
      refine de_var 8 rfl ?_
      refine da_cons ?_
      refine de_var 9 rfl ?_
      refine da_cons ?_
      refine de_callTy call_tuple_of rfl B.tuple (by decide +kernel) ?_
      refine da_cons ?_
      refine de_var 16 rfl ?_
      refine da_nil ?_
      walk_at "b_tuple"
      refine da_nil ?_
      refine ⟨_, _, _, _, _, _, rfl, by walk_at "sd", by walk_at "sd", by walk_at "sd", by walk_at "sd", by walk_at "sd", by walk_at "sd", ?_⟩
      refine de_cmp (op_eqU hr.units) ?_
      refine de_var 19 rfl ?_
      refine de_lst ?_
      refine da_nil ?_
      refine ⟨[], rfl, by first | decide | simp, ?_⟩
      walk_at "op=="
      walk_at "op!="
      refine ⟨_, rfl, ?_⟩
      exact ⟨rfl, rfl⟩
    refine ⟨fun hb => ?_, fun hb => ?_⟩
    ·
      refine sb_one ?_
      refine s_ret ?_
      refine de_bl ?_
      rw [hpre.may] at hb
      simp at hb
    refine sb_nil ?_
    refine sb_cons ?_
    refine s_set (i := 20) nd rfl (Or.inl rfl) ?_
    refine de_call c_spare_tails hr (by decide) rfl ?_
    refine da_cons ?_
    refine de_var 4 rfl ?_
    refine da_cons ?_
    refine de_var 5 rfl ?_
    refine da_cons ?_
    refine de_var 7 rfl ?_
    refine da_cons ?_
    refine de_var 8 rfl ?_
    refine da_cons ?_
    refine de_var 9 rfl ?_
    refine da_nil ?_
    refine ⟨_, _, _, _, _, rfl, by walk_at "sd", by walk_at "sd", by walk_at "sd", by walk_at "sd", by walk_at "sd", ?_⟩
    refine sb_mid (fun ρ' M' => ρ' = [some (.s (ns.map PyData.int)), some (.m p), o2, some (.d (.int m)), some (.d (tN fr)), some (.d (.int j)), o6, some (.d (tN ow)), some (.d (tN cs)), some (.d (tN cm)), o10, o11, some (.d (tN (heard cs cm))), o13, some (.d (lN ne)), some (.d (tN (tails fr))), some (.d (lN ss)), o17, some (.d (tN (stails m ss))), some (.d (lN bd)), some (.d (oD (spareO fr j ow (heard cs cm)))), o21, o22, o23, o24, o25, o26] ∧ Hb p 0 M') ?_ ?_
    · refine s_if ?_
      refine dw_pt ?_
      cases hsp : spareO fr j ow (heard cs cm) with
      | none =>
        refine dw_and ?_
        refine dt_cmp op_isnU ?_
        refine de_var 20 rfl ?_
        refine de_non ?_
        walk_at "opisnot"
        refine ⟨_, rfl, ?_⟩
        exact ⟨fun h => (by cases h), fun _ => ⟨fun h => (by cases h), fun _ => sb_nil ⟨rfl, hB⟩⟩⟩
      | some sp =>
        apply dw_andP
        case h1 =>
          refine dt_cmp op_isnU ?_
          refine de_var 20 rfl ?_
          refine de_non ?_
          walk_at "opisnot"
          refine ⟨_, rfl, ?_⟩
          exact ⟨rfl, rfl⟩
        case h2 =>
          intro hb
          apply dw_andP
          case h1 =>
            refine dt_cmp (op_eqU hr.units) ?_
            refine de_lc (.tp (.cons (.nm 10) (.cons (.nm 11) .nil))) [("one", 10), ("two", 11)] rfl nd (blkOk_by (own := [("one", 10), ("two", 11)]) (N := ["script", "bag", "lap", "m", "free", "jams", "size", "owed", "c", "came", "one", "two", "heard", "at", "need", "tails", "sizes", "turn", "taken", "bad", "spare", "here", "box", "later", "great", "rest", "worst"]) (sc := defScope (topS 31)) (by decide +kernel)) (fun _ _ _ _ _ => by walk_at "pg") (by decide) (lc_pureI ?_)
            refine di_zipI rfl B.zip ?_
            refine da_cons ?_
            refine de_var 18 rfl ?_
            refine da_cons ?_
            refine de_var 20 rfl ?_
            refine da_nil ?_
            refine ⟨_, _,  (by first | exact Or.inl rfl | exact Or.inr rfl | rfl), ?_⟩
            apply lcI_mk
            case h1 => exact rfl
            case turn =>
              intro w hw
              try (rw [List.mem_range] at hw)
              refine ⟨_, rfl, fun D acc => ⟨?ts, ?el⟩⟩
              case ts =>
                intro s H C cl fp
                refine dts_one ?_
                refine dt_cmp op_gt ?_
                refine de_var 10 rfl ?_
                refine de_var 11 rfl ?_
                walk_at "op>"
                refine ⟨_, rfl, ?_⟩
                exact ⟨rfl, rfl⟩
              case el =>
                intro hf s H C cl fp
                refine de_int ?_
                exact ⟨rfl, rfl⟩
            case len => walk_at "sd"
            refine de_lst ?_
            refine da_nil ?_
            refine ⟨[], rfl, by first | decide | simp, ?_⟩
            walk_at "op=="
            refine ⟨_, rfl, ?_⟩
            exact ⟨rfl, rfl⟩
          case h2 =>
            intro hb
            refine dw_and1 ?_
            refine dt_cmp (op_neU hr.units) ?_
            refine de_var 19 rfl ?_
            refine de_lst ?_
            refine da_nil ?_
            refine ⟨[], rfl, by first | decide | simp, ?_⟩
            walk_at "op!="
            refine ⟨_, rfl, ?_⟩
            exact ⟨rfl, rfl⟩
          exact ⟨rfl, rfl⟩
        refine ⟨fun hb => ?_, fun hb => sb_nil ⟨rfl, hB⟩⟩
        rw [Bool.and_eq_true, Bool.and_eq_true] at hb
        have h4 := of_decide_eq_true hb.2.1
        rw [List.map_eq_nil_iff] at h4
        have h5 := hb.2.2
        rw [hpre.cond2 hsp h4] at h5
        cases h5
    rintro ρ' M' ⟨rfl, hB⟩
    refine sb_one ?_
    refine s_if ?_
    refine dt_cmp (op_eqU hr.units) ?_
    refine de_var 19 rfl ?_
    refine de_lst ?_
    refine da_nil ?_
    refine ⟨[], rfl, by first | decide | simp, ?_⟩
    walk_at "op=="
    refine ⟨_, rfl, ?_⟩
    refine ⟨fun hb => ?_, fun hb => ?_⟩
    ·
      have e0 : bd = [] := of_decide_eq_true hb
      have hsp := hpre.spare e0
      have lms : (mf (roomL fr j ow (heard cs cm))).length = fr.length := by rw [len_mf, len_roomL hpre.lof hpre.lh]
      rw [hsp]
      change SB _ _ [some (.s (ns.map PyData.int)), some (.m p), o2, some (.d (.int m)), some (.d (tN fr)), some (.d (.int j)), o6, some (.d (tN ow)), some (.d (tN cs)), some (.d (tN cm)), o10, o11, some (.d (tN (heard cs cm))), o13, some (.d (lN ne)), some (.d (tN (tails fr))), some (.d (lN ss)), o17, some (.d (tN (stails m ss))), some (.d (lN bd)), some (.d (tN (mf (roomL fr j ow (heard cs cm))))), o21, o22, o23, o24, o25, o26] _ _
      refine sb_cons ?_
      refine s_set (i := 21) nd rfl (Or.inl rfl) ?_
      refine de_var 4 rfl ?_
      refine sb_cons ?_
      refine s_for (.nm 6) .never rfl (by walk_at "pg") ?_
      first | (refine di_list ?_; refine de_var 16 rfl ?_; refine ⟨_, rfl, ?_⟩) | (refine di_tup ?_; refine de_var 16 rfl ?_; refine ⟨_, rfl, ?_⟩)
      refine ⟨fun i ρ' M' => Hb p 0 M' ∧ ∃ (h : List Int) (o6 o22 o23 : Option Ent), laid fr (ss.take i) = some h ∧ OK (EE j ow (heard cs cm)) h (ss.drop i) ∧ (∀ c ∈ h, 0 ≤ c) ∧ h.length = fr.length ∧ ρ' = [some (.s (ns.map PyData.int)), some (.m p), o2, some (.d (.int m)), some (.d (tN fr)), some (.d (.int j)), o6, some (.d (tN ow)), some (.d (tN cs)), some (.d (tN cm)), o10, o11, some (.d (tN (heard cs cm))), o13, some (.d (lN ne)), some (.d (tN (tails fr))), some (.d (lN ss)), o17, some (.d (tN (stails m ss))), some (.d (lN bd)), some (.d (tN (mf (roomL fr j ow (heard cs cm))))), some (.d (tN h)), o22, o23, o24, o25, o26], ?_, fun i ρ' M' d hd hJ => ?_, fun ρ' M' hJ => ?_⟩
      · exact ⟨hB, fr, _, _, _, rfl, hpre.ok_iff.mpr e0, hpre.nn, rfl, rfl⟩
      ·
        obtain ⟨hB2, h, o6, o22, o23, hla, hok, hnn, hhl, rfl⟩ := hJ
        obtain ⟨z, hz, rfl⟩ := map_inv hd
        have hzs := hpre.hs z (List.mem_of_getElem? hz)
        have hdr : ss.drop i = z :: ss.drop (i + 1) := by
          have hi := (List.getElem?_eq_some_iff.mp hz).1
          rw [List.drop_eq_getElem_cons hi, (List.getElem?_eq_some_iff.mp hz).2]
        rw [hdr] at hok
        obtain ⟨b, bs, elb, hlb⟩ := lay_has hpre.EE.2 ⟨hzs.1, by omega⟩ hnn hok
        have hb1 := hlb.lo
        have hb2 := hlb.hi
        have hb3 := hlb.pos
        have hal : (addAt h b (-1)).length = h.length := len_addAt ⟨by omega, hb2⟩
        have hok2 := lay1 hpre.EE.1 hzs.1 hnn hlb hok
        refine ⟨_, rfl, ?_⟩
        refine sb_cons ?_
        refine s_set (i := 22) nd rfl (Or.inl rfl) ?_
        refine de_call c_least_box hr (by decide) rfl ?_
        refine da_cons ?_
        refine de_var 21 rfl ?_
        refine da_cons ?_
        refine de_var 6 rfl ?_
        refine da_nil ?_
        refine ⟨h, z, rfl, by omega, by omega, ?_⟩
        rw [elb, lbD_cons]
        refine sb_cons ?_
        refine s_if ?_
        refine dw_pt ?_
        apply dw_orP
        case h1 =>
          refine dt_cmp op_isU ?_
          refine de_var 22 rfl ?_
          refine de_non ?_
          walk_at "opis"
          refine ⟨_, rfl, ?_⟩
          exact ⟨rfl, rfl⟩
        case h2 =>
          intro hb
          refine dw_or1 ?_
          refine dt_cmp op_isU ?_
          refine de_var 20 rfl ?_
          refine de_non ?_
          walk_at "opis"
          refine ⟨_, rfl, ?_⟩
          exact ⟨rfl, rfl⟩
        refine ⟨fun hb => ?_, fun hb => ?_⟩
        ·
          refine sb_one ?_
          refine s_ret ?_
          refine de_bl ?_
          cases hb
        refine sb_nil ?_
        refine sb_cons ?_
        refine s_set (i := 21) nd rfl (Or.inl rfl) ?_
        refine de_call c_taken_from hr (by decide) rfl ?_
        refine da_cons ?_
        refine de_var 21 rfl ?_
        refine da_cons ?_
        refine de_var 22 rfl ?_
        refine da_nil ?_
        refine ⟨h, b, rfl, by omega, ⟨by omega, hb2⟩, by omega, ?_⟩
        refine sb_cons ?_
        refine s_set (i := 23) nd rfl (Or.inl rfl) ?_
        refine de_call c_spare_tails hr (by decide) rfl ?_
        refine da_cons ?_
        refine de_var 21 rfl ?_
        refine da_cons ?_
        refine de_var 5 rfl ?_
        refine da_cons ?_
        refine de_var 7 rfl ?_
        refine da_cons ?_
        refine de_var 8 rfl ?_
        refine da_cons ?_
        refine de_var 9 rfl ?_
        refine da_nil ?_
        refine ⟨_, _, _, _, _, rfl, by walk_at "sd", by walk_at "sd", by walk_at "sd", by walk_at "sd", by walk_at "sd", ?_⟩
        rw [spare_some (hpre.lof.trans (by omega)) (hlh.trans (by omega)) (by have := hpre.pos; omega) fun a ha => by have := hok2 a ha; have := S_nn (ss.drop (i + 1)) a; omega]
        refine sb_one ?_
        refine s_if ?_
        refine dt_cmp op_isU ?_
        refine de_var 23 rfl ?_
        refine de_non ?_
        walk_at "opis"
        refine ⟨_, rfl, ?_⟩
        refine ⟨fun hb => ?_, fun hb => ?_⟩
        ·
          refine sb_one ?_
          refine s_ret ?_
          refine de_bl ?_
          cases hb
        refine sb_nil ?_
        exact ⟨hB2, addAt h b (-1), some (.d (.int z)), some (.d (.int b)), _, laid_step hla hz elb, hok2, addAt_nn hnn (by omega), hal.trans hhl, rfl⟩
      obtain ⟨hB2, h, o6, o22, o23, hla, hok, hnn, hhl, rfl⟩ := hJ
      rw [List.length_map, List.take_length] at hla
      rw [List.length_map, List.drop_length] at hok
      refine sb_cons ?_
      refine s_if ?_
      refine dt_cmp (op_neU hr.units) ?_
      refine de_var 21 rfl ?_
      refine de_call c_law_laid_in hr (by decide) rfl ?_
      refine da_cons ?_
      refine de_var 4 rfl ?_
      refine da_cons ?_
      refine de_var 16 rfl ?_
      refine da_nil ?_
      refine ⟨fr, ss, rfl, by omega, fun s hs => by have := hpre.hs s hs; omega, by omega, ?_⟩
      rw [hla]
      refine n_oD ?_
      refine ⟨_, rfl, ?_⟩
      refine ⟨fun hb => ?_, fun hb => ?_⟩
      ·
        refine sb_one ?_
        refine s_ret ?_
        refine de_bl ?_
        simp at hb
      refine sb_nil ?_
      refine sb_cons ?_
      refine s_for (.nm 17) .never rfl (by walk_at "pg") ?_
      refine di_range1 rfl B.range ?_
      refine da_cons ?_
      refine de_int ?_
      refine da_nil ?_
      refine ⟨_, rfl, by walk_at "sd", by walk_at "sd", ?_⟩
      refine ⟨fun i ρ' M' => Hb p 0 M' ∧ ∃ o17 : Option Ent, ρ' = [some (.s (ns.map PyData.int)), some (.m p), o2, some (.d (.int m)), some (.d (tN fr)), some (.d (.int j)), o6, some (.d (tN ow)), some (.d (tN cs)), some (.d (tN cm)), o10, o11, some (.d (tN (heard cs cm))), o13, some (.d (lN ne)), some (.d (tN (tails fr))), some (.d (lN ss)), o17, some (.d (tN (stails m ss))), some (.d (lN bd)), some (.d (tN (mf (roomL fr j ow (heard cs cm))))), some (.d (tN h)), o22, o23, o24, o25, o26], ?_, fun i ρ' M' d hd hJ => ?_, fun ρ' M' hJ => ?_⟩
      · exact ⟨hB2, _, rfl⟩
      ·
        obtain ⟨hB3, o17, rfl⟩ := hJ
        obtain ⟨w, _, rfl⟩ := List.mem_map.mp (List.mem_of_getElem? hd)
        refine ⟨_, rfl, ?_⟩
        refine sb_one ?_
        refine s_if ?_
        refine dt_not ?_
        refine dt_val ?_
        refine de_call c_law_played hr (by decide) rfl ?_
        refine da_cons ?_
        refine de_var 1 rfl ?_
        refine da_cons ?_
        refine de_var 21 rfl ?_
        refine da_cons ?_
        refine de_var 5 rfl ?_
        refine da_cons ?_
        refine de_var 7 rfl ?_
        refine da_cons ?_
        refine de_var 12 rfl ?_
        refine da_nil ?_
        refine ⟨_, _, _, _, _, 0, rfl, hB3, hpre.played hhl hnn hok, fun M1 hg => ?_⟩
        refine ⟨_, rfl, ?_⟩
        refine ⟨fun hb => ?_, fun hb => ?_⟩
        ·
          refine sb_one ?_
          refine s_ret ?_
          refine de_bl ?_
          cases hb
        refine sb_nil ?_
        exact ⟨hB3.to hg, _, rfl⟩
      obtain ⟨hB3, o17, rfl⟩ := hJ
      refine sb_one ?_
      refine s_for (.nm 13) .never rfl (by walk_at "pg") ?_
      refine di_range1 rfl B.range ?_
      refine da_cons ?_
      refine de_var 3 rfl ?_
      refine da_nil ?_
      refine ⟨_, rfl, by walk_at "sd", by walk_at "sd", ?_⟩
      refine ⟨fun i ρ' M' => Hb p 0 M' ∧ ∃ o13 : Option Ent, ρ' = [some (.s (ns.map PyData.int)), some (.m p), o2, some (.d (.int m)), some (.d (tN fr)), some (.d (.int j)), o6, some (.d (tN ow)), some (.d (tN cs)), some (.d (tN cm)), o10, o11, some (.d (tN (heard cs cm))), o13, some (.d (lN ne)), some (.d (tN (tails fr))), some (.d (lN ss)), o17, some (.d (tN (stails m ss))), some (.d (lN bd)), some (.d (tN (mf (roomL fr j ow (heard cs cm))))), some (.d (tN h)), o22, o23, o24, o25, o26], ?_, fun i ρ' M' d hd hJ => ?_, fun ρ' M' hJ => ?_⟩
      · exact ⟨hB3, _, rfl⟩
      ·
        obtain ⟨hB4, o13, rfl⟩ := hJ
        obtain ⟨w, hw, rfl⟩ := List.mem_map.mp (List.mem_of_getElem? hd)
        rw [List.mem_range] at hw
        have hwl : w < fr.length := by omega
        have hsb : 0 ≤ (mf (roomL fr j ow (heard cs cm))).getD ((w : Int)).toNat 0 ∧ (mf (roomL fr j ow (heard cs cm))).getD ((w : Int)).toNat 0 ≤ 400 := hpre.base e0 hwl
        refine ⟨_, rfl, ?_⟩
        refine sb_cons ?_
        refine s_if ?_
        refine dw_pt ?_
        apply dw_andP
        case h1 =>
          refine dt_cmp op_gt ?_
          refine de_ix ix_seq ?_
          refine de_var 20 rfl ?_
          refine de_var 13 rfl ?_
          refine x_tI (by omega) (by rw [lms]; omega) ?_
          refine de_int ?_
          walk_at "op>"
          refine ⟨_, rfl, ?_⟩
          exact ⟨rfl, rfl⟩
        case h2 =>
          intro hb
          refine dw_and1 ?_
          refine dt_not ?_
          refine dt_val ?_
          refine de_call c_may_take hr (by decide) rfl ?_
          refine da_cons ?_
          refine de_var 4 rfl ?_
          refine da_cons ?_
          refine de_var 5 rfl ?_
          refine da_cons ?_
          refine de_var 7 rfl ?_
          refine da_cons ?_
          refine de_var 8 rfl ?_
          refine da_cons ?_
          refine de_var 9 rfl ?_
          refine da_cons ?_
          refine de_op op_mulU ?_
          refine de_tup ?_
          refine da_cons ?_
          refine de_op op_addU ?_
          refine de_var 13 rfl ?_
          refine de_int ?_
          walk_at "op+"
          refine da_nil ?_
          refine ⟨[_], rfl, by first | decide | simp, ?_⟩
          refine de_ix ix_seq ?_
          refine de_var 20 rfl ?_
          refine de_var 13 rfl ?_
          refine x_tI (by omega) (by rw [lms]; omega) ?_
          refine m_t1 (by omega) ?_
          refine da_nil ?_
          refine ⟨fr, _, _, _, _, _, rfl, by omega, by omega, by omega, by omega, by omega, by rw [List.length_replicate]; omega, ?_⟩
          refine ⟨_, rfl, ?_⟩
          exact ⟨rfl, rfl⟩
        refine ⟨fun hb => ?_, fun hb => ?_⟩
        ·
          refine sb_one ?_
          refine s_ret ?_
          refine de_bl ?_
          rw [Bool.and_eq_true] at hb
          have h1 := (hpre.spare_fit e0 hwl hsb.1).mpr (.inr (Int.le_refl _))
          have h2 := hb.2
          rw [h1] at h2
          cases h2
        refine sb_nil ?_
        refine sb_one ?_
        refine s_if ?_
        refine dt_cmp op_isnU ?_
        refine de_call c_may_take hr (by decide) rfl ?_
        refine da_cons ?_
        refine de_var 4 rfl ?_
        refine da_cons ?_
        refine de_var 5 rfl ?_
        refine da_cons ?_
        refine de_var 7 rfl ?_
        refine da_cons ?_
        refine de_var 8 rfl ?_
        refine da_cons ?_
        refine de_var 9 rfl ?_
        refine da_cons ?_
        refine de_op op_mulU ?_
        refine de_tup ?_
        refine da_cons ?_
        refine de_op op_addU ?_
        refine de_var 13 rfl ?_
        refine de_int ?_
        walk_at "op+"
        refine da_nil ?_
        refine ⟨[_], rfl, by first | decide | simp, ?_⟩
        refine de_op op_addU ?_
        refine de_ix ix_seq ?_
        refine de_var 20 rfl ?_
        refine de_var 13 rfl ?_
        refine x_tI (by omega) (by rw [lms]; omega) ?_
        refine de_int ?_
        walk_at "op+"
        refine m_t1 (by omega) ?_
        refine da_nil ?_
        refine ⟨fr, _, _, _, _, _, rfl, by omega, by omega, by omega, by omega, by omega, by rw [List.length_replicate]; omega, ?_⟩
        refine de_bl ?_
        walk_at "opisnot"
        refine ⟨_, rfl, ?_⟩
        refine ⟨fun hb => ?_, fun hb => ?_⟩
        ·
          refine sb_one ?_
          refine s_ret ?_
          refine de_bl ?_
          have h1 : mayT fr j ow (heard cs cm) (List.replicate ((mf (roomL fr j ow (heard cs cm))).getD ((w : Int)).toNat 0 + 1).toNat ((w : Int) + 1)) = true := by
            cases h2 : mayT fr j ow (heard cs cm) (List.replicate ((mf (roomL fr j ow (heard cs cm))).getD ((w : Int)).toNat 0 + 1).toNat ((w : Int) + 1)) with
            | true => rfl
            | false => rw [h2] at hb; simp at hb
          rcases (hpre.spare_fit e0 hwl (k := (mf (roomL fr j ow (heard cs cm))).getD ((w : Int)).toNat 0 + 1) (by omega)).mp h1 with h3 | h3
          · omega
          · rw [Int.toNat_natCast] at h3; omega
        refine sb_nil ?_
        exact ⟨hB4, _, rfl⟩
      obtain ⟨hB4, o13, rfl⟩ := hJ
      exact ⟨hB4, _, _, _, _, _, _, _, _, _, _, _, _, _, _, _, _, _, _, _, _, _, _, _, _, _, rfl⟩
    ·
      obtain ⟨b0, bt, rfl⟩ : ∃ b0 bt, bd = b0 :: bt := by
        cases bd with
        | nil => simp at hb
        | cons b0 bt => exact ⟨b0, bt, rfl⟩
      have hbm : b0 ∈ b0 :: bt := List.mem_cons_self ..
      obtain ⟨hb0, hb1, hb2⟩ := (hpre.hb b0).mp hbm
      have hnb : ne.getD b0.toNat 0 = ow.getD b0.toNat 0 + (heard cs cm).getD b0.toNat 0 := hpre.hn b0.toNat (by omega)
      have hn1 := fall_nn hpre.fo b0.toNat
      have hn2 := fall_nn hpre.fh b0.toNat
      have hn3 := anti_of hpre.fo (Nat.zero_le b0.toNat)
      have hn4 := anti_of hpre.fh (Nat.zero_le b0.toNat)
      have hn5 := hpre.bo
      have hn6 := hpre.bh
      refine sb_cons ?_
      refine s_set (i := 6) nd rfl (Or.inr rfl) ?_
      refine de_op op_addU ?_
      refine de_ix ix_seq ?_
      refine de_var 19 rfl ?_
      refine de_int ?_
      refine x_l0 ?_
      refine de_int ?_
      walk_at "op+"
      refine sb_cons ?_
      refine s_setLc (i := 24) (.nm 10) [("one", 10)] rfl nd rfl rfl (sw_true rfl rfl rfl (by decide +kernel)) (blkOk_by (own := [("one", 10)]) (N := ["script", "bag", "lap", "m", "free", "jams", "size", "owed", "c", "came", "one", "two", "heard", "at", "need", "tails", "sizes", "turn", "taken", "bad", "spare", "here", "box", "later", "great", "rest", "worst"]) (sc := defScope (topS 31)) (by decide +kernel)) (fun _ _ _ _ _ => by walk_at "pg") (by decide) (lc_pureI ?_)
      first | (refine di_list ?_; refine de_var 16 rfl ?_; refine ⟨_, rfl, ?_⟩) | (refine di_tup ?_; refine de_var 16 rfl ?_; refine ⟨_, rfl, ?_⟩)
      apply lcI_mk
      case h1 => exact rfl
      case turn =>
        intro w hw
        try (rw [List.mem_range] at hw)
        refine ⟨_, rfl, fun D acc => ⟨?ts, ?el⟩⟩
        case ts =>
          intro s H C cl fp
          refine dts_one ?_
          refine dt_cmp op_ge ?_
          refine de_var 10 rfl ?_
          refine de_var 6 rfl ?_
          walk_at "op>="
          refine ⟨_, rfl, ?_⟩
          exact ⟨rfl, rfl⟩
        case el =>
          intro hf s H C cl fp
          refine de_var 10 rfl ?_
          exact ⟨rfl, rfl⟩
      case len => walk_at "sd"
      refine sb_mid (fun ρ' M' => Hb p 0 M' ∧ ∃ (o24' : Option Ent) (r : Option (List Int)), (∀ w, r = some w → S ss b0.toNat ≤ T fr b0.toNat ∧ ∃ xs : List Int, xs.Perm ss ∧ laid fr xs = some w) ∧ ρ' = [some (.s (ns.map PyData.int)), some (.m p), o2, some (.d (.int m)), some (.d (tN fr)), some (.d (.int j)), some (.d (.int (b0 + 1))), some (.d (tN ow)), some (.d (tN cs)), some (.d (tN cm)), o10, o11, some (.d (tN (heard cs cm))), o13, some (.d (lN ne)), some (.d (tN (tails fr))), some (.d (lN ss)), o17, some (.d (tN (stails m ss))), some (.d (lN (b0 :: bt))), some (.d (oD (spareO fr j ow (heard cs cm)))), o21, o22, o23, o24', some (.d (oD r)), o26]) ?_ ?_
      refine s_set (i := 25) nd rfl (Or.inl rfl) ?_
      refine de_ife ?_
      ·
        refine dt_val ?_
        refine de_call c_fits_all hr (by decide) rfl ?_
        refine da_cons ?_
        refine de_callTy call_tuple_of rfl B.tuple (by decide +kernel) ?_
        refine da_cons ?_
        refine de_var 16 rfl ?_
        refine da_nil ?_
        walk_at "b_tuple"
        refine da_cons ?_
        refine de_var 4 rfl ?_
        refine da_nil ?_
        refine ⟨_, _, rfl, by walk_at "sd", by walk_at "sd", ?_⟩
        refine ⟨_, rfl, ?_⟩
        refine ⟨fun hfit => ?_, fun _ => ?_⟩
        refine de_call c_law_laid_in hr (by decide) rfl ?_
        refine da_cons ?_
        refine de_var 4 rfl ?_
        refine da_cons ?_
        refine de_op op_addU ?_
        refine de_callB cr_sortedI rfl B.sorted (by decide +kernel) ?_
        refine da_cons ?_
        refine de_lc (.nm 10) [("one", 10)] rfl nd (blkOk_by (own := [("one", 10)]) (N := ["script", "bag", "lap", "m", "free", "jams", "size", "owed", "c", "came", "one", "two", "heard", "at", "need", "tails", "sizes", "turn", "taken", "bad", "spare", "here", "box", "later", "great", "rest", "worst"]) (sc := defScope (topS 31)) (by decide +kernel)) (fun _ _ _ _ _ => by walk_at "pg") (by decide) (lc_pureI ?_)
        first | (refine di_list ?_; refine de_var 16 rfl ?_; refine ⟨_, rfl, ?_⟩) | (refine di_tup ?_; refine de_var 16 rfl ?_; refine ⟨_, rfl, ?_⟩)
        apply lcI_mk
        case h1 => exact rfl
        case turn =>
          intro w hw
          try (rw [List.mem_range] at hw)
          refine ⟨_, rfl, fun D acc => ⟨?ts, ?el⟩⟩
          case ts =>
            intro s H C cl fp
            refine dts_one ?_
            refine dt_cmp op_lt ?_
            refine de_var 10 rfl ?_
            refine de_var 6 rfl ?_
            walk_at "op<"
            refine ⟨_, rfl, ?_⟩
            exact ⟨rfl, rfl⟩
          case el =>
            intro hf s H C cl fp
            refine de_var 10 rfl ?_
            exact ⟨rfl, rfl⟩
        case len => walk_at "sd"
        refine da_nil ?_
        refine c_sorted (by rw [List.length_map]; exact Nat.le_trans (List.length_filter_le ..) (by omega)) fun ms1 hp1 _ => ?_
        refine de_callB cr_sortedI rfl B.sorted (by decide +kernel) ?_
        refine da_cons ?_
        refine de_var 24 rfl ?_
        refine da_nil ?_
        refine c_sorted (by rw [List.length_map]; exact Nat.le_trans (List.length_filter_le ..) (by omega)) fun ms2 hp2 _ => ?_
        rw [List.map_id'] at hp1 hp2
        have hpp : (ms1 ++ ms2).Perm ss := (hp1.append hp2).trans (part_perm ss (b0 + 1))
        have hpl := hpp.length_eq
        rw [List.length_append] at hpl
        refine a_lI (by omega) ?_
        refine da_nil ?_
        refine ⟨fr, _, rfl, by omega, fun s hs => by have := hpre.hs s (hpp.mem_iff.mp hs); omega, by rw [List.length_append]; omega, ?_⟩
        refine ⟨hB, _, laid fr (ms1 ++ ms2), fun w hw => ⟨?_, ms1 ++ ms2, hpp, hw⟩, rfl⟩
        have h1 := (atMost_iff (by simp)).mp hfit b0.toNat (by rw [len_stails]; omega)
        rw [stails_get (by omega), tails_get] at h1
        exact h1
        · refine de_non ?_
          exact ⟨hB, _, none, fun w hw => (by cases hw), rfl⟩
      rintro ρ' M' ⟨hB, o24', r, hrr, rfl⟩
      refine sb_one ?_
      refine s_if ?_
      refine dt_cmp op_isnU ?_
      refine de_var 25 rfl ?_
      refine de_non ?_
      walk_at "opisnot"
      refine ⟨_, rfl, ?_⟩
      refine ⟨fun hb => ?_, fun hb => ?_⟩
      ·
        obtain ⟨w, rfl⟩ : ∃ w, r = some w := by
          cases r with
          | none => cases hb
          | some w => exact ⟨w, rfl⟩
        obtain ⟨hfit, xs, hpp, hlx⟩ := hrr w rfl
        obtain ⟨hwn, hwl, _⟩ := laid_facts (k := 0) (fun s hs => by have := hpre.hs s (hpp.mem_iff.mp hs); omega) hpre.nn hlx
        refine sb_cons ?_
        refine s_set (i := 26) nd rfl (Or.inl rfl) ?_
        refine de_call c_less_greatest hr (by decide) rfl ?_
        refine da_cons ?_
        refine de_var 25 rfl ?_
        refine da_cons ?_
        refine de_var 5 rfl ?_
        refine da_nil ?_
        refine ⟨w, j, rfl, by omega, hwn, hj.1, ?_⟩
        refine sb_one ?_
        refine s_if ?_
        refine dt_cmp op_isnU ?_
        refine de_call c_law_laid_in hr (by decide) rfl ?_
        refine da_cons ?_
        refine de_var 26 rfl ?_
        refine da_cons ?_
        refine de_op op_mulU ?_
        refine de_lst ?_
        refine da_cons ?_
        refine de_var 6 rfl ?_
        refine da_nil ?_
        refine ⟨[_], rfl, by first | decide | simp, ?_⟩
        refine de_ix ix_seq ?_
        refine de_var 14 rfl ?_
        refine de_ix ix_seq ?_
        refine de_var 19 rfl ?_
        refine de_int ?_
        refine x_l0 ?_
        refine x_lI hb0 (by omega) ?_
        refine m_l1 (by omega) ?_
        refine da_nil ?_
        refine ⟨_, _, rfl, by rw [len_lessG]; omega, fun s hs => by have := List.eq_of_mem_replicate hs; omega, by rw [List.length_replicate]; omega, ?_⟩
        refine de_non ?_
        walk_at "opisnot"
        refine ⟨_, rfl, ?_⟩
        refine ⟨fun hb => ?_, fun hb => ?_⟩
        ·
          refine sb_one ?_
          refine s_ret ?_
          refine de_bl ?_
          cases hll : laid (lessG w j) (List.replicate (ne.getD b0.toNat 0).toNat (b0 + 1)) with
          | none => rw [hll] at hb; cases hb
          | some ms => exact (hpre.worst hbm hfit hpp hlx hll).elim
        refine sb_nil ?_
        exact ⟨hB, _, _, _, _, _, _, _, _, _, _, _, _, _, _, _, _, _, _, _, _, _, _, _, _, _, rfl⟩
      ·
        refine sb_one ?_
        refine s_if ?_
        refine dw_pt ?_
        apply dw_andP
        case h1 =>
          refine dt_cmp (op_eqU hr.units) ?_
          refine de_ix ix_seq ?_
          refine de_var 14 rfl ?_
          refine de_ix ix_seq ?_
          refine de_var 19 rfl ?_
          refine de_int ?_
          refine x_l0 ?_
          refine x_lI hb0 (by omega) ?_
          refine de_int ?_
          walk_at "op=="
          refine ⟨_, rfl, ?_⟩
          exact ⟨rfl, rfl⟩
        case h2 =>
          intro hb
          refine dw_and1 ?_
          refine dt_cmp op_le ?_
          refine de_ix ix_seq ?_
          refine de_var 18 rfl ?_
          refine de_ix ix_seq ?_
          refine de_var 19 rfl ?_
          refine de_int ?_
          refine x_l0 ?_
          refine x_tI hb0 (by rw [len_stails]; omega) ?_
          refine de_ix ix_seq ?_
          refine de_var 15 rfl ?_
          refine de_ix ix_seq ?_
          refine de_var 19 rfl ?_
          refine de_int ?_
          refine x_l0 ?_
          refine x_tI hb0 (by rw [len_tails]; omega) ?_
          walk_at "op<="
          refine ⟨_, rfl, ?_⟩
          exact ⟨rfl, rfl⟩
        refine ⟨fun hb => ?_, fun hb => ?_⟩
        ·
          refine sb_one ?_
          refine s_ret ?_
          refine de_bl ?_
          rw [Bool.and_eq_true] at hb
          have h1 := of_decide_eq_true hb.1
          have h2 := of_decide_eq_true hb.2
          rw [stails_get (by omega), tails_get] at h2
          rcases hb2 with h3 | ⟨h3, _⟩ <;> omega
        refine sb_nil ?_
        exact ⟨hB, _, _, _, _, _, _, _, _, _, _, _, _, _, _, _, _, _, _, _, _, _, _, _, _, _, rfl⟩
  refine sb_one ?_
  refine s_ret ?_
  refine de_bl ?_
  exact q _
end
/-! ### what the top has written; the law's own head -/
theorem all_mk {l : PySem.W.OpenLaw} {w : World} {K : PySem.W.Frag} {h : Heap} {mg : Str → Option Value} {fa : Addr} (X : K.In h) (G : h.Ns mainGlobals mg) (hfa : mg "law" = some (.ref fa)) {f1 : Addr} {od1 an1 : Option Addr} {sl1 : Array (Option Value)} {oc1 kV1 dc1 pm1 cd1 ct1 : Value} {f2 : Addr} {od2 an2 : Option Addr} {sl2 : Array (Option Value)} {oc2 kV2 dc2 pm2 cd2 ct2 : Value} {f3 : Addr} {od3 an3 : Option Addr} {sl3 : Array (Option Value)} {oc3 kV3 dc3 pm3 cd3 ct3 : Value} {f4 : Addr} {od4 an4 : Option Addr} {sl4 : Array (Option Value)} {oc4 kV4 dc4 pm4 cd4 ct4 : Value} {f5 : Addr} {od5 an5 : Option Addr} {sl5 : Array (Option Value)} {oc5 kV5 dc5 pm5 cd5 ct5 : Value} {f6 : Addr} {od6 an6 : Option Addr} {sl6 : Array (Option Value)} {oc6 kV6 dc6 pm6 cd6 ct6 : Value} {f7 : Addr} {od7 an7 : Option Addr} {sl7 : Array (Option Value)} {oc7 kV7 dc7 pm7 cd7 ct7 : Value} {f8 : Addr} {od8 an8 : Option Addr} {sl8 : Array (Option Value)} {oc8 kV8 dc8 pm8 cd8 ct8 : Value} {f9 : Addr} {od9 an9 : Option Addr} {sl9 : Array (Option Value)} {oc9 kV9 dc9 pm9 cd9 ct9 : Value} {f10 : Addr} {od10 an10 : Option Addr} {sl10 : Array (Option Value)} {oc10 kV10 dc10 pm10 cd10 ct10 : Value} {f11 : Addr} {od11 an11 : Option Addr} {sl11 : Array (Option Value)} {oc11 kV11 dc11 pm11 cd11 ct11 : Value} {f12 : Addr} {od12 an12 : Option Addr} {sl12 : Array (Option Value)} {oc12 kV12 dc12 pm12 cd12 ct12 : Value} {f13 : Addr} {od13 an13 : Option Addr} {sl13 : Array (Option Value)} {oc13 kV13 dc13 pm13 cd13 ct13 : Value} {f14 : Addr} {od14 an14 : Option Addr} {sl14 : Array (Option Value)} {oc14 kV14 dc14 pm14 cd14 ct14 : Value} {f15 : Addr} {od15 an15 : Option Addr} {sl15 : Array (Option Value)} {oc15 kV15 dc15 pm15 cd15 ct15 : Value} {f16 : Addr} {od16 an16 : Option Addr} {sl16 : Array (Option Value)} {oc16 kV16 dc16 pm16 cd16 ct16 : Value} {f17 : Addr} {od17 an17 : Option Addr} {sl17 : Array (Option Value)} {oc17 kV17 dc17 pm17 cd17 ct17 : Value} {f18 : Addr} {od18 an18 : Option Addr} {sl18 : Array (Option Value)} {oc18 kV18 dc18 pm18 cd18 ct18 : Value} {f19 : Addr} {od19 an19 : Option Addr} {sl19 : Array (Option Value)} {oc19 kV19 dc19 pm19 cd19 ct19 : Value} {f20 : Addr} {od20 an20 : Option Addr} {sl20 : Array (Option Value)} {oc20 kV20 dc20 pm20 cd20 ct20 : Value} {f21 : Addr} {od21 an21 : Option Addr} {sl21 : Array (Option Value)} {oc21 kV21 dc21 pm21 cd21 ct21 : Value} {f22 : Addr} {od22 an22 : Option Addr} {sl22 : Array (Option Value)} {oc22 kV22 dc22 pm22 cd22 ct22 : Value} {f23 : Addr} {od23 an23 : Option Addr} {sl23 : Array (Option Value)} {oc23 kV23 dc23 pm23 cd23 ct23 : Value} {f24 : Addr} {od24 an24 : Option Addr} {sl24 : Array (Option Value)} {oc24 kV24 dc24 pm24 cd24 ct24 : Value} {f25 : Addr} {od25 an25 : Option Addr} {sl25 : Array (Option Value)} {oc25 kV25 dc25 pm25 cd25 ct25 : Value}
    (a1 : PySem.W.nsIn K mainGlobals "tails_of" = some (some (.ref f1))) (l1 : K.lookup f1 = some ⟨oc1, od1, .func (PySem.W.fnOf "tails_of" "tails_of" (defArgs (topS 5)) (defBody (topS 5)) (defScope (topS 5)) .none kV1 dc1 pm1 an1 cd1 ct1), sl1⟩) (c1 : PySem.W.codeIn K cd1 "tails_of" = true) (k1 : PySem.W.keepIn K (.ref f1) = true)
    (a2 : PySem.W.nsIn K mainGlobals "tails_of_sizes" = some (some (.ref f2))) (l2 : K.lookup f2 = some ⟨oc2, od2, .func (PySem.W.fnOf "tails_of_sizes" "tails_of_sizes" (defArgs (topS 6)) (defBody (topS 6)) (defScope (topS 6)) .none kV2 dc2 pm2 an2 cd2 ct2), sl2⟩) (c2 : PySem.W.codeIn K cd2 "tails_of_sizes" = true) (k2 : PySem.W.keepIn K (.ref f2) = true)
    (a3 : PySem.W.nsIn K mainGlobals "made_falling" = some (some (.ref f3))) (l3 : K.lookup f3 = some ⟨oc3, od3, .func (PySem.W.fnOf "made_falling" "made_falling" (defArgs (topS 8)) (defBody (topS 8)) (defScope (topS 8)) .none kV3 dc3 pm3 an3 cd3 ct3), sl3⟩) (c3 : PySem.W.codeIn K cd3 "made_falling" = true) (k3 : PySem.W.keepIn K (.ref f3) = true)
    (a4 : PySem.W.nsIn K mainGlobals "at_most" = some (some (.ref f4))) (l4 : K.lookup f4 = some ⟨oc4, od4, .func (PySem.W.fnOf "at_most" "at_most" (defArgs (topS 9)) (defBody (topS 9)) (defScope (topS 9)) .none kV4 dc4 pm4 an4 cd4 ct4), sl4⟩) (c4 : PySem.W.codeIn K cd4 "at_most" = true) (k4 : PySem.W.keepIn K (.ref f4) = true)
    (a5 : PySem.W.nsIn K mainGlobals "fits_all" = some (some (.ref f5))) (l5 : K.lookup f5 = some ⟨oc5, od5, .func (PySem.W.fnOf "fits_all" "fits_all" (defArgs (topS 10)) (defBody (topS 10)) (defScope (topS 10)) .none kV5 dc5 pm5 an5 cd5 ct5), sl5⟩) (c5 : PySem.W.codeIn K cd5 "fits_all" = true) (k5 : PySem.W.keepIn K (.ref f5) = true)
    (a6 : PySem.W.nsIn K mainGlobals "least_box" = some (some (.ref f6))) (l6 : K.lookup f6 = some ⟨oc6, od6, .func (PySem.W.fnOf "least_box" "least_box" (defArgs (topS 11)) (defBody (topS 11)) (defScope (topS 11)) .none kV6 dc6 pm6 an6 cd6 ct6), sl6⟩) (c6 : PySem.W.codeIn K cd6 "least_box" = true) (k6 : PySem.W.keepIn K (.ref f6) = true)
    (a7 : PySem.W.nsIn K mainGlobals "changed_by" = some (some (.ref f7))) (l7 : K.lookup f7 = some ⟨oc7, od7, .func (PySem.W.fnOf "changed_by" "changed_by" (defArgs (topS 13)) (defBody (topS 13)) (defScope (topS 13)) .none kV7 dc7 pm7 an7 cd7 ct7), sl7⟩) (c7 : PySem.W.codeIn K cd7 "changed_by" = true) (k7 : PySem.W.keepIn K (.ref f7) = true)
    (a8 : PySem.W.nsIn K mainGlobals "taken_from" = some (some (.ref f8))) (l8 : K.lookup f8 = some ⟨oc8, od8, .func (PySem.W.fnOf "taken_from" "taken_from" (defArgs (topS 14)) (defBody (topS 14)) (defScope (topS 14)) .none kV8 dc8 pm8 an8 cd8 ct8), sl8⟩) (c8 : PySem.W.codeIn K cd8 "taken_from" = true) (k8 : PySem.W.keepIn K (.ref f8) = true)
    (a9 : PySem.W.nsIn K mainGlobals "counts_of" = some (some (.ref f9))) (l9 : K.lookup f9 = some ⟨oc9, od9, .func (PySem.W.fnOf "counts_of" "counts_of" (defArgs (topS 7)) (defBody (topS 7)) (defScope (topS 7)) .none kV9 dc9 pm9 an9 cd9 ct9), sl9⟩) (c9 : PySem.W.codeIn K cd9 "counts_of" = true) (k9 : PySem.W.keepIn K (.ref f9) = true)
    (a10 : PySem.W.nsIn K mainGlobals "less_greatest" = some (some (.ref f10))) (l10 : K.lookup f10 = some ⟨oc10, od10, .func (PySem.W.fnOf "less_greatest" "less_greatest" (defArgs (topS 12)) (defBody (topS 12)) (defScope (topS 12)) .none kV10 dc10 pm10 an10 cd10 ct10), sl10⟩) (c10 : PySem.W.codeIn K cd10 "less_greatest" = true) (k10 : PySem.W.keepIn K (.ref f10) = true)
    (a11 : PySem.W.nsIn K mainGlobals "heard_tails" = some (some (.ref f11))) (l11 : K.lookup f11 = some ⟨oc11, od11, .func (PySem.W.fnOf "heard_tails" "heard_tails" (defArgs (topS 16)) (defBody (topS 16)) (defScope (topS 16)) .none kV11 dc11 pm11 an11 cd11 ct11), sl11⟩) (c11 : PySem.W.codeIn K cd11 "heard_tails" = true) (k11 : PySem.W.keepIn K (.ref f11) = true)
    (a12 : PySem.W.nsIn K mainGlobals "room_left" = some (some (.ref f12))) (l12 : K.lookup f12 = some ⟨oc12, od12, .func (PySem.W.fnOf "room_left" "room_left" (defArgs (topS 17)) (defBody (topS 17)) (defScope (topS 17)) .none kV12 dc12 pm12 an12 cd12 ct12), sl12⟩) (c12 : PySem.W.codeIn K cd12 "room_left" = true) (k12 : PySem.W.keepIn K (.ref f12) = true)
    (a13 : PySem.W.nsIn K mainGlobals "spare_tails" = some (some (.ref f13))) (l13 : K.lookup f13 = some ⟨oc13, od13, .func (PySem.W.fnOf "spare_tails" "spare_tails" (defArgs (topS 19)) (defBody (topS 19)) (defScope (topS 19)) .none kV13 dc13 pm13 an13 cd13 ct13), sl13⟩) (c13 : PySem.W.codeIn K cd13 "spare_tails" = true) (k13 : PySem.W.keepIn K (.ref f13) = true)
    (a14 : PySem.W.nsIn K mainGlobals "may_take" = some (some (.ref f14))) (l14 : K.lookup f14 = some ⟨oc14, od14, .func (PySem.W.fnOf "may_take" "may_take" (defArgs (topS 18)) (defBody (topS 18)) (defScope (topS 18)) .none kV14 dc14 pm14 an14 cd14 ct14), sl14⟩) (c14 : PySem.W.codeIn K cd14 "may_take" = true) (k14 : PySem.W.keepIn K (.ref f14) = true)
    (a15 : PySem.W.nsIn K mainGlobals "_law_bag" = some (some (.ref f15))) (l15 : K.lookup f15 = some ⟨oc15, od15, .func (PySem.W.fnOf "_law_bag" "_law_bag" (defArgs (topS 21)) (defBody (topS 21)) (defScope (topS 21)) .none kV15 dc15 pm15 an15 cd15 ct15), sl15⟩) (c15 : PySem.W.codeIn K cd15 "_law_bag" = true) (k15 : PySem.W.keepIn K (.ref f15) = true)
    (a16 : PySem.W.nsIn K mainGlobals "_law_take" = some (some (.ref f16))) (l16 : K.lookup f16 = some ⟨oc16, od16, .func (PySem.W.fnOf "_law_take" "_law_take" (defArgs (topS 22)) (defBody (topS 22)) (defScope (topS 22)) .none kV16 dc16 pm16 an16 cd16 ct16), sl16⟩) (c16 : PySem.W.codeIn K cd16 "_law_take" = true) (k16 : PySem.W.keepIn K (.ref f16) = true)
    (a17 : PySem.W.nsIn K mainGlobals "_law_some" = some (some (.ref f17))) (l17 : K.lookup f17 = some ⟨oc17, od17, .func (PySem.W.fnOf "_law_some" "_law_some" (defArgs (topS 23)) (defBody (topS 23)) (defScope (topS 23)) .none kV17 dc17 pm17 an17 cd17 ct17), sl17⟩) (c17 : PySem.W.codeIn K cd17 "_law_some" = true) (k17 : PySem.W.keepIn K (.ref f17) = true)
    (a18 : PySem.W.nsIn K mainGlobals "_law_mixed" = some (some (.ref f18))) (l18 : K.lookup f18 = some ⟨oc18, od18, .func (PySem.W.fnOf "_law_mixed" "_law_mixed" (defArgs (topS 24)) (defBody (topS 24)) (defScope (topS 24)) .none kV18 dc18 pm18 an18 cd18 ct18), sl18⟩) (c18 : PySem.W.codeIn K cd18 "_law_mixed" = true) (k18 : PySem.W.keepIn K (.ref f18) = true)
    (a19 : PySem.W.nsIn K mainGlobals "_law_tails" = some (some (.ref f19))) (l19 : K.lookup f19 = some ⟨oc19, od19, .func (PySem.W.fnOf "_law_tails" "_law_tails" (defArgs (topS 25)) (defBody (topS 25)) (defScope (topS 25)) .none kV19 dc19 pm19 an19 cd19 ct19), sl19⟩) (c19 : PySem.W.codeIn K cd19 "_law_tails" = true) (k19 : PySem.W.keepIn K (.ref f19) = true)
    (a20 : PySem.W.nsIn K mainGlobals "_law_size_tails" = some (some (.ref f20))) (l20 : K.lookup f20 = some ⟨oc20, od20, .func (PySem.W.fnOf "_law_size_tails" "_law_size_tails" (defArgs (topS 26)) (defBody (topS 26)) (defScope (topS 26)) .none kV20 dc20 pm20 an20 cd20 ct20), sl20⟩) (c20 : PySem.W.codeIn K cd20 "_law_size_tails" = true) (k20 : PySem.W.keepIn K (.ref f20) = true)
    (a21 : PySem.W.nsIn K mainGlobals "_law_drawn_tails" = some (some (.ref f21))) (l21 : K.lookup f21 = some ⟨oc21, od21, .func (PySem.W.fnOf "_law_drawn_tails" "_law_drawn_tails" (defArgs (topS 27)) (defBody (topS 27)) (defScope (topS 27)) .none kV21 dc21 pm21 an21 cd21 ct21), sl21⟩) (c21 : PySem.W.codeIn K cd21 "_law_drawn_tails" = true) (k21 : PySem.W.keepIn K (.ref f21) = true)
    (a22 : PySem.W.nsIn K mainGlobals "_law_laid_in" = some (some (.ref f22))) (l22 : K.lookup f22 = some ⟨oc22, od22, .func (PySem.W.fnOf "_law_laid_in" "_law_laid_in" (defArgs (topS 28)) (defBody (topS 28)) (defScope (topS 28)) .none kV22 dc22 pm22 an22 cd22 ct22), sl22⟩) (c22 : PySem.W.codeIn K cd22 "_law_laid_in" = true) (k22 : PySem.W.keepIn K (.ref f22) = true)
    (a23 : PySem.W.nsIn K mainGlobals "_law_sizes_of" = some (some (.ref f23))) (l23 : K.lookup f23 = some ⟨oc23, od23, .func (PySem.W.fnOf "_law_sizes_of" "_law_sizes_of" (defArgs (topS 29)) (defBody (topS 29)) (defScope (topS 29)) .none kV23 dc23 pm23 an23 cd23 ct23), sl23⟩) (c23 : PySem.W.codeIn K cd23 "_law_sizes_of" = true) (k23 : PySem.W.keepIn K (.ref f23) = true)
    (a24 : PySem.W.nsIn K mainGlobals "_law_played" = some (some (.ref f24))) (l24 : K.lookup f24 = some ⟨oc24, od24, .func (PySem.W.fnOf "_law_played" "_law_played" (defArgs (topS 30)) (defBody (topS 30)) (defScope (topS 30)) .none kV24 dc24 pm24 an24 cd24 ct24), sl24⟩) (c24 : PySem.W.codeIn K cd24 "_law_played" = true) (k24 : PySem.W.keepIn K (.ref f24) = true)
    (a25 : PySem.W.nsIn K mainGlobals "law" = some (some (.ref f25))) (l25 : K.lookup f25 = some ⟨oc25, od25, .func (PySem.W.fnOf "law" "law" (defArgs (topS 31)) (defBody (topS 31)) (defScope (topS 31)) .none kV25 dc25 pm25 an25 cd25 ct25), sl25⟩) (c25 : PySem.W.codeIn K cd25 "law" = true) (k25 : PySem.W.keepIn K (.ref f25) = true)
    (z1 : PySem.W.nsIn K mainGlobals "len" = some none) (z2 : PySem.W.nsIn K mainGlobals "sum" = some none) (z3 : PySem.W.nsIn K mainGlobals "tuple" = some none) (z4 : PySem.W.nsIn K mainGlobals "list" = some none) (z5 : PySem.W.nsIn K mainGlobals "range" = some none) (z6 : PySem.W.nsIn K mainGlobals "zip" = some none) (z7 : PySem.W.nsIn K mainGlobals "min" = some none) (z8 : PySem.W.nsIn K mainGlobals "max" = some none) (z9 : PySem.W.nsIn K mainGlobals "abs" = some none) (z10 : PySem.W.nsIn K mainGlobals "int" = some none) (z11 : PySem.W.nsIn K mainGlobals "all" = some none) (z12 : PySem.W.nsIn K mainGlobals "any" = some none) (z13 : PySem.W.nsIn K mainGlobals "sorted" = some none) (z14 : PySem.W.nsIn K mainGlobals "enumerate" = some none) :
    ∃ fd : FuncData, (∀ (s : Shared) (v : Value), BindsTo s fd ⟨[v], []⟩ [("script", v)]) ∧ ∀ base : Heap, K.In base → base.Ns mainGlobals mg → FnOk l.prog w K mg base CX0 6 fa fd ["script"] (Pr K C_law) := by
  have e := hfa.symm.trans (PySem.W.mg_of X G a25)
  cases e
  have B : Bt mg := ⟨PySem.W.mg_none_of X G z1, PySem.W.mg_none_of X G z2, PySem.W.mg_none_of X G z3, PySem.W.mg_none_of X G z4, PySem.W.mg_none_of X G z5, PySem.W.mg_none_of X G z6, PySem.W.mg_none_of X G z7, PySem.W.mg_none_of X G z8, PySem.W.mg_none_of X G z9, PySem.W.mg_none_of X G z10, PySem.W.mg_none_of X G z11, PySem.W.mg_none_of X G z12, PySem.W.mg_none_of X G z13, PySem.W.mg_none_of X G z14⟩
  have F1 := fun_mk (st := topS 5) l1 c1 k1
  have F2 := fun_mk (st := topS 6) l2 c2 k2
  have F3 := fun_mk (st := topS 8) l3 c3 k3
  have F4 := fun_mk (st := topS 9) l4 c4 k4
  have F5 := fun_mk (st := topS 10) l5 c5 k5
  have F6 := fun_mk (st := topS 11) l6 c6 k6
  have F7 := fun_mk (st := topS 13) l7 c7 k7
  have F8 := fun_mk (st := topS 14) l8 c8 k8
  have F9 := fun_mk (st := topS 7) l9 c9 k9
  have F10 := fun_mk (st := topS 12) l10 c10 k10
  have F11 := fun_mk (st := topS 16) l11 c11 k11
  have F12 := fun_mk (st := topS 17) l12 c12 k12
  have F13 := fun_mk (st := topS 19) l13 c13 k13
  have F14 := fun_mk (st := topS 18) l14 c14 k14
  have F15 := fun_mk (st := topS 21) l15 c15 k15
  have F16 := fun_mk (st := topS 22) l16 c16 k16
  have F17 := fun_mk (st := topS 23) l17 c17 k17
  have F18 := fun_mk (st := topS 24) l18 c18 k18
  have F19 := fun_mk (st := topS 25) l19 c19 k19
  have F20 := fun_mk (st := topS 26) l20 c20 k20
  have F21 := fun_mk (st := topS 27) l21 c21 k21
  have F22 := fun_mk (st := topS 28) l22 c22 k22
  have F23 := fun_mk (st := topS 29) l23 c23 k23
  have F24 := fun_mk (st := topS 30) l24 c24 k24
  have F25 := fun_mk (st := topS 31) l25 c25 k25
  refine ⟨PySem.W.fnOf "law" "law" (defArgs (topS 31)) (defBody (topS 31)) (defScope (topS 31)) .none kV25 dc25 pm25 an25 cd25 ct25, fun s v => .of_eq rfl, fun base _ _ => ?_⟩
  have q_tails_of : Cal l.prog w K mg base "tails_of" 1 C_tails_of := c_tails_of F1 (PySem.W.mg_of X G a1) (F1.binds (ps := ["counts"]) fun _ _ _ _ _ _ us hl => match us, hl with | [_], _ => rfl) B
  have q_tails_of_sizes : Cal l.prog w K mg base "tails_of_sizes" 1 C_tails_of_sizes := c_tails_of_sizes F2 (PySem.W.mg_of X G a2) (F2.binds (ps := ["m", "sizes"]) fun _ _ _ _ _ _ us hl => match us, hl with | [_, _], _ => rfl) B
  have q_made_falling : Cal l.prog w K mg base "made_falling" 1 C_made_falling := c_made_falling F3 (PySem.W.mg_of X G a3) (F3.binds (ps := ["tails"]) fun _ _ _ _ _ _ us hl => match us, hl with | [_], _ => rfl) B
  have q_at_most : Cal l.prog w K mg base "at_most" 1 C_at_most := c_at_most F4 (PySem.W.mg_of X G a4) (F4.binds (ps := ["tails", "others"]) fun _ _ _ _ _ _ us hl => match us, hl with | [_, _], _ => rfl) B
  have q_fits_all : Cal l.prog w K mg base "fits_all" 2 C_fits_all := c_fits_all F5 (PySem.W.mg_of X G a5) (F5.binds (ps := ["sizes", "counts"]) fun _ _ _ _ _ _ us hl => match us, hl with | [_, _], _ => rfl) B q_tails_of_sizes q_tails_of q_at_most
  have q_least_box : Cal l.prog w K mg base "least_box" 1 C_least_box := c_least_box F6 (PySem.W.mg_of X G a6) (F6.binds (ps := ["counts", "size"]) fun _ _ _ _ _ _ us hl => match us, hl with | [_, _], _ => rfl) B
  have q_changed_by : Cal l.prog w K mg base "changed_by" 1 C_changed_by := c_changed_by F7 (PySem.W.mg_of X G a7) (F7.binds (ps := ["counts", "box", "many"]) fun _ _ _ _ _ _ us hl => match us, hl with | [_, _, _], _ => rfl) B
  have q_taken_from : Cal l.prog w K mg base "taken_from" 2 C_taken_from := c_taken_from F8 (PySem.W.mg_of X G a8) (F8.binds (ps := ["counts", "box"]) fun _ _ _ _ _ _ us hl => match us, hl with | [_, _], _ => rfl) B q_changed_by
  have q_counts_of : Cal l.prog w K mg base "counts_of" 1 C_counts_of := c_counts_of F9 (PySem.W.mg_of X G a9) (F9.binds (ps := ["tails"]) fun _ _ _ _ _ _ us hl => match us, hl with | [_], _ => rfl) B
  have q_less_greatest : Cal l.prog w K mg base "less_greatest" 2 C_less_greatest := c_less_greatest F10 (PySem.W.mg_of X G a10) (F10.binds (ps := ["counts", "many"]) fun _ _ _ _ _ _ us hl => match us, hl with | [_, _], _ => rfl) B q_tails_of q_counts_of
  have q_heard_tails : Cal l.prog w K mg base "heard_tails" 2 C_heard_tails := c_heard_tails F11 (PySem.W.mg_of X G a11) (F11.binds (ps := ["c", "came"]) fun _ _ _ _ _ _ us hl => match us, hl with | [_, _], _ => rfl) B q_made_falling
  have q_room_left : Cal l.prog w K mg base "room_left" 3 C_room_left := c_room_left F12 (PySem.W.mg_of X G a12) (F12.binds (ps := ["counts", "jams", "owed", "c", "came"]) fun _ _ _ _ _ _ us hl => match us, hl with | [_, _, _, _, _], _ => rfl) B q_tails_of q_heard_tails
  have q_spare_tails : Cal l.prog w K mg base "spare_tails" 4 C_spare_tails := c_spare_tails F13 (PySem.W.mg_of X G a13) (F13.binds (ps := ["counts", "jams", "owed", "c", "came"]) fun _ _ _ _ _ _ us hl => match us, hl with | [_, _, _, _, _], _ => rfl) B q_room_left q_made_falling
  have q_may_take : Cal l.prog w K mg base "may_take" 5 C_may_take := c_may_take F14 (PySem.W.mg_of X G a14) (F14.binds (ps := ["counts", "jams", "owed", "c", "came", "sizes"]) fun _ _ _ _ _ _ us hl => match us, hl with | [_, _, _, _, _, _], _ => rfl) B q_tails_of_sizes q_spare_tails
  have q_law_bag : Cal l.prog w K mg base "_law_bag" 1 C_law_bag := c_law_bag F15 (PySem.W.mg_of X G a15) (F15.binds (ps := ["script"]) fun _ _ _ _ _ _ us hl => match us, hl with | [_], _ => rfl) B
  have q_law_take : Cal l.prog w K mg base "_law_take" 1 C_law_take := c_law_take F16 (PySem.W.mg_of X G a16) (F16.binds (ps := ["bag", "many"]) fun _ _ _ _ _ _ us hl => match us, hl with | [_, _], _ => rfl) B
  have q_law_some : Cal l.prog w K mg base "_law_some" 2 C_law_some := c_law_some F17 (PySem.W.mg_of X G a17) (F17.binds (ps := ["bag", "things"]) fun _ _ _ _ _ _ us hl => match us, hl with | [_, _], _ => rfl) B q_law_take
  have q_law_mixed : Cal l.prog w K mg base "_law_mixed" 2 C_law_mixed := c_law_mixed F18 (PySem.W.mg_of X G a18) (F18.binds (ps := ["bag", "things"]) fun _ _ _ _ _ _ us hl => match us, hl with | [_, _], _ => rfl) B q_law_take
  have q_law_tails : Cal l.prog w K mg base "_law_tails" 1 C_law_tails := c_law_tails F19 (PySem.W.mg_of X G a19) (F19.binds (ps := ["counts"]) fun _ _ _ _ _ _ us hl => match us, hl with | [_], _ => rfl) B
  have q_law_size_tails : Cal l.prog w K mg base "_law_size_tails" 1 C_law_size_tails := c_law_size_tails F20 (PySem.W.mg_of X G a20) (F20.binds (ps := ["m", "sizes"]) fun _ _ _ _ _ _ us hl => match us, hl with | [_, _], _ => rfl) B
  have q_law_drawn_tails : Cal l.prog w K mg base "_law_drawn_tails" 2 C_law_drawn_tails := c_law_drawn_tails F21 (PySem.W.mg_of X G a21) (F21.binds (ps := ["bag", "m", "most"]) fun _ _ _ _ _ _ us hl => match us, hl with | [_, _, _], _ => rfl) B q_law_take q_law_size_tails
  have q_law_laid_in : Cal l.prog w K mg base "_law_laid_in" 1 C_law_laid_in := c_law_laid_in F22 (PySem.W.mg_of X G a22) (F22.binds (ps := ["free", "sizes"]) fun _ _ _ _ _ _ us hl => match us, hl with | [_, _], _ => rfl) B
  have q_law_sizes_of : Cal l.prog w K mg base "_law_sizes_of" 1 C_law_sizes_of := c_law_sizes_of F23 (PySem.W.mg_of X G a23) (F23.binds (ps := ["tails"]) fun _ _ _ _ _ _ us hl => match us, hl with | [_], _ => rfl) B
  have q_law_played : Cal l.prog w K mg base "_law_played" 3 C_law_played := c_law_played F24 (PySem.W.mg_of X G a24) (F24.binds (ps := ["bag", "free", "jams", "owed", "heard"]) fun _ _ _ _ _ _ us hl => match us, hl with | [_, _, _, _, _], _ => rfl) B q_law_take q_law_some q_law_mixed q_law_laid_in q_law_sizes_of
  exact c_law F25 (PySem.W.mg_of X G a25) B q_law_bag q_law_take q_law_drawn_tails q_law_tails q_law_size_tails q_heard_tails q_may_take q_spare_tails q_least_box q_taken_from q_law_laid_in q_law_played q_fits_all q_less_greatest
theorem law_sp {K : PySem.W.Frag} {H : Hp} {a : Addr} {ns : List Int} (hS : SqL K H a (ns.map V.int)) : Pr K C_law [.ref a] H (fun v _ => v = .bl true) (fun _ _ _ => False) := by
  refine ⟨[], [.s (ns.map PyData.int)], fun en _ => en = .d (.bool true), ⟨by simp, fun p hp => by cases hp⟩, .cons ⟨a, ns.map V.int, rfl, by rw [msk_nil]; exact hS, .ints ns⟩ .nil, ⟨ns, rfl, fun M' => rfl⟩, fun v H' en M' _ _ hv hq => ?_⟩
  subst hq
  have hv' : Dt.Dp K (msk H' M') v (.bool true) := hv
  cases hv'; rfl
end K96
open PySem PySem.W PyProof.Rows
set_option maxHeartbeats 0 in
theorem PySem.Challenge.cw_owedbeside_k96_returns_in_a_cut_that_lea_holds : PySem.Challenge.rw_owedbeside_k96_returns_in_a_cut_that_lea.Holds := by
  w_on; o_law; k_head; (case hw => w_witness2)
  k_fill
  refine L2.walk_of (l := PySem.Challenge.rw_owedbeside_k96_returns_in_a_cut_that_lea) (n := 63) (k := 6) (x := "script") (CX := fun _ => L2.CX0) (sp := fun w => Dt.Pr _ K96.C_law) rfl (by decide) rfl ⟨rfl, by decide, by decide⟩ (fun w h Y => PySem.W.kIn_of Y) ?F (fun _ _ a ns _ _ hS => K96.law_sp hS) (fun _ _ _ _ _ h => h)
  case F =>
    intro w mg fa h KX G hmg
    refine' K96.all_mk KX G hmg ?a1 ?l1 ?c1 ?k1 ?a2 ?l2 ?c2 ?k2 ?a3 ?l3 ?c3 ?k3 ?a4 ?l4 ?c4 ?k4 ?a5 ?l5 ?c5 ?k5 ?a6 ?l6 ?c6 ?k6 ?a7 ?l7 ?c7 ?k7 ?a8 ?l8 ?c8 ?k8 ?a9 ?l9 ?c9 ?k9 ?a10 ?l10 ?c10 ?k10 ?a11 ?l11 ?c11 ?k11 ?a12 ?l12 ?c12 ?k12 ?a13 ?l13 ?c13 ?k13 ?a14 ?l14 ?c14 ?k14 ?a15 ?l15 ?c15 ?k15 ?a16 ?l16 ?c16 ?k16 ?a17 ?l17 ?c17 ?k17 ?a18 ?l18 ?c18 ?k18 ?a19 ?l19 ?c19 ?k19 ?a20 ?l20 ?c20 ?k20 ?a21 ?l21 ?c21 ?k21 ?a22 ?l22 ?c22 ?k22 ?a23 ?l23 ?c23 ?k23 ?a24 ?l24 ?c24 ?k24 ?a25 ?l25 ?c25 ?k25 ?z1 ?z2 ?z3 ?z4 ?z5 ?z6 ?z7 ?z8 ?z9 ?z10 ?z11 ?z12 ?z13 ?z14
    (case a1 => k_is); (case l1 => k_is); (case c1 => k_is); (case k1 => k_is); (case a2 => k_is); (case l2 => k_is); (case c2 => k_is); (case k2 => k_is); (case a3 => k_is); (case l3 => k_is); (case c3 => k_is); (case k3 => k_is); (case a4 => k_is); (case l4 => k_is); (case c4 => k_is); (case k4 => k_is); (case a5 => k_is); (case l5 => k_is); (case c5 => k_is); (case k5 => k_is); (case a6 => k_is); (case l6 => k_is); (case c6 => k_is); (case k6 => k_is); (case a7 => k_is); (case l7 => k_is); (case c7 => k_is); (case k7 => k_is); (case a8 => k_is); (case l8 => k_is); (case c8 => k_is); (case k8 => k_is); (case a9 => k_is); (case l9 => k_is); (case c9 => k_is); (case k9 => k_is); (case a10 => k_is); (case l10 => k_is); (case c10 => k_is); (case k10 => k_is); (case a11 => k_is); (case l11 => k_is); (case c11 => k_is); (case k11 => k_is); (case a12 => k_is); (case l12 => k_is); (case c12 => k_is); (case k12 => k_is); (case a13 => k_is); (case l13 => k_is); (case c13 => k_is); (case k13 => k_is); (case a14 => k_is); (case l14 => k_is); (case c14 => k_is); (case k14 => k_is); (case a15 => k_is); (case l15 => k_is); (case c15 => k_is); (case k15 => k_is); (case a16 => k_is); (case l16 => k_is); (case c16 => k_is); (case k16 => k_is); (case a17 => k_is); (case l17 => k_is); (case c17 => k_is); (case k17 => k_is); (case a18 => k_is); (case l18 => k_is); (case c18 => k_is); (case k18 => k_is); (case a19 => k_is); (case l19 => k_is); (case c19 => k_is); (case k19 => k_is); (case a20 => k_is); (case l20 => k_is); (case c20 => k_is); (case k20 => k_is); (case a21 => k_is); (case l21 => k_is); (case c21 => k_is); (case k21 => k_is); (case a22 => k_is); (case l22 => k_is); (case c22 => k_is); (case k22 => k_is); (case a23 => k_is); (case l23 => k_is); (case c23 => k_is); (case k23 => k_is); (case a24 => k_is); (case l24 => k_is); (case c24 => k_is); (case k24 => k_is); (case a25 => k_is); (case l25 => k_is); (case c25 => k_is); (case k25 => k_is)
    (case z1 => k_is); (case z2 => k_is); (case z3 => k_is); (case z4 => k_is); (case z5 => k_is); (case z6 => k_is); (case z7 => k_is); (case z8 => k_is); (case z9 => k_is); (case z10 => k_is); (case z11 => k_is); (case z12 => k_is); (case z13 => k_is); (case z14 => k_is)
