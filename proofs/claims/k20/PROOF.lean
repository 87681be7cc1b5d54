import PyProof.Rows.All
import Wide.All
import OpenK.AllK
import Wide.FinOn
import HandS.ForMost
import HandS.TupAny
import HandS.TupMul
import HandS.Zip
import HandS.IsInst
import HandS.ListItems
import HandS.StrMore
import HandS.Flow
import HandS.Style
import HandS.TupLe
import HandS.Conv
import HandS.DictTup
import HandS.SetKeys
import HandS.DictComp
import KE.SortData
import HandS.Lambda
import KE.GoesEnum
import KE.KItemsList
import KE.KDictPairs
import HandS.SetFor
import HandS.Strs
import HandS.Codes
import KE.IntTextText
import HandS.ForExc
import KE.GoesComp
import KE.GoesRaise
import KE.KDictZip
import HandS.ExcIs
import HandS.EndTab
import KE.KNest
import PySem.Challenge.RW_savehall_k20_saves_as_texts
set_option Elab.async false
set_option linter.all false
set_option autoImplicit false
set_option maxRecDepth 100000
/-! The pure layer: data by value, mirrors as functions. -/
namespace Pu
open PySem PySem.Spec PyProof.Rows L2

abbrev D := PyData

section hid
open Classical in
/-- the heap without the addresses in S -/
noncomputable def hid (S : Addr → Prop) (H : Hp) : Hp := fun b => if S b then none else H b
theorem hid_of {S : Addr → Prop} {H : Hp} {b : Addr} {o : HO} (hb : ¬ S b) (e : H b = some o) : hid S H b = some o := by
  unfold hid
  rw [if_neg hb]
  exact e
theorem of_hid {S : Addr → Prop} {H : Hp} {b : Addr} {o : HO} (e : hid S H b = some o) : ¬ S b ∧ H b = some o := by
  unfold hid at e
  by_cases hb : S b
  · rw [if_pos hb] at e
    cases e
  · rw [if_neg hb] at e
    exact ⟨hb, e⟩
theorem hid_same (S : Addr → Prop) (H : Hp) : Same (hid S H) H := fun _ _ e => (of_hid e).2
theorem same_hid {S : Addr → Prop} {H H' : Hp} (s : Same H H') : Same (hid S H) (hid S H') := fun b o e => hid_of (of_hid e).1 (s b o (of_hid e).2)
theorem hid_le {S S' : Addr → Prop} (H : Hp) (s : ∀ a, S a → S' a) : Same (hid S' H) (hid S H) := fun b o e => hid_of (fun z => (of_hid e).1 (s b z)) (of_hid e).2
end hid

theorem _root_.L2.Same.seqT {K : PySem.W.Frag} {H H' : Hp} {a : Addr} {xs : List V} (e : Same H H') (h : SqT K H a xs) : SqT K H' a xs := by
  rcases h with (h | ⟨o, h⟩) | h
  · exact .inl (.inl (e _ _ h))
  · exact .inl (.inr ⟨o, e _ _ h⟩)
  · exact .inr h
theorem same_upd {H : Hp} {p : Addr} {o : HO} (h : H p = none) : Same H (upd H p o) := fun b x e => by
  rw [upd_ne (ne_of_none e h)]
  exact e

/-- a tuple whose object is known to be plain -/
def TupF (H : Hp) (a : Addr) (xs : List V) : Prop := ∃ o : Obj, H a = some (.frz o (.tup xs)) ∧ o.dict = none
theorem TupF.sq {K : PySem.W.Frag} {H : Hp} {a : Addr} {xs : List V} (h : TupF H a xs) : SqT K H a xs := let ⟨o, h, _⟩ := h; .inl (.inr ⟨o, h⟩)
theorem TupF.mono {H H' : Hp} {a : Addr} {xs : List V} (s : Same H H') (h : TupF H a xs) : TupF H' a xs := let ⟨o, h, q⟩ := h; ⟨o, s _ _ h, q⟩
mutual
/-- the value is the datum -/
inductive Dq (K : PySem.W.Frag) (H : Hp) : V → D → Prop
  | non : Dq K H .non .none
  | bl (b : Bool) : Dq K H (.bl b) (.bool b)
  | int (i : Int) : Dq K H (.int i) (.int i)
  | str (x : Str) : Dq K H (.str x) (.str x)
  | lst {a : Addr} {xs : List V} {ds : List D} : SqL K H a xs → DqAll K H xs ds → Dq K H (.ref a) (.list ds)
  | tup {a : Addr} {xs : List V} {ds : List D} : TupF H a xs → DqAll K H xs ds → Dq K H (.ref a) (.tuple ds)
inductive DqAll (K : PySem.W.Frag) (H : Hp) : List V → List D → Prop
  | nil : DqAll K H [] []
  | cons {v : V} {vs : List V} {d : D} {ds : List D} : Dq K H v d → DqAll K H vs ds → DqAll K H (v :: vs) (d :: ds)
end
mutual
theorem Dq.mono {K : PySem.W.Frag} {H H' : Hp} (s : Same H H') : ∀ {v : V} {d : D}, Dq K H v d → Dq K H' v d
  | _, _, .non => .non
  | _, _, .bl b => .bl b
  | _, _, .int i => .int i
  | _, _, .str x => .str x
  | _, _, .lst q a => .lst (s.seq q) (DqAll.mono s a)
  | _, _, .tup q a => .tup (q.mono s) (DqAll.mono s a)
theorem DqAll.mono {K : PySem.W.Frag} {H H' : Hp} (s : Same H H') : ∀ {vs : List V} {ds : List D}, DqAll K H vs ds → DqAll K H' vs ds
  | _, _, .nil => .nil
  | _, _, .cons a r => .cons (Dq.mono s a) (DqAll.mono s r)
end
mutual
theorem Dq.dp {K : PySem.W.Frag} {H : Hp} : ∀ {v : V} {d : D}, Dq K H v d → Dp K H v d
  | _, _, .non => .non
  | _, _, .bl b => .bl b
  | _, _, .int i => .int i
  | _, _, .str x => .str x
  | _, _, .lst q a => .lst q (DqAll.dp a)
  | _, _, .tup q a => .tup q.sq (DqAll.dp a)
theorem DqAll.dp {K : PySem.W.Frag} {H : Hp} : ∀ {vs : List V} {ds : List D}, DqAll K H vs ds → DpAll K H vs ds
  | _, _, .nil => .nil
  | _, _, .cons a r => .cons (Dq.dp a) (DqAll.dp r)
end
theorem DqAll.length {K : PySem.W.Frag} {H : Hp} : ∀ {vs : List V} {ds : List D}, DqAll K H vs ds → vs.length = ds.length
  | _, _, .nil => rfl
  | _, _, .cons _ r => by rw [List.length_cons, List.length_cons, DqAll.length r]
theorem DqAll.get {K : PySem.W.Frag} {H : Hp} : ∀ {vs : List V} {ds : List D} {i : Nat} {d : D}, DqAll K H vs ds → ds[i]? = some d → ∃ v, vs[i]? = some v ∧ Dq K H v d
  | _, _, _, _, .nil, e => by simp at e
  | _, _, 0, _, .cons a _, e => by
    rw [List.getElem?_cons_zero] at e
    cases e
    exact ⟨_, rfl, a⟩
  | _, _, i + 1, _, .cons _ r, e => by
    rw [List.getElem?_cons_succ] at e
    exact DqAll.get (i := i) r e
theorem DqAll.getV {K : PySem.W.Frag} {H : Hp} : ∀ {vs : List V} {ds : List D} {i : Nat} {v : V}, DqAll K H vs ds → vs[i]? = some v → ∃ d, ds[i]? = some d ∧ Dq K H v d
  | _, _, _, _, .nil, e => by simp at e
  | _, _, 0, _, .cons a _, e => by
    rw [List.getElem?_cons_zero] at e
    cases e
    exact ⟨_, rfl, a⟩
  | _, _, i + 1, _, .cons _ r, e => by
    rw [List.getElem?_cons_succ] at e
    exact DqAll.getV (i := i) r e
theorem DqAll.append {K : PySem.W.Frag} {H : Hp} : ∀ {vs ws : List V} {ds es : List D}, DqAll K H vs ds → DqAll K H ws es → DqAll K H (vs ++ ws) (ds ++ es)
  | _, _, _, _, .nil, q => q
  | _, _, _, _, .cons a r, q => .cons a (DqAll.append r q)
theorem DqAll.take {K : PySem.W.Frag} {H : Hp} : ∀ {vs : List V} {ds : List D} (n : Nat), DqAll K H vs ds → DqAll K H (vs.take n) (ds.take n)
  | _, _, 0, _ => .nil
  | _, _, _ + 1, .nil => .nil
  | _, _, n + 1, .cons a r => .cons a (DqAll.take n r)
theorem DqAll.drop {K : PySem.W.Frag} {H : Hp} : ∀ {vs : List V} {ds : List D} (n : Nat), DqAll K H vs ds → DqAll K H (vs.drop n) (ds.drop n)
  | _, _, 0, q => q
  | _, _, _ + 1, .nil => .nil
  | _, _, n + 1, .cons _ r => DqAll.drop n r
theorem DqAll.one {K : PySem.W.Frag} {H : Hp} {v : V} {d : D} (h : Dq K H v d) : DqAll K H [v] [d] := .cons h .nil
theorem DqAll.snoc {K : PySem.W.Frag} {H : Hp} {vs : List V} {ds : List D} {v : V} {d : D} (r : DqAll K H vs ds) (h : Dq K H v d) : DqAll K H (vs ++ [v]) (ds ++ [d]) := r.append (.one h)

/-- a dict's entries -/
abbrev KVs := List (Key × D)
def DKV (K : PySem.W.Frag) (H : Hp) : List (Key × V) → KVs → Prop := Paired fun (p : Key × V) (q : Key × D) => p.1 = q.1 ∧ Dq K H p.2 q.2
theorem DKV.mono {K : PySem.W.Frag} {H H' : Hp} (s : Same H H') : ∀ {es : List (Key × V)} {kvs : KVs}, DKV K H es kvs → DKV K H' es kvs
  | _, _, .nil => .nil
  | _, _, .cons a r => .cons ⟨a.1, Dq.mono s a.2⟩ (DKV.mono s r)

/-- what stood at the def's entry; what stands through the statement at hand -/
def Kep : HO → Prop
  | .tbl _ => True
  | .ext _ => True
  | _ => False
structure Base where
  lo : Hp
  hi : Hp
  le : Same lo hi
  /-- where the dict lies that was handed in to be changed -/
  pin : Addr
  /-- what is known of tables of code objects -/
  tab : Hp → Prop
  tabM : ∀ H H', tab H → (∀ b o, H b = some o → Kep o → H' b = some o) → tab H'
abbrev Base.of (H : Hp) : Base := ⟨H, H, Same.refl H, 0, fun _ => True, fun _ _ _ _ => trivial⟩

/-- what the table at P is known to hold -/
def tabP (P : Addr) (q : Str) : Hp → Prop := fun H => LamX.TabS H P q
/-! ### slots -/
/-- what a slot holds: nothing known, data, a list of one's own, a dict of one's own, a dict of the caller's -/
inductive Sl where
  | no
  | dat (d : D)
  | own (ds : List D)
  | dic (kvs : KVs)
  | bor (kvs : KVs)
  | mu (kvs : KVs)
  /-- data; and the table of code objects at P is known -/
  | dtab (P : Addr) (q : Str) (d : D)
abbrev Rho := List Sl
def Sl.owned : Sl → Bool
  | .own _ => true
  | .dic _ => true
  | .mu _ => true
  | _ => false
def SlOk (K : PySem.W.Frag) (S : Addr → Prop) (B : Base) (H : Hp) : Option V → Sl → Prop
  | _, .no => True
  | some v, .dat d => Dq K (hid S H) v d
  | some v, .own ds => ∃ a vs, v = .ref a ∧ S a ∧ B.hi a = none ∧ H a = some (.lst vs) ∧ DqAll K (hid S H) vs ds
  | some v, .dic kvs => ∃ a es, v = .ref a ∧ S a ∧ B.hi a = none ∧ H a = some (.dK es) ∧ DKV K (hid S H) es kvs
  | some v, .mu kvs => ∃ a es, v = .ref a ∧ S a ∧ B.hi a = none ∧ H a = some (.dK es) ∧ DKV K (hid S H) es kvs ∧ a = B.pin
  | some v, .bor kvs => ∃ a es, v = .ref a ∧ B.lo a = some (.dK es) ∧ DKV K (hid S H) es kvs
  | some v, .dtab P q d => Dq K (hid S H) v d ∧ S P ∧ B.hi P = none ∧ B.tab = tabP P q
  | none, _ => False
theorem SlOk.step {K : PySem.W.Frag} {S : Addr → Prop} {B : Base} {H H' : Hp} (s : Same H H') : ∀ {o : Option V} {x : Sl}, SlOk K S B H o x → SlOk K S B H' o x
  | _, .no, _ => by cases ‹Option V› <;> trivial
  | some v, .dat d, h => Dq.mono (same_hid s) h
  | some v, .own ds, ⟨a, vs, e, hS, hB, hH, hd⟩ => ⟨a, vs, e, hS, hB, s _ _ hH, hd.mono (same_hid s)⟩
  | some v, .dic kvs, ⟨a, es, e, hS, hB, hH, hd⟩ => ⟨a, es, e, hS, hB, s _ _ hH, hd.mono (same_hid s)⟩
  | some v, .mu kvs, ⟨a, es, e, hS, hB, hH, hd, he⟩ => ⟨a, es, e, hS, hB, s _ _ hH, hd.mono (same_hid s), he⟩
  | some v, .bor kvs, ⟨a, es, e, hB, hd⟩ => ⟨a, es, e, hB, hd.mono (same_hid s)⟩
  | some v, .dtab P q d, h => ⟨Dq.mono (same_hid s) h.1, h.2⟩
  | none, .dtab P q d, h => h
  | none, .dat d, h => h
  | none, .own d, h => h
  | none, .dic d, h => h
  | none, .bor d, h => h
  | none, .mu d, h => h

structure EnvOk (K : PySem.W.Frag) (S : Addr → Prop) (B : Base) (H : Hp) (σ : L2.St) (ρ : Rho) : Prop where
  len : σ.length = ρ.length
  sub : ∀ a, S a → H a ≠ none
  base : Same B.hi H
  slot : ∀ (i : Nat) (x : Sl), ρ[i]? = some x → SlOk K S B H (σ[i]?.getD none) x
  apart : ∀ (i j : Nat) (a : Addr) (x y : Sl), i ≠ j → ρ[i]? = some x → x.owned = true → ρ[j]? = some y → y.owned = true → σ[i]? = some (some (.ref a)) → σ[j]? ≠ some (some (.ref a))
  tab : B.tab H
theorem EnvOk.step {K : PySem.W.Frag} {S : Addr → Prop} {B : Base} {H H' : Hp} {σ : L2.St} {ρ : Rho} (E : EnvOk K S B H σ ρ) (s : Same H H') : EnvOk K S B H' σ ρ where
  len := E.len
  sub := fun a ha => by
    cases q : H a with
    | none => exact absurd q (E.sub a ha)
    | some o =>
      rw [s _ _ q]
      exact fun z => nomatch z
  base := E.base.trans s
  slot := fun i x e => (E.slot i x e).step s
  apart := E.apart
  tab := B.tabM _ _ E.tab fun b o h _ => s b o h
/-- what is new is not in S -/
theorem EnvOk.new {K : PySem.W.Frag} {S : Addr → Prop} {B : Base} {H : Hp} {σ : L2.St} {ρ : Rho} (E : EnvOk K S B H σ ρ) {p : Addr} (h : H p = none) : ¬ S p := fun z => E.sub p z h

/-! ### expressions -/
abbrev Mir := Rho → Option D
def tOf (K : PySem.W.Frag) (f : Mir) : TE := fun σ H Q => ∃ S B ρ d, EnvOk K S B H σ ρ ∧ f ρ = some d ∧ ∀ v H', Same H H' → Dq K (hid S H') v d → Q v H'
abbrev PD (X : Cx) (e : Expr) (f : Mir) : Prop := PE X e (tOf X.K f)
theorem weak {X : Cx} {e : Expr} {t t' : TE} (h : PE X e t) (w : ∀ σ H Q, t' σ H Q → t σ H Q) : PE X e t' := ⟨fun pins s σ H Q I q => h.run pins s σ H Q I (w σ H Q q)⟩
theorem weakT {X : Cx} {e : Expr} {t t' : TT} (h : PT X e t) (w : ∀ σ H Q, t' σ H Q → t σ H Q) : PT X e t' := ⟨fun pins s σ H Q I q => h.run pins s σ H Q I (w σ H Q q)⟩
theorem weakS {X : Cx} {st : Stmt} {t t' : TS} (h : PS X st t) (w : ∀ D σ H, t' D σ H → t D σ H) : PS X st t' := ⟨fun pins s σ H D I q => h.run pins s σ H D I (w D σ H q)⟩
theorem weakSs {X : Cx} {st : List Stmt} {t t' : TS} (h : PSs X st t) (w : ∀ D σ H, t' D σ H → t D σ H) : PSs X st t' := ⟨fun pins s σ H D I q => h.run pins s σ H D I (w D σ H q)⟩
theorem weakA {X : Cx} {es : List Expr} {t t' : TA} (h : PA X es t) (w : ∀ σ H Q, t' σ H Q → t σ H Q) : PA X es t' := ⟨fun pos pins s σ H Q I q => h.run pos pins s σ H Q I (w σ H Q q)⟩
theorem weakI {X : Cx} {tg e : Expr} {t t' : TI} (h : PI X tg e t) (w : ∀ σ H Q, t' σ H Q → t σ H Q) : PI X tg e t' := ⟨fun pins s σ H Q I q => h.run pins s σ H Q I (w σ H Q q)⟩

/-- a new heap above -/
def Sub (S : Addr → Prop) (H : Hp) : Prop := ∀ a, S a → H a ≠ none

def mVar (i : Nat) : Mir := fun ρ => match ρ[i]? with
  | some (.dat d) => some d
  | some (.dtab _ _ d) => some d
  | _ => none
def mC (d : D) : Mir := fun _ => some d
section
variable {X : Cx} {a b e : Expr} {f g : Mir} {pos : Pos}
theorem pd_var (i : Nat) {x : Str} (hN : X.N[i]? = some x := by rfl) (hv : Vis X.env.scope x := by first | exact Or.inl rfl | exact Or.inr (Or.inl rfl) | exact Or.inr (Or.inr rfl)) (hd : (x == ("__debug__" : Str)) = false := by decide)
    (hcd : (x == ("__classdict__" : Str)) = false := by decide) : PD X (.Name x pos) (mVar i) :=
  weak (pe_var hN hv hd hcd) fun σ H Q ⟨S, B, ρ, d, E, e, k⟩ => by
    unfold mVar at e
    cases q : ρ[i]? with
    | none =>
      rw [q] at e
      cases e
    | some y =>
      rw [q] at e
      cases y with
      | dat d' =>
        cases e
        have z := E.slot i _ q
        cases w : σ[i]? with
        | none =>
          rw [w] at z
          exact z.elim
        | some ov =>
          rw [w] at z
          cases ov with
          | none => exact z.elim
          | some v => exact ⟨v, w, k v H (Same.refl H) z⟩
      | dtab P q' d' =>
        cases e
        have z := E.slot i _ q
        cases w : σ[i]? with
        | none =>
          rw [w] at z
          exact z.elim
        | some ov =>
          rw [w] at z
          cases ov with
          | none => exact z.elim
          | some v => exact ⟨v, w, k v H (Same.refl H) z.1⟩
      | no => cases e
      | own _ => cases e
      | dic _ => cases e
      | bor _ => cases e
      | mu _ => cases e
theorem pd_int {i j} : PD X (.Constant (.int i) j pos) (mC (.int i)) := weak pe_int fun σ H Q ⟨S, B, ρ, d, E, e, k⟩ => by
  cases e
  exact k _ H (Same.refl H) (.int i)
theorem pd_bl {b j} : PD X (.Constant (.bool b) j pos) (mC (.bool b)) := weak pe_bl fun σ H Q ⟨S, B, ρ, d, E, e, k⟩ => by
  cases e
  exact k _ H (Same.refl H) (.bl b)
theorem pd_non {j} : PD X (.Constant .none j pos) (mC .none) := weak pe_non fun σ H Q ⟨S, B, ρ, d, E, e, k⟩ => by
  cases e
  exact k _ H (Same.refl H) .non
theorem pd_str {x j} : PD X (.Constant (.str x) j pos) (mC (.str x)) := weak pe_str fun σ H Q ⟨S, B, ρ, d, E, e, k⟩ => by
  cases e
  exact k _ H (Same.refl H) (.str x)
/-- a module's constant -/
theorem pd_glI {x : Str} {i : Int} {t : Tok} (hg : Gl X x) (hm : X.mg x = some (.int i t)) (hd : (x == ("__debug__" : Str)) = false := by decide) : PD X (.Name x pos) (mC (.int i)) :=
  weak (pe_glob (v := .int i) hg hm ⟨t, rfl⟩ hd) fun σ H Q ⟨S, B, ρ, d, E, e, k⟩ => by
    cases e
    exact k _ H (Same.refl H) (.int i)
theorem pd_glS {x : Str} {i : Str} {t : Tok} (hg : Gl X x) (hm : X.mg x = some (.str i t)) (hd : (x == ("__debug__" : Str)) = false := by decide) : PD X (.Name x pos) (mC (.str i)) :=
  weak (pe_glob (v := .str i) hg hm ⟨t, rfl⟩ hd) fun σ H Q ⟨S, B, ρ, d, E, e, k⟩ => by
    cases e
    exact k _ H (Same.refl H) (.str i)

/-! ### two operands -/
/-- the rule r answers as m -/
def R2ok (K : PySem.W.Frag) (r : R2) (m : D → D → Option D) : Prop :=
  ∀ (S : Addr → Prop) (H : Hp) (v w : V) (x y d : D) (Q : VK), Sub S H → Dq K (hid S H) v x → Dq K (hid S H) w y → m x y = some d → (∀ v H', Same H H' → Dq K (hid S H') v d → Q v H') → r v w H Q
def m2 (m : D → D → Option D) (f g : Mir) : Mir := fun ρ => (f ρ).bind fun x => (g ρ).bind fun y => m x y
theorem m2_some {m : D → D → Option D} {f g : Mir} {ρ : Rho} {d : D} (h : m2 m f g ρ = some d) : ∃ x y, f ρ = some x ∧ g ρ = some y ∧ m x y = some d := by
  unfold m2 at h
  cases q : f ρ with
  | none =>
    rw [q] at h
    cases h
  | some x =>
    rw [q] at h
    cases w : g ρ with
    | none =>
      rw [w] at h
      cases h
    | some y =>
      rw [w] at h
      exact ⟨x, y, rfl, rfl, h⟩
theorem op_of {r : R2} {m : D → D → Option D} {K : PySem.W.Frag} (hr : R2ok K r m) : ∀ σ H Q, tOf K (m2 m f g) σ H Q → tOp r (tOf K f) (tOf K g) σ H Q := fun σ H Q ⟨S, B, ρ, d, E, e, k⟩ => by
  obtain ⟨x, y, e1, e2, e3⟩ := m2_some e
  refine ⟨S, B, ρ, x, E, e1, fun v H1 s1 p1 => ⟨S, B, ρ, y, E.step s1, e2, fun w H2 s2 p2 => ?_⟩⟩
  have E2 := (E.step s1).step s2
  exact hr S H2 v w x y d Q E2.sub (Dq.mono (same_hid s2) p1) p2 e3 fun u H3 s3 p3 => k u H3 ((s1.trans s2).trans s3) p3
theorem pd_bin {op : Operator} {r : R2} {m : D → D → Option D} (ho : OpR X (binaryOp op) r) (hr : R2ok X.K r m) (ha : PD X a f) (hb : PD X b g) : PD X (.BinOp a op b pos) (m2 m f g) :=
  weak (pe_op ho ha hb) (op_of hr)
theorem pd_cmp {op : CmpOp} {r : R2} {m : D → D → Option D} (ho : OpR X (compareOp op) r) (hr : R2ok X.K r m) (ha : PD X a f) (hb : PD X b g) (hm : behindInMarks op b = false := by first | exact nomark _ | rfl) : PD X (.Compare a [op] [b] pos) (m2 m f g) :=
  weak (pe_cmpR ho ha hb hm) (op_of hr)
theorem pd_ixr {r : R2} {m : D → D → Option D} (ho : IxR X r) (hr : R2ok X.K r m) (ha : PD X a f) (hb : PD X b g) (hs : PlainIx b := by intro _ _; rfl) : PD X (.Subscript a b pos) (m2 m f g) :=
  weak (pe_ix ho ha hb hs) (op_of hr)
theorem R2ok.or {K : PySem.W.Frag} {r r' : R2} {m m' : D → D → Option D} (h : R2ok K r m) (h' : R2ok K r' m') : R2ok K (fun x y H Q => r x y H Q ∨ r' x y H Q) (fun x y => (m x y).orElse fun _ => m' x y) := fun S H v w x y d Q hs p1 p2 e k => by
  have e : ((m x y).orElse fun _ => m' x y) = some d := e
  cases q : m x y with
  | some z =>
    rw [q] at e
    cases e
    exact .inl (h S H v w x y _ Q hs p1 p2 q k)
  | none =>
    rw [q] at e
    exact .inr (h' S H v w x y _ Q hs p1 p2 e k)
end
end Pu

set_option Elab.async false
set_option linter.all false
set_option autoImplicit false
set_option maxRecDepth 100000
/-! == of data without dicts, whatever the signs of its texts -/
namespace Pu
open PySem PySem.Spec PyProof.Rows L2
mutual
def nd : D → Bool
  | .list xs => ndAll xs
  | .tuple xs => ndAll xs
  | .dict _ => false
  | _ => true
def ndAll : List D → Bool
  | [] => true
  | x :: xs => nd x && ndAll xs
end
theorem ndAll_cons {x : D} {xs : List D} (h : ndAll (x :: xs) = true) : nd x = true ∧ ndAll xs = true := by
  rw [ndAll] at h
  exact Bool.and_eq_true_iff.mp h
theorem nd_list {xs : List D} (h : nd (.list xs) = true) : ndAll xs = true := by rw [nd] at h; exact h
theorem nd_tuple {xs : List D} (h : nd (.tuple xs) = true) : ndAll xs = true := by rw [nd] at h; exact h
mutual
theorem nd_of {K : PySem.W.Frag} {H : Hp} : ∀ {v : V} {d : D}, Dp K H v d → nd d = true
  | _, _, .non => by rw [nd] <;> intros <;> contradiction
  | _, _, .bl b => by rw [nd] <;> intros <;> contradiction
  | _, _, .int i => by rw [nd] <;> intros <;> contradiction
  | _, _, .str x => by rw [nd] <;> intros <;> contradiction
  | _, _, .lst q a => by rw [nd]; exact ndAll_of a
  | _, _, .tup q a => by rw [nd]; exact ndAll_of a
theorem ndAll_of {K : PySem.W.Frag} {H : Hp} : ∀ {vs : List V} {ds : List D}, DpAll K H vs ds → ndAll ds = true
  | _, _, .nil => by rw [ndAll]
  | _, _, .cons a r => by rw [ndAll, nd_of a, ndAll_of r]; rfl
end
mutual
theorem eqv_self : ∀ d : D, nd d = true → PyData.eqv d d = true
  | .list xs, h => by
    rw [PyData.eqv]
    exact eqvAll_self xs (nd_list h)
  | .tuple xs, h => by
    rw [PyData.eqv]
    exact eqvAll_self xs (nd_tuple h)
  | .dict _, h => by
    rw [nd] at h
    cases h
  | .none, _ => by simp [PyData.eqv]
  | .bool _, _ => by simp [PyData.eqv]
  | .int _, _ => by simp [PyData.eqv]
  | .str _, _ => by simp [PyData.eqv]
theorem eqvAll_self : ∀ xs : List D, ndAll xs = true → PyData.eqvAll xs xs = true
  | [], _ => by rw [PyData.eqvAll]
  | x :: xs, h => by
    rw [PyData.eqvAll, eqv_self x (ndAll_cons h).1, eqvAll_self xs (ndAll_cons h).2]
    rfl
end
section
variable {h : Heap}
theorem cls_ne {o : Obj} {a b : String} (e : o.cls = .type a) (e' : o.cls = .type b) (n : a ≠ b) : False := by
  rw [e] at e'
  injection e' with q
  exact n q
mutual
theorem one_reading : ∀ (x y : D) (v : Value) (as bs : List Addr), nd x = true → Reads h v x as → Reads h v y bs → x = y
  | .list xs, y, v, as, bs, hn, r, q => by
    cases r with
    | list a1 a2 a3 a4 =>
      cases q with
      | list b1 b2 b3 b4 =>
        obtain rfl := Option.some.inj (a1.symm.trans b1)
        obtain ⟨rfl, _⟩ := Data.seq.inj (a3.symm.trans b3)
        rw [one_readingAll xs _ _ _ _ (nd_list hn) a4 b4]
      | tuple b1 b2 b3 b4 =>
        obtain rfl := Option.some.inj (a1.symm.trans b1)
        exact (cls_ne a2 b2 (by decide)).elim
      | dict b1 b2 _ _ _ =>
        obtain rfl := Option.some.inj (a1.symm.trans b1)
        exact (cls_ne a2 b2 (by decide)).elim
  | .tuple xs, y, v, as, bs, hn, r, q => by
    cases r with
    | tuple a1 a2 a3 a4 =>
      cases q with
      | tuple b1 b2 b3 b4 =>
        obtain rfl := Option.some.inj (a1.symm.trans b1)
        obtain ⟨rfl, _⟩ := Data.seq.inj (a3.symm.trans b3)
        rw [one_readingAll xs _ _ _ _ (nd_tuple hn) a4 b4]
      | list b1 b2 b3 b4 =>
        obtain rfl := Option.some.inj (a1.symm.trans b1)
        exact (cls_ne a2 b2 (by decide)).elim
      | dict b1 b2 _ _ _ =>
        obtain rfl := Option.some.inj (a1.symm.trans b1)
        exact (cls_ne a2 b2 (by decide)).elim
  | .dict _, _, _, _, _, hn, _, _ => by
    rw [nd] at hn
    cases hn
  | .none, y, v, as, bs, _, r, q => by cases r; cases q; rfl
  | .bool _, y, v, as, bs, _, r, q => by cases r; cases q; rfl
  | .int _, y, v, as, bs, _, r, q => by cases r; cases q; rfl
  | .str _, y, v, as, bs, _, r, q => by cases r; cases q; rfl
theorem one_readingAll : ∀ (xs ys : List D) (vs : List Value) (as bs : List Addr), ndAll xs = true → ReadsAll h vs xs as → ReadsAll h vs ys bs → xs = ys
  | [], _, _, _, _, _, r, q => by cases r; cases q; rfl
  | x :: xs, _, _, _, _, hn, r, q => by
    cases r with
    | cons r1 r2 =>
      cases q with
      | cons q1 q2 => rw [one_reading x _ _ _ _ (ndAll_cons hn).1 r1 q1, one_readingAll xs _ _ _ _ (ndAll_cons hn).2 r2 q2]
end
end
open SeqAt in
mutual
theorem eqAtN : ∀ (x y : D) (A : Around) (s : Shared) (u v : Value) (as bs : List Addr), Reads s.heap u x as → Reads s.heap v y bs → nd x = true → nd y = true → A.units + min x.depth y.depth < cLine → SeqAt.EqAt A s u v (PyData.eqv x y)
  | .list xs, y, A, s, u, v, as, bs, r, q, hx, hy, hu => by
    have room := room_here hu
    cases r with
    | @list l o its n _ _ a1 a2 a3 a4 =>
      have L : s.heap.IsList l its := ⟨_, a1, a2, _, a3⟩
      cases q with
      | @list l' o' its' n' ys _ b1 b2 b3 b4 =>
        have L' : s.heap.IsList l' its' := ⟨_, b1, b2, _, b3⟩
        have z1 : its.size = xs.length := by rw [← Array.length_toList]; exact SeqAt.ReadsAll.length _ _ _ a4
        have z2 : its'.size = ys.length := by rw [← Array.length_toList]; exact SeqAt.ReadsAll.length _ _ _ b4
        rw [PyData.eqv]
        by_cases el : l = l'
        · subst el
          have ee := one_reading (.list xs) (.list ys) _ _ _ hx (.list a1 a2 a3 a4) (.list b1 b2 b3 b4)
          injection ee with ee
          subst ee
          rw [eqvAll_self xs (nd_list hx)]
          exact EqAt.same _
        · by_cases ez : its.size = its'.size
          · rw [← eqvAll_same_length (by omega : xs.length = ys.length), ← z1]
            refine EqAt.of_refs el (RcAt.lists L L' ez room fun j j1 j2 => ?_)
            have w := eqAtAllN xs ys A.in1 s its.toList its'.toList _ _ a4 b4 (nd_list hx) (nd_list hy) (room_in (by simpa [PyData.depth] using hu)) j (by rw [Array.length_toList]; exact j1) (by rw [Array.length_toList]; exact j2)
            simpa using w
          · rw [eqvAll_other_length (by omega : xs.length ≠ ys.length)]
            exact EqAt.of_refs el (RcAt.lists_lengths L L' (by simpa using ez) room)
      | tuple b1 b2 b3 _ => exact EqAt.list_tuple L ⟨_, b1, b2, _, b3⟩ room
      | none => exact EqAt.list_none L room
      | bool w => exact EqAt.list_bool w L room
      | int w t => exact EqAt.list_int w t L room
      | str w t => exact EqAt.list_str w t L room
      | dict => rw [nd] at hy; cases hy
  | .tuple xs, y, A, s, u, v, as, bs, r, q, hx, hy, hu => by
    have room := room_here hu
    cases r with
    | @tuple l o its n _ _ a1 a2 a3 a4 =>
      have L : s.heap.IsTuple l its := ⟨_, a1, a2, _, a3⟩
      cases q with
      | @tuple l' o' its' n' ys _ b1 b2 b3 b4 =>
        have L' : s.heap.IsTuple l' its' := ⟨_, b1, b2, _, b3⟩
        have z1 : its.size = xs.length := by rw [← Array.length_toList]; exact SeqAt.ReadsAll.length _ _ _ a4
        have z2 : its'.size = ys.length := by rw [← Array.length_toList]; exact SeqAt.ReadsAll.length _ _ _ b4
        rw [PyData.eqv]
        by_cases el : l = l'
        · subst el
          have ee := one_reading (.tuple xs) (.tuple ys) _ _ _ hx (.tuple a1 a2 a3 a4) (.tuple b1 b2 b3 b4)
          injection ee with ee
          subst ee
          rw [eqvAll_self xs (nd_tuple hx)]
          exact EqAt.same _
        · rw [← eqvAll_eq xs ys, ← z1, ← z2]
          refine EqAt.of_refs el (RcAt.tuples L L' room fun j j1 j2 => ?_)
          have w := eqAtAllN xs ys A.in1 s its.toList its'.toList _ _ a4 b4 (nd_tuple hx) (nd_tuple hy) (room_in (by simpa [PyData.depth] using hu)) j (by rw [Array.length_toList]; exact j1) (by rw [Array.length_toList]; exact j2)
          simpa using w
      | list b1 b2 b3 _ => exact EqAt.tuple_list L ⟨_, b1, b2, _, b3⟩ room
      | none => exact EqAt.tuple_none L room
      | bool w => exact EqAt.tuple_bool w L room
      | int w t => exact EqAt.tuple_int w t L room
      | str w t => exact EqAt.tuple_str w t L room
      | dict => rw [nd] at hy; cases hy
  | .dict _, _, _, _, _, _, _, _, _, _, hx, _, _ => by rw [nd] at hx; cases hx
  | .none, y, A, s, u, v, as, bs, r, q, hx, hy, hu => by
    have room := room_here hu
    cases r
    cases q
    case none => exact EqAt.same _
    case bool => exact EqAt.none_bool _
    case int => exact EqAt.none_int _ _
    case str => exact EqAt.none_str _ _
    case list b1 b2 b3 _ => exact EqAt.none_list ⟨_, b1, b2, _, b3⟩ room
    case tuple b1 b2 b3 _ => exact EqAt.none_tuple ⟨_, b1, b2, _, b3⟩ room
    case dict => rw [nd] at hy; cases hy
  | .bool w, y, A, s, u, v, as, bs, r, q, hx, hy, hu => by
    have room := room_here hu
    cases r
    cases q
    case none => exact EqAt.bool_none _
    case bool => exact EqAt.bool_bool _ _
    case int => exact EqAt.bool_int _ _ _
    case str => exact EqAt.bool_str _ _ _
    case list b1 b2 b3 _ => exact EqAt.bool_list _ ⟨_, b1, b2, _, b3⟩ room
    case tuple b1 b2 b3 _ => exact EqAt.bool_tuple _ ⟨_, b1, b2, _, b3⟩ room
    case dict => rw [nd] at hy; cases hy
  | .int w, y, A, s, u, v, as, bs, r, q, hx, hy, hu => by
    have room := room_here hu
    cases r
    cases q
    case none => exact EqAt.int_none _ _
    case bool => exact EqAt.int_bool _ _ _
    case int => exact EqAt.int_int _ _ _ _
    case str => exact EqAt.int_str _ _ _ _
    case list b1 b2 b3 _ => exact EqAt.int_list _ _ ⟨_, b1, b2, _, b3⟩ room
    case tuple b1 b2 b3 _ => exact EqAt.int_tuple _ _ ⟨_, b1, b2, _, b3⟩ room
    case dict => rw [nd] at hy; cases hy
  | .str w, y, A, s, u, v, as, bs, r, q, hx, hy, hu => by
    have room := room_here hu
    cases r
    cases q
    case none => exact EqAt.str_none _ _
    case bool => exact EqAt.str_bool _ _ _
    case int => exact EqAt.str_int _ _ _ _
    case str => exact EqAt.str_str _ _ _ _
    case list b1 b2 b3 _ => exact EqAt.str_list _ _ ⟨_, b1, b2, _, b3⟩ room
    case tuple b1 b2 b3 _ => exact EqAt.str_tuple _ _ ⟨_, b1, b2, _, b3⟩ room
    case dict => rw [nd] at hy; cases hy
theorem eqAtAllN : ∀ (xs ys : List D) (A : Around) (s : Shared) (us vs : List Value) (as bs : List Addr), ReadsAll s.heap us xs as → ReadsAll s.heap vs ys bs → ndAll xs = true → ndAll ys = true →
    A.units + min (PyData.depthAll xs) (PyData.depthAll ys) < cLine → ∀ (j : Nat) (h1 : j < us.length) (h2 : j < vs.length), SeqAt.EqAt A s us[j] vs[j] (SeqAt.pairEq xs ys j)
  | [], _, _, _, _, _, _, _, r, _, _, _, _, j, h1, _ => by
    cases r
    exact absurd h1 (Nat.not_lt_zero _)
  | _ :: _, [], _, _, _, _, _, _, _, q, _, _, _, j, _, h2 => by
    cases q
    exact absurd h2 (Nat.not_lt_zero _)
  | x :: xs, y :: ys, A, s, _, _, _, _, r, q, hx, hy, hu, j, h1, h2 => by
    cases r with
    | cons r1 r2 =>
      cases q with
      | cons q1 q2 =>
        rw [PyData.depthAll, PyData.depthAll] at hu
        cases j with
        | zero => exact eqAtN x y A s _ _ _ _ r1 q1 (ndAll_cons hx).1 (ndAll_cons hy).1 (room_head hu)
        | succ j => exact eqAtAllN xs ys A s _ _ _ _ r2 q2 (ndAll_cons hx).2 (ndAll_cons hy).2 (room_tail hu) j (Nat.lt_of_succ_lt_succ h1) (Nat.lt_of_succ_lt_succ h2)
end
end Pu

set_option Elab.async false
set_option linter.all false
set_option autoImplicit false
set_option maxRecDepth 100000
namespace Pu
open PySem PySem.Spec PyProof.Rows L2 SeqAt
section
variable {A : Around} {s : Shared} {u v : Value} {as bs : List Addr}
theorem pairsN {xs ys : List D} {its its' : Array Value} (a4 : ReadsAll s.heap its.toList xs as) (b4 : ReadsAll s.heap its'.toList ys bs) (hx : ndAll xs = true) (hy : ndAll ys = true) (hu : A.units + min (PyData.depthAll xs + 1) (PyData.depthAll ys + 1) < cLine) :
    ∀ (j : Nat) (j1 : j < its.size) (j2 : j < its'.size), SeqAt.EqAt A.in1 s its[j] its'[j] (SeqAt.pairEq xs ys j) := fun j j1 j2 => by
  have w := eqAtAllN xs ys A.in1 s its.toList its'.toList _ _ a4 b4 hx hy (room_in hu) j (by rw [Array.length_toList]; exact j1) (by rw [Array.length_toList]; exact j2)
  simpa using w
theorem rcAtN {x y : D} (r : Reads s.heap u x as) (q : Reads s.heap v y bs) (hx : nd x = true) (hy : nd y = true) (hu : A.units + min x.depth y.depth < cLine) : RcAt A s u v (PyData.eqv x y) := by
  have room := room_here hu
  cases r
  case dict => rw [nd] at hx; cases hx
  case list l o its n xs _ a1 a2 a3 a4 =>
    cases q
    case list l' o' its' n' ys _ b1 b2 b3 b4 =>
      have z1 := SeqAt.ReadsAll.length _ _ _ a4
      have z2 := SeqAt.ReadsAll.length _ _ _ b4
      rw [Array.length_toList] at z1 z2
      have pe := pairsN a4 b4 (nd_list hx) (nd_list hy) (by simpa [PyData.depth] using hu)
      rw [PyData.eqv]
      by_cases ez : its.size = its'.size
      · rw [← eqvAll_same_length (z1.symm.trans (ez.trans z2)), ← z1]
        exact RcAt.lists ⟨_, a1, a2, _, a3⟩ ⟨_, b1, b2, _, b3⟩ ez room pe
      · rw [eqvAll_other_length (fun e => ez (z1.trans (e.trans z2.symm)))]
        exact RcAt.lists_lengths ⟨_, a1, a2, _, a3⟩ ⟨_, b1, b2, _, b3⟩ (by simpa using ez) room
    case tuple b1 b2 b3 b4 => exact RcAt.list_tuple ⟨_, a1, a2, _, a3⟩ ⟨_, b1, b2, _, b3⟩ room
    case none => exact RcAt.list_none ⟨_, a1, a2, _, a3⟩ room
    case bool w => exact RcAt.list_bool w ⟨_, a1, a2, _, a3⟩ room
    case int w t => exact RcAt.list_int w t ⟨_, a1, a2, _, a3⟩ room
    case str w t => exact RcAt.list_str w t ⟨_, a1, a2, _, a3⟩ room
    case dict => rw [nd] at hy; cases hy
  case tuple a1 a2 a3 a4 =>
    cases q
    case tuple b1 b2 b3 b4 =>
      have z1 := SeqAt.ReadsAll.length _ _ _ a4
      have z2 := SeqAt.ReadsAll.length _ _ _ b4
      rw [Array.length_toList] at z1 z2
      have pe := pairsN a4 b4 (nd_tuple hx) (nd_tuple hy) (by simpa [PyData.depth] using hu)
      rw [PyData.eqv, ← eqvAll_eq, ← z1, ← z2]
      exact RcAt.tuples ⟨_, a1, a2, _, a3⟩ ⟨_, b1, b2, _, b3⟩ room pe
    case list b1 b2 b3 b4 => exact RcAt.tuple_list ⟨_, a1, a2, _, a3⟩ ⟨_, b1, b2, _, b3⟩ room
    case none => exact RcAt.tuple_none ⟨_, a1, a2, _, a3⟩ room
    case bool w => exact RcAt.tuple_bool w ⟨_, a1, a2, _, a3⟩ room
    case int w t => exact RcAt.tuple_int w t ⟨_, a1, a2, _, a3⟩ room
    case str w t => exact RcAt.tuple_str w t ⟨_, a1, a2, _, a3⟩ room
    case dict => rw [nd] at hy; cases hy
  case none =>
    cases q
    case none => exact RcAt.none_none
    case bool => exact RcAt.none_bool _
    case int => exact RcAt.none_int _ _
    case str => exact RcAt.none_str _ _
    case list b1 b2 b3 b4 => exact RcAt.none_list ⟨_, b1, b2, _, b3⟩ room
    case tuple b1 b2 b3 b4 => exact RcAt.none_tuple ⟨_, b1, b2, _, b3⟩ room
    case dict => rw [nd] at hy; cases hy
  case bool =>
    cases q
    case none => exact RcAt.bool_none _
    case bool => exact RcAt.bool_bool _ _
    case int => exact RcAt.bool_int _ _ _
    case str => exact RcAt.bool_str _ _ _
    case list b1 b2 b3 b4 => exact RcAt.bool_list _ ⟨_, b1, b2, _, b3⟩ room
    case tuple b1 b2 b3 b4 => exact RcAt.bool_tuple _ ⟨_, b1, b2, _, b3⟩ room
    case dict => rw [nd] at hy; cases hy
  case int =>
    cases q
    case none => exact RcAt.int_none _ _
    case bool => exact RcAt.int_bool _ _ _
    case int => exact RcAt.int_int _ _ _ _
    case str => exact RcAt.int_str _ _ _ _
    case list b1 b2 b3 b4 => exact RcAt.int_list _ _ ⟨_, b1, b2, _, b3⟩ room
    case tuple b1 b2 b3 b4 => exact RcAt.int_tuple _ _ ⟨_, b1, b2, _, b3⟩ room
    case dict => rw [nd] at hy; cases hy
  case str =>
    cases q
    case none => exact RcAt.str_none _ _
    case bool => exact RcAt.str_bool _ _ _
    case int => exact RcAt.str_int _ _ _ _
    case str => exact RcAt.str_str _ _ _ _
    case list b1 b2 b3 b4 => exact RcAt.str_list _ _ ⟨_, b1, b2, _, b3⟩ room
    case tuple b1 b2 b3 b4 => exact RcAt.str_tuple _ _ ⟨_, b1, b2, _, b3⟩ room
    case dict => rw [nd] at hy; cases hy
theorem rcNeN {x y : D} (r : Reads s.heap u x as) (q : Reads s.heap v y bs) (hx : nd x = true) (hy : nd y = true) (hu : A.units + min x.depth y.depth < cLine) : RcNeAt A s u v (!PyData.eqv x y) := by
  have room := room_here hu
  cases r
  case dict => rw [nd] at hx; cases hx
  case list l o its n xs _ a1 a2 a3 a4 =>
    cases q
    case list l' o' its' n' ys _ b1 b2 b3 b4 =>
      have z1 := SeqAt.ReadsAll.length _ _ _ a4
      have z2 := SeqAt.ReadsAll.length _ _ _ b4
      rw [Array.length_toList] at z1 z2
      have pe := pairsN a4 b4 (nd_list hx) (nd_list hy) (by simpa [PyData.depth] using hu)
      rw [PyData.eqv]
      by_cases ez : its.size = its'.size
      · rw [← eqvAll_same_length (z1.symm.trans (ez.trans z2)), ← z1]
        exact RcNeAt.lists ⟨_, a1, a2, _, a3⟩ ⟨_, b1, b2, _, b3⟩ ez room pe
      · rw [eqvAll_other_length (fun e => ez (z1.trans (e.trans z2.symm)))]
        exact RcNeAt.lists_lengths ⟨_, a1, a2, _, a3⟩ ⟨_, b1, b2, _, b3⟩ (by simpa using ez) room
    case tuple b1 b2 b3 b4 => exact RcNeAt.list_tuple ⟨_, a1, a2, _, a3⟩ ⟨_, b1, b2, _, b3⟩ room
    case none => exact RcNeAt.list_none ⟨_, a1, a2, _, a3⟩ room
    case bool w => exact RcNeAt.list_bool w ⟨_, a1, a2, _, a3⟩ room
    case int w t => exact RcNeAt.list_int w t ⟨_, a1, a2, _, a3⟩ room
    case str w t => exact RcNeAt.list_str w t ⟨_, a1, a2, _, a3⟩ room
    case dict => rw [nd] at hy; cases hy
  case tuple a1 a2 a3 a4 =>
    cases q
    case tuple b1 b2 b3 b4 =>
      have z1 := SeqAt.ReadsAll.length _ _ _ a4
      have z2 := SeqAt.ReadsAll.length _ _ _ b4
      rw [Array.length_toList] at z1 z2
      have pe := pairsN a4 b4 (nd_tuple hx) (nd_tuple hy) (by simpa [PyData.depth] using hu)
      rw [PyData.eqv, ← eqvAll_eq, ← z1, ← z2]
      exact RcNeAt.tuples ⟨_, a1, a2, _, a3⟩ ⟨_, b1, b2, _, b3⟩ room pe
    case list b1 b2 b3 b4 => exact RcNeAt.tuple_list ⟨_, a1, a2, _, a3⟩ ⟨_, b1, b2, _, b3⟩ room
    case none => exact RcNeAt.tuple_none ⟨_, a1, a2, _, a3⟩ room
    case bool w => exact RcNeAt.tuple_bool w ⟨_, a1, a2, _, a3⟩ room
    case int w t => exact RcNeAt.tuple_int w t ⟨_, a1, a2, _, a3⟩ room
    case str w t => exact RcNeAt.tuple_str w t ⟨_, a1, a2, _, a3⟩ room
    case dict => rw [nd] at hy; cases hy
  case none =>
    cases q
    case none => exact RcNeAt.none_none
    case bool => exact RcNeAt.none_bool _
    case int => exact RcNeAt.none_int _ _
    case str => exact RcNeAt.none_str _ _
    case list b1 b2 b3 b4 => exact RcNeAt.none_list ⟨_, b1, b2, _, b3⟩ room
    case tuple b1 b2 b3 b4 => exact RcNeAt.none_tuple ⟨_, b1, b2, _, b3⟩ room
    case dict => rw [nd] at hy; cases hy
  case bool =>
    cases q
    case none => exact RcNeAt.bool_none _
    case bool => exact RcNeAt.bool_bool _ _
    case int => exact RcNeAt.bool_int _ _ _
    case str => exact RcNeAt.bool_str _ _ _
    case list b1 b2 b3 b4 => exact RcNeAt.bool_list _ ⟨_, b1, b2, _, b3⟩ room
    case tuple b1 b2 b3 b4 => exact RcNeAt.bool_tuple _ ⟨_, b1, b2, _, b3⟩ room
    case dict => rw [nd] at hy; cases hy
  case int =>
    cases q
    case none => exact RcNeAt.int_none _ _
    case bool => exact RcNeAt.int_bool _ _ _
    case int => exact RcNeAt.int_int _ _ _ _
    case str => exact RcNeAt.int_str _ _ _ _
    case list b1 b2 b3 b4 => exact RcNeAt.int_list _ _ ⟨_, b1, b2, _, b3⟩ room
    case tuple b1 b2 b3 b4 => exact RcNeAt.int_tuple _ _ ⟨_, b1, b2, _, b3⟩ room
    case dict => rw [nd] at hy; cases hy
  case str =>
    cases q
    case none => exact RcNeAt.str_none _ _
    case bool => exact RcNeAt.str_bool _ _ _
    case int => exact RcNeAt.str_int _ _ _ _
    case str => exact RcNeAt.str_str _ _ _ _
    case list b1 b2 b3 b4 => exact RcNeAt.str_list _ _ ⟨_, b1, b2, _, b3⟩ room
    case tuple b1 b2 b3 b4 => exact RcNeAt.str_tuple _ _ ⟨_, b1, b2, _, b3⟩ room
    case dict => rw [nd] at hy; cases hy
end
section
variable {X : Cx}
def rEqN (K : PySem.W.Frag) : R2 := fun x y H Q => ∃ d e, Dp K H x d ∧ Dp K H y e ∧ d.depth ≤ 60 ∧ Q (.bl (PyData.eqv d e)) H
def rNeN (K : PySem.W.Frag) : R2 := fun x y H Q => ∃ d e, Dp K H x d ∧ Dp K H y e ∧ d.depth ≤ 60 ∧ Q (.bl (!PyData.eqv d e)) H
theorem op_eqN (hu : X.A.units + 64 < cLine) : OpR X (compareOp .Eq) (rEqN X.K) := fun pins s σ H x y v u Q I rx ry ⟨d, e, hd, he, sd, q⟩ => by
  obtain ⟨as, r1⟩ := Dp.reads I d x v hd rx
  obtain ⟨bs, r2⟩ := Dp.reads I e y u he ry
  exact rcAtN r1 r2 (nd_of hd) (nd_of he) (by omega) _ _ _ _ ⟨.bl _, H, I, rfl, q⟩
theorem op_neN (hu : X.A.units + 64 < cLine) : OpR X (compareOp .NotEq) (rNeN X.K) := fun pins s σ H x y v u Q I rx ry ⟨d, e, hd, he, sd, q⟩ => by
  obtain ⟨as, r1⟩ := Dp.reads I d x v hd rx
  obtain ⟨bs, r2⟩ := Dp.reads I e y u he ry
  exact rcNeN r1 r2 (nd_of hd) (nd_of he) (by omega) _ _ _ _ ⟨.bl _, H, I, rfl, q⟩
end
end Pu

set_option Elab.async false
set_option linter.all false
set_option autoImplicit false
set_option maxRecDepth 100000
namespace Pu
open PySem PySem.Spec PyProof.Rows L2
section
variable {X : Cx} {K : PySem.W.Frag}
/-! ### readings of the operands -/
theorem Dq.sqL {S : Addr → Prop} {H : Hp} {v : V} {ds : List D} (h : Dq K (hid S H) v (.list ds)) : ∃ a vs, v = .ref a ∧ SqL K H a vs ∧ DqAll K (hid S H) vs ds := by
  cases h with
  | lst q r => exact ⟨_, _, rfl, (hid_same S H).seq q, r⟩
theorem Dq.sqT {S : Addr → Prop} {H : Hp} {v : V} {ds : List D} (h : Dq K (hid S H) v (.tuple ds)) : ∃ a vs, v = .ref a ∧ SqT K H a vs ∧ DqAll K (hid S H) vs ds := by
  cases h with
  | tup q r => exact ⟨_, _, rfl, (hid_same S H).seqT q.sq, r⟩
theorem up {S : Addr → Prop} {H : Hp} {v : V} {d : D} (h : Dq K (hid S H) v d) : Dp K H v d := (Dq.mono (hid_same S H) h).dp
/-- a new list, a new tuple -/
theorem new_lst {S : Addr → Prop} {H : Hp} {p : Addr} {vs : List V} {ds : List D} (hs : Sub S H) (hp : H p = none) (h : DqAll K (hid S H) vs ds) : Same H (upd H p (.lst vs)) ∧ Dq K (hid S (upd H p (.lst vs))) (.ref p) (.list ds) :=
  ⟨same_upd hp, .lst (.inl (.inl (hid_of (fun z => hs p z hp) upd_same))) (h.mono (same_hid (same_upd hp)))⟩
theorem new_tup {S : Addr → Prop} {H : Hp} {p : Addr} {o : Obj} {vs : List V} {ds : List D} (hs : Sub S H) (hp : H p = none) (ho : o.dict = none) (h : DqAll K (hid S H) vs ds) : Same H (upd H p (.frz o (.tup vs))) ∧ Dq K (hid S (upd H p (.frz o (.tup vs)))) (.ref p) (.tuple ds) :=
  ⟨same_upd hp, .tup ⟨o, hid_of (fun z => hs p z hp) upd_same, ho⟩ (h.mono (same_hid (same_upd hp)))⟩
/-- a plain tuple is laid -/
theorem laidT {pins : List (Addr × Obj)} {σ : L2.St} {H : Hp} {s : Shared} {us : List Value} {xs : List V} {t' : Nat} (I : Inv X pins σ H s) (r : Vals xs us) (z : xs.length ≤ sizeLine) :
    Inv X pins σ (upd H s.heap.objs.size (.frz { cls := .type "tuple", data := .seq us.toArray } (.tup xs))) { s with heap := s.heap.push { cls := .type "tuple", data := .seq us.toArray }, toks := t' } :=
  I.laid (fun _ _ q => Heap.get?_push_of_some _ q) (Nat.le_refl _) ⟨Heap.get?_push_size _ rfl, z, us, r, IsTup.new _ _⟩
/-- t + u -/
def rCatF (K : PySem.W.Frag) : R2 := fun x y H Q => ∃ a b xs ys, x = .ref a ∧ y = .ref b ∧ SqT K H a xs ∧ SqT K H b ys ∧ xs.length + ys.length ≤ sizeLine ∧
  (xs = [] → Q (.ref b) H) ∧ (xs ≠ [] → ys = [] → Q (.ref a) H) ∧ (xs ≠ [] → ys ≠ [] → ∀ p o, H p = none → o.dict = none → Q (.ref p) (upd H p (.frz o (.tup (xs ++ ys)))))
theorem op_catF : OpR X (binaryOp .Add) (rCatF X.K) := fun pins s σ H x y v u Q I rx ry ⟨a, b, xs, ys, ex, ey, ha, hb, hz, q0, q1, q2⟩ => by
  subst ex ey
  cases rx
  cases ry
  obtain ⟨us, r1, p1, _⟩ := I.tuple ha
  obtain ⟨ws, r2, p2, _⟩ := I.tuple hb
  by_cases hx : xs = []
  · subst hx
    cases r1
    exact cat_tup0 p1 p2 ⟨.ref b, H, I, rfl, q0 rfl⟩
  · refine HT.cat_tup p1 p2 (fun z => hx (r1.nil_iff.mp z)) (fun z => ⟨.ref a, H, I, rfl, q1 hx (r2.nil_iff.mp z)⟩) (fun z => ?_) (by rw [← r1.length, ← r2.length]; exact hz)
    exact ⟨.ref _, _, laidT (t' := s.toks) I (r1.append r2) (by rw [List.length_append]; exact hz), rfl, q2 hx (fun w => z (r2.nil_iff.mpr w)) _ _ (I.hok.fresh (Nat.le_refl _)) rfl⟩

/-! ### ints -/
def mI2 (g : Int → Int → Option D) : D → D → Option D
  | .int i, .int j => g i j
  | _, _ => none
theorem mI2_some {g : Int → Int → Option D} {x y d : D} (h : mI2 g x y = some d) : ∃ i j, x = .int i ∧ y = .int j ∧ g i j = some d := by
  cases x <;> cases y <;> first | exact ⟨_, _, rfl, rfl, h⟩ | cases h
theorem R2ok.ints {C : Int → Int → Prop} {h : Int → Int → V} {g : Int → Int → Option D} (hg : ∀ i j d, g i j = some d → C i j ∧ ∀ H : Hp, Dq K H (h i j) d) : R2ok K (rI C h) (mI2 g) := fun S H v w x y d Q hs p1 p2 e k => by
  obtain ⟨i, j, rfl, rfl, e⟩ := mI2_some e
  cases p1
  cases p2
  exact ⟨i, j, rfl, rfl, (hg i j d e).1, k _ H (Same.refl H) ((hg i j d e).2 _)⟩
theorem R2ok.ints0 {h : Int → Int → V} {g : Int → Int → Option D} (hg : ∀ i j d, g i j = some d → ∀ H : Hp, Dq K H (h i j) d) : R2ok K (rI0 h) (mI2 g) := fun S H v w x y d Q hs p1 p2 e k => by
  obtain ⟨i, j, rfl, rfl, e⟩ := mI2_some e
  cases p1
  cases p2
  exact ⟨i, j, rfl, rfl, k _ H (Same.refl H) (hg i j d e _)⟩
def mS2 (g : Str → Str → Option D) : D → D → Option D
  | .str i, .str j => g i j
  | _, _ => none
theorem mS2_some {g : Str → Str → Option D} {x y d : D} (h : mS2 g x y = some d) : ∃ i j, x = .str i ∧ y = .str j ∧ g i j = some d := by
  cases x <;> cases y <;> first | exact ⟨_, _, rfl, rfl, h⟩ | cases h

def addI : D → D → Option D := mI2 fun i j => some (.int (i + j))
def addS : D → D → Option D := mS2 fun i j => if i.length + j.length ≤ sizeLine then some (.str (i ++ j)) else none
def addT : D → D → Option D
  | .tuple xs, .tuple ys => if xs.length + ys.length ≤ sizeLine then some (.tuple (xs ++ ys)) else none
  | _, _ => none
def addL : D → D → Option D
  | .list xs, .list ys => if xs.length + ys.length ≤ sizeLine then some (.list (xs ++ ys)) else none
  | _, _ => none
def oAdd (x y : D) : Option D := (addI x y).orElse fun _ => (addS x y).orElse fun _ => (addT x y).orElse fun _ => addL x y
theorem ite_some {α : Type} {c : Prop} [Decidable c] {a b : α} (h : (if c then some a else none) = some b) : c ∧ a = b := by
  by_cases hc : c
  · rw [if_pos hc] at h
    exact ⟨hc, Option.some.inj h⟩
  · rw [if_neg hc] at h
    cases h

/-- xs + ys, lists that are read -/
def rCatL (K : PySem.W.Frag) : R2 := fun x y H Q => ∃ l b xs zs, x = .ref l ∧ y = .ref b ∧ SqL K H l xs ∧ SqL K H b zs ∧ xs.length + zs.length ≤ sizeLine ∧ ∀ p, H p = none → Q (.ref p) (upd H p (.lst (xs ++ zs)))
theorem op_catL : OpR X (binaryOp .Add) (rCatL X.K) := fun pins s σ H x y v u Q I rx ry ⟨l, b, xs, zs, ex, ey, hH, hB, hz, q⟩ => by
  subst ex ey
  cases rx
  cases ry
  obtain ⟨its, r1, p1, _⟩ := I.list hH
  obtain ⟨its2, r2, p2, _⟩ := I.list hB
  obtain ⟨⟨c1, d1, dt1, sl1⟩, n1, o1, e1, _, f1⟩ := p1
  obtain ⟨⟨c2, d2, dt2, sl2⟩, n2, o2, e2, _, f2⟩ := p2
  simp only at e1 f1 e2 f2
  subst e1 f1 e2 f2
  have l1 := r1.length
  have l2 := r2.length
  refine concat_meets ⟨_, o1, rfl⟩ ⟨_, o2, rfl⟩ noFill_list_add seq_list_add PySem.F.slot_list_add PySem.F.entry_list_add (PySem.F.args_list_add_2 _ _) (list_addW l b its.toArray its2.toArray n1 n2 d1 d2 sl1 sl2 (by rw [List.size_toArray, List.size_toArray]; omega)) ⟨o1, o2, ?_⟩
  have ea : its.toArray ++ its2.toArray = (its ++ its2).toArray := by simp
  rw [ea]
  exact ⟨.ref _, _, I.lnew (t' := s.toks) (r1.append r2) (by rw [List.length_append]; omega), rfl, q _ I.fresh⟩

theorem ok_addI : R2ok K (rI0 fun i j => .int (i + j)) addI := R2ok.ints0 fun i j d e H => by cases e; exact .int _
theorem ok_addS : R2ok K (fun x y H Q => ∃ i j, x = V.str i ∧ y = V.str j ∧ i.length + j.length ≤ sizeLine ∧ Q (V.str (i ++ j)) H) addS := fun S H v w x y d Q hs p1 p2 e k => by
  obtain ⟨i, j, rfl, rfl, e⟩ := mS2_some e
  obtain ⟨c, rfl⟩ := ite_some e
  cases p1
  cases p2
  exact ⟨i, j, rfl, rfl, c, k _ H (Same.refl H) (.str _)⟩
theorem ok_addT : R2ok K (rCatF K) addT := fun S H v w x y d Q hs p1 p2 e k => by
  cases x <;> cases y <;> try (cases e; done)
  obtain ⟨c, rfl⟩ := ite_some e
  obtain ⟨a, vs, rfl, q1, r1⟩ := Dq.sqT p1
  obtain ⟨b, ws, rfl, q2, r2⟩ := Dq.sqT p2
  refine ⟨a, b, vs, ws, rfl, rfl, q1, q2, by rw [r1.length, r2.length]; exact c, fun z => ?_, fun _ z => ?_, fun _ _ p o hp ho => ?_⟩
  · subst z
    cases r1
    exact k _ H (Same.refl H) p2
  · subst z
    cases r2
    rw [List.append_nil] at k
    exact k _ H (Same.refl H) p1
  · obtain ⟨s1, n1⟩ := new_tup hs hp ho (r1.append r2)
    exact k _ _ s1 n1
theorem ok_addL : R2ok K (rCatL K) addL := fun S H v w x y d Q hs p1 p2 e k => by
  cases x <;> cases y <;> try (cases e; done)
  obtain ⟨c, rfl⟩ := ite_some e
  obtain ⟨a, vs, rfl, q1, r1⟩ := Dq.sqL p1
  obtain ⟨b, ws, rfl, q2, r2⟩ := Dq.sqL p2
  refine ⟨a, b, vs, ws, rfl, rfl, q1, q2, by rw [r1.length, r2.length]; exact c, fun p hp => ?_⟩
  obtain ⟨s1, n1⟩ := new_lst hs hp (r1.append r2)
  exact k _ _ s1 n1
variable {a b c e : Expr} {f g h : Mir} {pos : Pos}
theorem pd_add (ha : PD X a f) (hb : PD X b g) : PD X (.BinOp a .Add b pos) (m2 oAdd f g) :=
  pd_bin (op_add.or (op_add_str.or (op_catF.or op_catL))) (ok_addI.or (ok_addS.or (ok_addT.or ok_addL))) ha hb

def oSub : D → D → Option D := mI2 fun i j => some (.int (i - j))
instance (i j : Int) : Decidable (CMul i j) := by unfold CMul; infer_instance
instance (i j : Int) : Decidable (CDiv i j) := by unfold CDiv; infer_instance
def mulI : D → D → Option D := mI2 fun i j => if CMul i j then some (.int (i * j)) else none
def oDiv : D → D → Option D := mI2 fun i j => if CDiv i j then some (.int (i / j)) else none
def oMod : D → D → Option D := mI2 fun i j => if 0 < j then some (.int (i % j)) else none
theorem pd_sub (ha : PD X a f) (hb : PD X b g) : PD X (.BinOp a .Sub b pos) (m2 oSub f g) := pd_bin op_sub (R2ok.ints0 fun i j d e H => by cases e; exact .int _) ha hb
theorem ok_mulI : R2ok K (rI CMul fun i j => .int (i * j)) mulI := R2ok.ints fun i j d e => by
  obtain ⟨c, rfl⟩ := ite_some e
  exact ⟨c, fun H => .int _⟩
theorem pd_div (ha : PD X a f) (hb : PD X b g) : PD X (.BinOp a .FloorDiv b pos) (m2 oDiv f g) := pd_bin op_fdiv (R2ok.ints fun i j d e => by
  obtain ⟨c, rfl⟩ := ite_some e
  exact ⟨c, fun H => .int _⟩) ha hb
theorem pd_mod (ha : PD X a f) (hb : PD X b g) : PD X (.BinOp a .Mod b pos) (m2 oMod f g) := pd_bin op_mod (R2ok.ints fun i j d e => by
  obtain ⟨c, rfl⟩ := ite_some e
  exact ⟨c, fun H => .int _⟩) ha hb
/-! ### times -/
def mulS : D → D → Option D
  | .str x, .int n => if 0 ≤ n ∧ n ≤ 1000 ∧ x.length ≤ 1000 then some (.str (Txt.mul x n)) else none
  | _, _ => none
def mulT : D → D → Option D
  | .tuple xs, .int n => if xs ≠ [] ∧ 2 ≤ n ∧ n ≤ 1000 ∧ xs.length ≤ 1000 then some (.tuple (List.replicate n.toNat xs).flatten) else none
  | _, _ => none
def rMulS : R2 := fun x y H Q => ∃ (z : Str) (n : Int), x = .str z ∧ y = .int n ∧ MulOk z n ∧ Q (.str (Txt.mul z n)) H
theorem op_mulS : OpR X (binaryOp .Mult) rMulS := fun pins s σ H x y v u Q I rx ry ⟨z, n, ex, ey, ok, q⟩ => by
  subst ex ey
  obtain ⟨t, rfl⟩ := rx
  obtain ⟨t', rfl⟩ := ry
  exact SB.mul ok fun t2 k => ⟨.str _, H, I.tok k, ⟨t2, rfl⟩, q⟩
theorem mulOk {x : Str} {n : Int} (h0 : 0 ≤ n) (h1 : n ≤ 1000) (hx : x.length ≤ 1000) : MulOk x n := by
  have hm : x.length * n.toNat ≤ 1000 * 1000 := Nat.mul_le_mul hx (by omega)
  refine ⟨?_, fun hn _ => ?_, fun _ _ => ?_⟩
  · rw [decide_eq_false (by omega), decide_eq_false (by omega)]
    rfl
  · have hp : 0 < n := by omega
    have : (1000 : Int) ≤ (2 ^ 63 - 1) / n := by
      apply (Int.le_ediv_iff_mul_le hp).mpr
      omega
    omega
  · exact decide_eq_false (by rw [sizeLine_eq]; omega)
theorem ok_mulS : R2ok K rMulS mulS := fun S H v w x y d Q hs p1 p2 e k => by
  cases x <;> cases y <;> try (cases e; done)
  obtain ⟨c, rfl⟩ := ite_some e
  cases p1
  cases p2
  exact ⟨_, _, rfl, rfl, mulOk c.1 c.2.1 c.2.2, k _ H (Same.refl H) (.str _)⟩
theorem flat_rep {H : Hp} {vs : List V} {ds : List D} (h : DqAll K H vs ds) : ∀ n : Nat, DqAll K H (List.replicate n vs).flatten (List.replicate n ds).flatten
  | 0 => .nil
  | n + 1 => by
    rw [List.replicate_succ, List.replicate_succ, List.flatten_cons, List.flatten_cons]
    exact h.append (flat_rep h n)
def oMul (x y : D) : Option D := (mulI x y).orElse fun _ => mulS x y
theorem pd_mul (ha : PD X a f) (hb : PD X b g) : PD X (.BinOp a .Mult b pos) (m2 oMul f g) :=
  pd_bin (op_mul.or op_mulS) (ok_mulI.or ok_mulS) ha hb
/-- -n -/
def m1 (m : D → Option D) (f : Mir) : Mir := fun ρ => (f ρ).bind m
theorem m1_some {m : D → Option D} {f : Mir} {ρ : Rho} {d : D} (h : m1 m f ρ = some d) : ∃ x, f ρ = some x ∧ m x = some d := by
  unfold m1 at h
  cases q : f ρ with
  | none =>
    rw [q] at h
    cases h
  | some x =>
    rw [q] at h
    exact ⟨x, rfl, h⟩
def oNeg : D → Option D
  | .int i => some (.int (-i))
  | _ => none
theorem pd_neg (ha : PD X a f) : PD X (.UnaryOp .USub a pos) (m1 oNeg f) := weak (pe_un un_neg ha) fun σ H Q ⟨S, B, ρ, d, E, e, k⟩ => by
  obtain ⟨x, e1, e2⟩ := m1_some e
  refine ⟨S, B, ρ, x, E, e1, fun v H1 s1 p1 => ?_⟩
  cases x <;> try (cases e2; done)
  cases e2
  cases p1
  exact ⟨_, rfl, k _ H1 s1 (.int _)⟩

/-! ### comparisons -/
def ltS (i j : Str) : Bool := decide (i.cps.toList < j.cps.toList)
def leS (i j : Str) : Bool := !decide (j.cps.toList < i.cps.toList)
def oLt (x y : D) : Option D := (mI2 (fun i j => some (.bool (decide (i < j)))) x y).orElse fun _ => mS2 (fun i j => some (.bool (ltS i j))) x y
def oLe (x y : D) : Option D := (mI2 (fun i j => some (.bool (decide (i ≤ j)))) x y).orElse fun _ => mS2 (fun i j => some (.bool (leS i j))) x y
def oGt : D → D → Option D := mI2 fun i j => some (.bool (decide (j < i)))
def oGe : D → D → Option D := mI2 fun i j => some (.bool (decide (j ≤ i)))
theorem R2ok.strs {h : Str → Str → V} {g : Str → Str → Option D} (hg : ∀ i j d, g i j = some d → ∀ H : Hp, Dq K H (h i j) d) : R2ok K (fun x y H Q => ∃ i j, x = V.str i ∧ y = V.str j ∧ Q (h i j) H) (mS2 g) := fun S H v w x y d Q hs p1 p2 e k => by
  obtain ⟨i, j, rfl, rfl, e⟩ := mS2_some e
  cases p1
  cases p2
  exact ⟨i, j, rfl, rfl, k _ H (Same.refl H) (hg i j d e _)⟩
theorem ok_lt : R2ok K (fun x y H Q => rI0 (fun i j => V.bl (decide (i < j))) x y H Q ∨ ∃ i j, x = V.str i ∧ y = V.str j ∧ Q (V.bl (decide (i.cps.toList < j.cps.toList))) H) oLt := (R2ok.ints0 (h := fun i j => .bl (decide (i < j))) fun i j d e H => by cases e; exact .bl _).or (R2ok.strs (h := fun i j => .bl (decide (i.cps.toList < j.cps.toList))) fun i j d e H => by cases e; exact .bl _)
theorem op_lt2 : OpR X (compareOp .Lt) (fun x y H Q => rI0 (fun i j => V.bl (decide (i < j))) x y H Q ∨ ∃ i j, x = V.str i ∧ y = V.str j ∧ Q (V.bl (decide (i.cps.toList < j.cps.toList))) H) := op_lt.or op_lt_str
theorem ok_le : R2ok K (fun x y H Q => rI0 (fun i j => V.bl (decide (i ≤ j))) x y H Q ∨ ∃ i j, x = V.str i ∧ y = V.str j ∧ Q (V.bl (!decide (j.cps.toList < i.cps.toList))) H) oLe := (R2ok.ints0 (h := fun i j => .bl (decide (i ≤ j))) fun i j d e H => by cases e; exact .bl _).or (R2ok.strs (h := fun i j => .bl (!decide (j.cps.toList < i.cps.toList))) fun i j d e H => by cases e; exact .bl _)
theorem op_le2 : OpR X (compareOp .LtE) (fun x y H Q => rI0 (fun i j => V.bl (decide (i ≤ j))) x y H Q ∨ ∃ i j, x = V.str i ∧ y = V.str j ∧ Q (V.bl (!decide (j.cps.toList < i.cps.toList))) H) := op_le.or op_le_str
theorem ok_gt : R2ok K (rI0 fun i j => .bl (decide (j < i))) oGt := R2ok.ints0 fun i j d e H => by cases e; exact .bl _
theorem ok_ge : R2ok K (rI0 fun i j => .bl (decide (j ≤ i))) oGe := R2ok.ints0 fun i j d e H => by cases e; exact .bl _
def oEq (x y : D) : Option D := if x.depth ≤ 60 then some (.bool (PyData.eqv x y)) else none
def oNe (x y : D) : Option D := if x.depth ≤ 60 then some (.bool (!PyData.eqv x y)) else none
theorem ok_eq : R2ok K (rEqN K) oEq := fun S H v w x y d Q hs p1 p2 e k => by
  obtain ⟨c, rfl⟩ := ite_some e
  exact ⟨x, y, up p1, up p2, c, k _ H (Same.refl H) (.bl _)⟩
theorem ok_ne : R2ok K (rNeN K) oNe := fun S H v w x y d Q hs p1 p2 e k => by
  obtain ⟨c, rfl⟩ := ite_some e
  exact ⟨x, y, up p1, up p2, c, k _ H (Same.refl H) (.bl _)⟩
/-- is None -/
def isN : D → Bool
  | .none => true
  | _ => false
theorem isN_of {H : Hp} {v : V} {d : D} (h : Dq K H v d) : decide (v = V.non) = isN d := by
  cases h <;> rfl
def oIs (x y : D) : Option D := match y with
  | .none => some (.bool (isN x))
  | .bool b => match x with
    | .bool a => some (.bool (decide (a = b)))
    | _ => none
  | _ => none
def oIsNot (x y : D) : Option D := match y with
  | .none => some (.bool (!isN x))
  | .bool b => match x with
    | .bool a => some (.bool (!decide (a = b)))
    | _ => none
  | _ => none
theorem ok_is : R2ok K (fun x y H Q => (y = V.non ∧ Q (.bl (decide (x = V.non))) H) ∨ ∃ a b, x = V.bl a ∧ y = V.bl b ∧ Q (.bl (decide (a = b))) H) oIs := fun S H v w x y d Q hs p1 p2 e k => by
  cases p2 <;> try (cases e; done)
  · cases e
    refine .inl ⟨rfl, ?_⟩
    rw [isN_of p1]
    exact k _ H (Same.refl H) (.bl _)
  · cases p1 <;> try (cases e; done)
    cases e
    exact .inr ⟨_, _, rfl, rfl, k _ H (Same.refl H) (.bl _)⟩
theorem ok_isNot : R2ok K (fun x y H Q => (y = V.non ∧ Q (.bl (!decide (x = V.non))) H) ∨ ∃ a b, x = V.bl a ∧ y = V.bl b ∧ Q (.bl (!decide (a = b))) H) oIsNot := fun S H v w x y d Q hs p1 p2 e k => by
  cases p2 <;> try (cases e; done)
  · cases e
    refine .inl ⟨rfl, ?_⟩
    rw [isN_of p1]
    exact k _ H (Same.refl H) (.bl _)
  · cases p1 <;> try (cases e; done)
    cases e
    exact .inr ⟨_, _, rfl, rfl, k _ H (Same.refl H) (.bl _)⟩
theorem op_is2 : OpR X (compareOp .Is) (fun x y H Q => (y = V.non ∧ Q (.bl (decide (x = V.non))) H) ∨ ∃ a b, x = V.bl a ∧ y = V.bl b ∧ Q (.bl (decide (a = b))) H) := op_isN.or op_is_bl
theorem op_isnot2 : OpR X (compareOp .IsNot) (fun x y H Q => (y = V.non ∧ Q (.bl (!decide (x = V.non))) H) ∨ ∃ a b, x = V.bl a ∧ y = V.bl b ∧ Q (.bl (!decide (a = b))) H) := op_notN.or op_isnot_bl

theorem pd_lt (ha : PD X a f) (hb : PD X b g) : PD X (.Compare a [.Lt] [b] pos) (m2 oLt f g) := pd_cmp op_lt2 ok_lt ha hb
theorem pd_le (ha : PD X a f) (hb : PD X b g) : PD X (.Compare a [.LtE] [b] pos) (m2 oLe f g) := pd_cmp op_le2 ok_le ha hb
theorem pd_gt (ha : PD X a f) (hb : PD X b g) : PD X (.Compare a [.Gt] [b] pos) (m2 oGt f g) := pd_cmp op_gt ok_gt ha hb
theorem pd_ge (ha : PD X a f) (hb : PD X b g) : PD X (.Compare a [.GtE] [b] pos) (m2 oGe f g) := pd_cmp op_ge ok_ge ha hb
theorem pd_eq (hu : X.A.units + 64 < cLine) (ha : PD X a f) (hb : PD X b g) : PD X (.Compare a [.Eq] [b] pos) (m2 oEq f g) := pd_cmp (op_eqN hu) ok_eq ha hb
theorem pd_ne (hu : X.A.units + 64 < cLine) (ha : PD X a f) (hb : PD X b g) : PD X (.Compare a [.NotEq] [b] pos) (m2 oNe f g) := pd_cmp (op_neN hu) ok_ne ha hb
theorem pd_is (ha : PD X a f) (hb : PD X b g) : PD X (.Compare a [.Is] [b] pos) (m2 oIs f g) := pd_cmp op_is2 ok_is ha hb
theorem pd_isNot (ha : PD X a f) (hb : PD X b g) : PD X (.Compare a [.IsNot] [b] pos) (m2 oIsNot f g) := pd_cmp op_isnot2 ok_isNot ha hb

/-! ### in: a text in a text of any length by its signs (one sign), a flat thing in a list or tuple -/
def flatD : D → Bool
  | .list _ => false
  | .tuple _ => false
  | .dict _ => false
  | _ => true
def inS (x y : D) : Option Bool := match x, y with
  | .str i, .str j => if i.cps.size = 1 then some (decide (i.cps.getD 0 0 ∈ j.cps.toList)) else none
  | _, _ => none
def inQ (x : D) (ys : List D) : Bool := ys.any fun y => PyData.eqv y x
def inL (x y : D) : Option Bool := match y with
  | .list ys => if flatD x = true ∧ ys.all flatD = true then some (inQ x ys) else none
  | .tuple ys => if flatD x = true ∧ ys.all flatD = true then some (inQ x ys) else none
  | _ => none
def oIn (x y : D) : Option D := ((inS x y).orElse fun _ => inL x y).map PyData.bool
def oNotIn (x y : D) : Option D := ((inS x y).orElse fun _ => inL x y).map fun b => PyData.bool (!b)
theorem flatV_of {H : Hp} {v : V} {d : D} (h : Dq K H v d) (hf : flatD d = true) : flatV v = true := by
  cases h <;> first | rfl | cases hf
theorem eqV_of {H : Hp} {v w : V} {d e : D} (h : Dq K H v d) (h' : Dq K H w e) (hf : flatD d = true) (hf' : flatD e = true) : eqV v w = PyData.eqv d e := by
  cases h <;> cases h' <;> first | (cases hf; done) | (cases hf'; done) | (simp only [eqV, PyData.eqv]; done) | (rw [PyData.eqv]; rfl)
theorem inV_of {H : Hp} {v : V} {d : D} (h : Dq K H v d) (hf : flatD d = true) : ∀ {vs : List V} {ds : List D}, DqAll K H vs ds → ds.all flatD = true → inV v vs = inQ d ds ∧ vs.all flatV = true
  | _, _, .nil, _ => ⟨rfl, rfl⟩
  | _, _, .cons a r, q => by
    rw [List.all_cons, Bool.and_eq_true] at q
    obtain ⟨h1, h2⟩ := inV_of h hf r q.2
    refine ⟨?_, by rw [List.all_cons, flatV_of a q.1, h2]; rfl⟩
    unfold inV inQ
    rw [List.any_cons, List.any_cons, eqV_of a h q.1 hf]
    exact congrArg _ h1
theorem inS_some {x y : D} {r : Bool} (h : inS x y = some r) : ∃ (c : Nat) (z : Str), x = .str ⟨#[c]⟩ ∧ y = .str z ∧ r = decide (c ∈ z.cps.toList) := by
  unfold inS at h
  cases x <;> cases y <;> try (cases h; done)
  rename_i i j
  obtain ⟨c, rfl⟩ := ite_some h
  obtain ⟨⟨l⟩⟩ := i
  cases l with
  | nil => cases c
  | cons u l =>
    cases l with
    | nil => exact ⟨u, j, rfl, rfl, rfl⟩
    | cons _ _ => simp at c
theorem ok_inG {neg : Bool} : R2ok K (fun x y H Q => (∃ (c : Nat) (z : Str), x = V.str ⟨#[c]⟩ ∧ y = V.str z ∧ Q (.bl (if neg then !decide (c ∈ z.cps.toList) else decide (c ∈ z.cps.toList))) H) ∨ rIn K neg x y H Q)
    (fun x y => ((inS x y).orElse fun _ => inL x y).map fun b => PyData.bool (if neg then !b else b)) := fun S H v w x y d Q hs p1 p2 e k => by
  have e : (((inS x y).orElse fun _ => inL x y).map fun b => PyData.bool (if neg then !b else b)) = some d := e
  cases q : inS x y with
  | some r =>
    rw [q] at e
    cases e
    obtain ⟨c, z, rfl, rfl, rfl⟩ := inS_some q
    cases p1
    cases p2
    exact .inl ⟨c, z, rfl, rfl, k _ H (Same.refl H) (.bl _)⟩
  | none =>
    rw [q] at e
    have e : ((inL x y).map fun b => PyData.bool (if neg then !b else b)) = some d := e
    cases q2 : inL x y with
    | none =>
      rw [q2] at e
      cases e
    | some r =>
      rw [q2] at e
      cases e
      unfold inL at q2
      cases y <;> try (cases q2; done)
      · obtain ⟨c, rfl⟩ := ite_some q2
        obtain ⟨a, vs, rfl, z1, z2⟩ := Dq.sqL p2
        obtain ⟨i1, i2⟩ := inV_of p1 c.1 z2 c.2
        refine .inr ⟨a, vs, rfl, .inl z1, flatV_of p1 c.1, i2, ?_⟩
        rw [i1]
        exact k _ H (Same.refl H) (.bl _)
      · obtain ⟨c, rfl⟩ := ite_some q2
        obtain ⟨a, vs, rfl, z1, z2⟩ := Dq.sqT p2
        obtain ⟨i1, i2⟩ := inV_of p1 c.1 z2 c.2
        refine .inr ⟨a, vs, rfl, .inr z1, flatV_of p1 c.1, i2, ?_⟩
        rw [i1]
        exact k _ H (Same.refl H) (.bl _)
theorem pd_in (ha : PD X a f) (hb : PD X b g) (hm : behindInMarks .In b = false := by rfl) : PD X (.Compare a [.In] [b] pos) (m2 oIn f g) := pd_cmp (op_in_sign.or op_in_seq) (ok_inG (neg := false)) ha hb hm
theorem pd_notIn (ha : PD X a f) (hb : PD X b g) (hm : behindInMarks .NotIn b = false := by rfl) : PD X (.Compare a [.NotIn] [b] pos) (m2 oNotIn f g) := pd_cmp (op_notIn_sign.or op_notIn_seq) (ok_inG (neg := true)) ha hb hm

/-! ### truth -/
def mAnd (f g : Mir) : Mir := fun ρ => match f ρ with
  | some (.bool true) => g ρ
  | some (.bool false) => some (.bool false)
  | _ => none
def mOr (f g : Mir) : Mir := fun ρ => match f ρ with
  | some (.bool true) => some (.bool true)
  | some (.bool false) => g ρ
  | _ => none
def oNot : D → Option D
  | .bool b => some (.bool (!b))
  | _ => none
theorem mAnd_some {f g : Mir} {ρ : Rho} {d : D} (h : mAnd f g ρ = some d) : (f ρ = some (.bool true) ∧ g ρ = some d) ∨ (f ρ = some (.bool false) ∧ d = .bool false) := by
  unfold mAnd at h
  cases q : f ρ with
  | none =>
    rw [q] at h
    cases h
  | some x =>
    rw [q] at h
    cases x <;> try (cases h; done)
    rename_i b
    cases b
    · cases h
      exact .inr ⟨rfl, rfl⟩
    · exact .inl ⟨rfl, h⟩
theorem mOr_some {f g : Mir} {ρ : Rho} {d : D} (h : mOr f g ρ = some d) : (f ρ = some (.bool false) ∧ g ρ = some d) ∨ (f ρ = some (.bool true) ∧ d = .bool true) := by
  unfold mOr at h
  cases q : f ρ with
  | none =>
    rw [q] at h
    cases h
  | some x =>
    rw [q] at h
    cases x <;> try (cases h; done)
    rename_i b
    cases b
    · exact .inl ⟨rfl, h⟩
    · cases h
      exact .inr ⟨rfl, rfl⟩
variable {rest : List Expr}
theorem pd_one {op} (h : PD X a f) : PD X (.BoolOp op [a] pos) f := pe_one h
theorem pd_and (ha : PD X a f) (hb : PD X (.BoolOp .And (b :: rest) pos) g) : PD X (.BoolOp .And (a :: b :: rest) pos) (mAnd f g) := weak (pe_and ha hb) fun σ H Q ⟨S, B, ρ, d, E, e, k⟩ => by
  rcases mAnd_some e with ⟨e1, e2⟩ | ⟨e1, rfl⟩
  · refine ⟨S, B, ρ, _, E, e1, fun v H1 s1 p1 => ?_⟩
    cases p1
    exact ⟨true, rfl, iteT ⟨S, B, ρ, d, E.step s1, e2, fun w H2 s2 p2 => k w H2 (s1.trans s2) p2⟩⟩
  · refine ⟨S, B, ρ, _, E, e1, fun v H1 s1 p1 => ?_⟩
    cases p1
    exact ⟨false, rfl, iteF (k _ H1 s1 (.bl _))⟩
theorem pd_or (ha : PD X a f) (hb : PD X (.BoolOp .Or (b :: rest) pos) g) : PD X (.BoolOp .Or (a :: b :: rest) pos) (mOr f g) := weak (pe_or ha hb) fun σ H Q ⟨S, B, ρ, d, E, e, k⟩ => by
  rcases mOr_some e with ⟨e1, e2⟩ | ⟨e1, rfl⟩
  · refine ⟨S, B, ρ, _, E, e1, fun v H1 s1 p1 => ?_⟩
    cases p1
    exact ⟨false, rfl, iteF ⟨S, B, ρ, d, E.step s1, e2, fun w H2 s2 p2 => k w H2 (s1.trans s2) p2⟩⟩
  · refine ⟨S, B, ρ, _, E, e1, fun v H1 s1 p1 => ?_⟩
    cases p1
    exact ⟨true, rfl, iteT (k _ H1 s1 (.bl _))⟩
theorem pd_not (ha : PD X a f) : PD X (.UnaryOp .Not a pos) (m1 oNot f) := weak (pe_not ha) fun σ H Q ⟨S, B, ρ, d, E, e, k⟩ => by
  obtain ⟨x, e1, e2⟩ := m1_some e
  refine ⟨S, B, ρ, x, E, e1, fun v H1 s1 p1 => ?_⟩
  cases x <;> try (cases e2; done)
  cases e2
  cases p1
  exact ⟨_, rfl, k _ H1 s1 (.bl _)⟩
/-! tests -/
def ttOf (K : PySem.W.Frag) (f : Mir) : TT := fun σ H Q => ∃ S B ρ b, EnvOk K S B H σ ρ ∧ f ρ = some (.bool b) ∧ ∀ H', Same H H' → Q b H'
abbrev PTD (X : Cx) (e : Expr) (f : Mir) : Prop := PT X e (ttOf X.K f)
theorem tt_of : ∀ σ H Q, ttOf K f σ H Q → tB (tOf K f) σ H Q := fun σ H Q ⟨S, B, ρ, b, E, e, k⟩ => ⟨S, B, ρ, .bool b, E, e, fun v H1 s1 p1 => by
  cases p1
  exact ⟨b, rfl, k H1 s1⟩⟩
theorem td_val (h : PD X e f) (he : ∀ whole, isTrue e X.env whole = (do let v ← whole; standAt e.pos; holding [v] (truthy v)) := by intro _; rfl) : PTD X e f := weakT (pt_val h he) tt_of
theorem td_cmp {op : CmpOp} {r : R2} {m : D → D → Option D} (ho : OpR X (compareOp op) r) (hr : R2ok X.K r m) (ha : PD X a f) (hb : PD X b g) (hm : behindInMarks op b = false := by first | exact nomark _ | rfl) : PTD X (.Compare a [op] [b] pos) (m2 m f g) :=
  weakT (pt_cmpR ho ha hb hm) fun σ H Q ⟨S, B, ρ, b, E, e, k⟩ => op_of hr σ H _ ⟨S, B, ρ, .bool b, E, e, fun v H1 s1 p1 => by
    cases p1
    exact ⟨b, rfl, k H1 s1⟩⟩
theorem td_lt (ha : PD X a f) (hb : PD X b g) : PTD X (.Compare a [.Lt] [b] pos) (m2 oLt f g) := td_cmp op_lt2 ok_lt ha hb
theorem td_le (ha : PD X a f) (hb : PD X b g) : PTD X (.Compare a [.LtE] [b] pos) (m2 oLe f g) := td_cmp op_le2 ok_le ha hb
theorem td_gt (ha : PD X a f) (hb : PD X b g) : PTD X (.Compare a [.Gt] [b] pos) (m2 oGt f g) := td_cmp op_gt ok_gt ha hb
theorem td_ge (ha : PD X a f) (hb : PD X b g) : PTD X (.Compare a [.GtE] [b] pos) (m2 oGe f g) := td_cmp op_ge ok_ge ha hb
theorem td_eq (hu : X.A.units + 64 < cLine) (ha : PD X a f) (hb : PD X b g) : PTD X (.Compare a [.Eq] [b] pos) (m2 oEq f g) := td_cmp (op_eqN hu) ok_eq ha hb
theorem td_ne (hu : X.A.units + 64 < cLine) (ha : PD X a f) (hb : PD X b g) : PTD X (.Compare a [.NotEq] [b] pos) (m2 oNe f g) := td_cmp (op_neN hu) ok_ne ha hb
theorem td_is (ha : PD X a f) (hb : PD X b g) : PTD X (.Compare a [.Is] [b] pos) (m2 oIs f g) := td_cmp op_is2 ok_is ha hb
theorem td_isNot (ha : PD X a f) (hb : PD X b g) : PTD X (.Compare a [.IsNot] [b] pos) (m2 oIsNot f g) := td_cmp op_isnot2 ok_isNot ha hb
theorem td_in (ha : PD X a f) (hb : PD X b g) (hm : behindInMarks .In b = false := by rfl) : PTD X (.Compare a [.In] [b] pos) (m2 oIn f g) := td_cmp (op_in_sign.or op_in_seq) (ok_inG (neg := false)) ha hb hm
theorem td_notIn (ha : PD X a f) (hb : PD X b g) (hm : behindInMarks .NotIn b = false := by rfl) : PTD X (.Compare a [.NotIn] [b] pos) (m2 oNotIn f g) := td_cmp (op_notIn_sign.or op_notIn_seq) (ok_inG (neg := true)) ha hb hm
theorem td_not (ha : PTD X a f) : PTD X (.UnaryOp .Not a pos) (m1 oNot f) := weakT (pt_not ha) fun σ H Q ⟨S, B, ρ, b, E, e, k⟩ => by
  obtain ⟨x, e1, e2⟩ := m1_some e
  cases x <;> try (cases e2; done)
  cases e2
  exact ⟨S, B, ρ, _, E, e1, k⟩
/-- and, or whatever the whole is -/
abbrev PWD (X : Cx) (e : Expr) (f : Mir) : Prop := PW X e (ttOf X.K f)
theorem weakW {e : Expr} {t t' : TT} (h : PW X e t) (w : ∀ σ H Q, t' σ H Q → t σ H Q) : PW X e t' := ⟨fun whole pins s σ H Q I q => h.run whole pins s σ H Q I (w σ H Q q)⟩
theorem wd_and1 (ha : PTD X a f) : PWD X (.BoolOp .And [a] pos) f := pw_and1 ha
theorem wd_or1 (ha : PTD X a f) : PWD X (.BoolOp .Or [a] pos) f := pw_or1 ha
theorem wd_and (ha : PTD X a f) (hb : PWD X (.BoolOp .And (b :: rest) pos) g) : PWD X (.BoolOp .And (a :: b :: rest) pos) (mAnd f g) := weakW (pw_and ha hb) fun σ H Q ⟨S, B, ρ, d, E, e, k⟩ => by
  rcases mAnd_some e with ⟨e1, e2⟩ | ⟨e1, e2⟩
  · exact ⟨S, B, ρ, true, E, e1, fun H1 s1 => iteT ⟨S, B, ρ, d, E.step s1, e2, fun H2 s2 => k H2 (s1.trans s2)⟩⟩
  · cases e2
    exact ⟨S, B, ρ, false, E, e1, fun H1 s1 => iteF (k H1 s1)⟩
theorem wd_or (ha : PTD X a f) (hb : PWD X (.BoolOp .Or (b :: rest) pos) g) : PWD X (.BoolOp .Or (a :: b :: rest) pos) (mOr f g) := weakW (pw_or ha hb) fun σ H Q ⟨S, B, ρ, d, E, e, k⟩ => by
  rcases mOr_some e with ⟨e1, e2⟩ | ⟨e1, e2⟩
  · exact ⟨S, B, ρ, false, E, e1, fun H1 s1 => iteF ⟨S, B, ρ, d, E.step s1, e2, fun H2 s2 => k H2 (s1.trans s2)⟩⟩
  · cases e2
    exact ⟨S, B, ρ, true, E, e1, fun H1 s1 => iteT (k H1 s1)⟩
/-! chains -/
def mCh (m m' : D → D → Option D) (f g h : Mir) : Mir := fun ρ => (f ρ).bind fun x => (g ρ).bind fun y => match m x y with
  | some (.bool true) => (h ρ).bind fun z => m' y z
  | some (.bool false) => some (.bool false)
  | _ => none
theorem ch_of {r r' : R2} {m m' : D → D → Option D} (hr : R2ok K r m) (hr' : R2ok K r' m') : ∀ σ H Q, tOf K (mCh m m' f g h) σ H Q → tChain r r' (tOf K f) (tOf K g) (tOf K h) σ H Q := fun σ H Q ⟨S, B, ρ, d, E, e, k⟩ => by
  unfold mCh at e
  cases q1 : f ρ with
  | none =>
    rw [q1] at e
    cases e
  | some x =>
    cases q2 : g ρ with
    | none =>
      rw [q1, q2] at e
      cases e
    | some y =>
      rw [q1, q2] at e
      have e : (match m x y with
        | some (.bool true) => (h ρ).bind fun z => m' y z
        | some (.bool false) => some (.bool false)
        | _ => none) = some d := e
      refine ⟨S, B, ρ, x, E, q1, fun v H1 s1 p1 => ⟨S, B, ρ, y, E.step s1, q2, fun w H2 s2 p2 => ?_⟩⟩
      have E2 := (E.step s1).step s2
      cases q3 : m x y with
      | none =>
        rw [q3] at e
        cases e
      | some z =>
        rw [q3] at e
        cases z <;> try (cases e; done)
        rename_i t
        cases t
        · cases e
          refine hr S H2 v w x y _ _ E2.sub (Dq.mono (same_hid s2) p1) p2 q3 fun u H3 s3 p3 => ?_
          cases p3
          exact ⟨false, rfl, iteF (k _ H3 ((s1.trans s2).trans s3) (.bl _))⟩
        · refine hr S H2 v w x y _ _ E2.sub (Dq.mono (same_hid s2) p1) p2 q3 fun u H3 s3 p3 => ?_
          cases p3
          cases q4 : h ρ with
          | none =>
            have e : ((h ρ).bind fun z => m' y z) = some d := e
            rw [q4] at e
            cases e
          | some z =>
            have e : ((h ρ).bind fun z => m' y z) = some d := e
            rw [q4] at e
            refine ⟨true, rfl, iteT ⟨S, B, ρ, z, E2.step s3, q4, fun w' H4 s4 p4 => ?_⟩⟩
            exact hr' S H4 w w' y z d _ ((E2.step s3).step s4).sub (Dq.mono (same_hid (s3.trans s4)) p2) p4 e fun u' H5 s5 p5 => k u' H5 ((((s1.trans s2).trans s3).trans s4).trans s5) p5
theorem pd_lele (ha : PD X a f) (hb : PD X b g) (hc : PD X c h) (hm : lastMarks [CmpOp.LtE, CmpOp.LtE] [b, c] = false := by with_unfolding_all rfl) : PD X (.Compare a [.LtE, .LtE] [b, c] pos) (mCh oLe oLe f g h) :=
  weak (pe_chain op_le2 op_le2 ha hb hc hm) (ch_of ok_le ok_le)
theorem td_lele (ha : PD X a f) (hb : PD X b g) (hc : PD X c h) (hm : lastMarks [CmpOp.LtE, CmpOp.LtE] [b, c] = false := by with_unfolding_all rfl) : PTD X (.Compare a [.LtE, .LtE] [b, c] pos) (mCh oLe oLe f g h) :=
  weakT (pt_chain op_le2 op_le2 ha hb hc hm) fun σ H Q ⟨S, B, ρ, b, E, e, k⟩ => ch_of ok_le ok_le σ H _ ⟨S, B, ρ, .bool b, E, e, fun v H1 s1 p1 => by
    cases p1
    exact ⟨b, rfl, k H1 s1⟩⟩
end
end Pu

set_option Elab.async false
set_option linter.all false
set_option autoImplicit false
set_option maxRecDepth 100000
namespace Pu
open PySem PySem.Spec PyProof.Rows L2
section
variable {X : Cx} {K : PySem.W.Frag} {a b c e : Expr} {f g h : Mir} {pos : Pos}
/-! ### an item -/
def sgn (c : Nat) : Str := ⟨#[c]⟩
def oIx (x y : D) : Option D := match x, y with
  | .list xs, .int i => atI xs i
  | .tuple xs, .int i => atI xs i
  | .str z, .int i => if z.length ≤ sizeLine then (atI z.cps.toList i).map fun c => PyData.str (sgn c) else none
  | _, _ => none
theorem atI_dp {H : Hp} {vs : List V} {ds : List D} {i : Int} {d : D} (r : DqAll K H vs ds) (h : atI ds i = some d) : ∃ v, atI vs i = some v ∧ Dq K H v d := by
  unfold atI at h ⊢
  rw [r.length]
  cases q : ixN ds.length i with
  | none =>
    rw [q] at h
    cases h
  | some j =>
    rw [q] at h
    exact r.get h
theorem ok_ix : R2ok K (rIx K) oIx := fun S H v w x y d Q hs p1 p2 e k => by
  unfold oIx at e
  cases x <;> cases y <;> try (cases e; done)
  · rename_i z i
    cases p1
    cases p2
    have e : (if z.length ≤ sizeLine then (atI z.cps.toList i).map fun c => PyData.str (sgn c) else none) = some d := e
    by_cases hz : z.length ≤ sizeLine
    · rw [if_pos hz] at e
      cases q : atI z.cps.toList i with
      | none =>
        rw [q] at e
        cases e
      | some u =>
        rw [q] at e
        cases e
        exact .inr (.inr ⟨z, i, u, rfl, rfl, hz, q, k _ H (Same.refl H) (.str _)⟩)
    · rw [if_neg hz] at e
      cases e
  · obtain ⟨a, vs, rfl, z1, z2⟩ := Dq.sqL p1
    cases p2
    obtain ⟨u, h1, h2⟩ := atI_dp z2 e
    exact .inl ⟨a, vs, _, u, rfl, rfl, z1, h1, k _ H (Same.refl H) h2⟩
  · obtain ⟨a, vs, rfl, z1, z2⟩ := Dq.sqT p1
    cases p2
    obtain ⟨u, h1, h2⟩ := atI_dp z2 e
    exact .inr (.inl ⟨a, vs, _, u, rfl, rfl, z1, h1, k _ H (Same.refl H) h2⟩)
theorem pd_ix (ha : PD X a f) (hb : PD X b g) (hs : PlainIx b := by intro _ _; rfl) : PD X (.Subscript a b pos) (m2 oIx f g) := pd_ixr ix_seq ok_ix ha hb hs

/-! ### a slice -/
abbrev MirO := Rho → Option (Option Int)
def toOf (K : PySem.W.Frag) (f : MirO) : TO := fun σ H Q => ∃ S B ρ o, EnvOk K S B H σ ρ ∧ f ρ = some o ∧ ∀ H', Same H H' → Q o H'
abbrev POD (X : Cx) (e : Option Expr) (f : MirO) : Prop := PO X e (toOf X.K f)
theorem weakO {e : Option Expr} {t t' : TO} (h : PO X e t) (w : ∀ σ H Q, t' σ H Q → t σ H Q) : PO X e t' := ⟨fun pins s σ H Q I q => h.run pins s σ H Q I (w σ H Q q)⟩
def oNone : MirO := fun _ => some none
def oSome (f : Mir) : MirO := fun ρ => match f ρ with
  | some (.int i) => some (some i)
  | _ => none
theorem od_none : POD X none oNone := weakO po_none fun σ H Q ⟨S, B, ρ, o, E, e, k⟩ => by
  cases e
  exact k H (Same.refl H)
theorem od_some (h : PD X e f) : POD X (some e) (oSome f) := weakO (po_some h) fun σ H Q ⟨S, B, ρ, o, E, e, k⟩ => by
  unfold oSome at e
  cases q : f ρ with
  | none =>
    rw [q] at e
    cases e
  | some x =>
    rw [q] at e
    cases x <;> try (cases e; done)
    cases e
    refine ⟨S, B, ρ, _, E, q, fun v H1 s1 p1 => ?_⟩
    cases p1
    exact ⟨_, rfl, k H1 s1⟩
def cutD (xs : List D) (lo hi : Option Int) : List D := (xs.drop (HT.sIx xs.length 0 lo)).take (HT.sIx xs.length xs.length hi - HT.sIx xs.length 0 lo)
theorem cut_dp {H : Hp} {vs : List V} {ds : List D} (r : DqAll K H vs ds) (lo hi : Option Int) : DqAll K H (cutV vs lo hi) (cutD ds lo hi) := by
  unfold cutV cutD
  rw [r.length]
  exact (r.drop _).take _
def oSl (x : D) (lo hi : Option Int) : Option D := match x with
  | .list xs => some (.list (cutD xs lo hi))
  | .tuple xs => some (.tuple (cutD xs lo hi))
  | .str z => if z.length ≤ sizeLine then some (.str (cutS z lo hi)) else none
  | _ => none
def mSl (f : Mir) (lo hi : MirO) : Mir := fun ρ => (f ρ).bind fun x => (lo ρ).bind fun l => (hi ρ).bind fun h => oSl x l h
/-- t[lo:hi] -/
def rSlF (K : PySem.W.Frag) : V → Option Int → Option Int → Hp → VK → Prop := fun x lo hi H Q => ∃ a xs, x = .ref a ∧ SqT K H a xs ∧
  (HT.sIx xs.length 0 lo = 0 ∧ HT.sIx xs.length xs.length hi = xs.length → Q (.ref a) H) ∧ (¬ (HT.sIx xs.length 0 lo = 0 ∧ HT.sIx xs.length xs.length hi = xs.length) → ∀ p o, H p = none → o.dict = none → Q (.ref p) (upd H p (.frz o (.tup (cutV xs lo hi)))))
theorem sl_tupF : SlR X (rSlF X.K) := fun pins s σ H x v vl vu lo hi sl Q I rx hs pl pu ⟨a, xs, ex, hx, q1, q2⟩ => by
  subst ex
  cases rx
  obtain ⟨us, r, ht, hz⟩ := I.tuple hx
  have hl : us.toArray.size = xs.length := by rw [List.size_toArray, r.length]
  refine ⟨"tuple", _, PyProof.Rows.slot_tuple_getitem.lookup, ht.typeIs, ?_⟩
  by_cases hw : HT.sIx xs.length 0 lo = 0 ∧ HT.sIx xs.length xs.length hi = xs.length
  · exact getItem_tuple_whole ht hs pl pu (by rw [hl]; exact hw) ⟨.ref a, H, I, rfl, q1 hw⟩
  · refine HT.getItem_tuple_cut ht hs pl pu (by rw [hl]; exact hw) ?_ (by rw [hl]; exact hz)
    rw [hl]
    exact ⟨.ref _, _, laidT (t' := s.toks) I ((r.drop (HT.sIx xs.length 0 lo)).take (HT.sIx xs.length xs.length hi - HT.sIx xs.length 0 lo)) (Nat.le_trans (cutV_length xs lo hi) hz), rfl, q2 hw _ _ (I.hok.fresh (Nat.le_refl _)) rfl⟩
def rSl3 (K : PySem.W.Frag) : V → Option Int → Option Int → Hp → VK → Prop := fun x lo hi H Q => rSlL K x lo hi H Q ∨ rSlF K x lo hi H Q ∨ rSlS x lo hi H Q
theorem pd_slice {lo hi : Option Expr} {p2 : Pos} {fl fh : MirO} (he : PD X e f) (hl : POD X lo fl) (hu : POD X hi fh) : PD X (.Subscript e (.Slice lo hi none p2) pos) (mSl f fl fh) :=
  weak (pe_slice (r := rSl3 X.K) (sl_list.or (sl_tupF.or sl_str)) he hl hu) fun σ H Q ⟨S, B, ρ, d, E, e, k⟩ => by
    unfold mSl at e
    cases q1 : f ρ with
    | none =>
      rw [q1] at e
      cases e
    | some x =>
      cases q2 : fl ρ with
      | none =>
        rw [q1, q2] at e
        cases e
      | some l =>
        cases q3 : fh ρ with
        | none =>
          rw [q1, q2, q3] at e
          cases e
        | some u =>
          rw [q1, q2, q3] at e
          have e : oSl x l u = some d := e
          refine ⟨S, B, ρ, x, E, q1, fun v H1 s1 p1 => ⟨S, B, ρ, l, E.step s1, q2, fun H2 s2 => ⟨S, B, ρ, u, (E.step s1).step s2, q3, fun H3 s3 => ?_⟩⟩⟩
          have p1 := Dq.mono (same_hid (s2.trans s3)) p1
          have E3 := ((E.step s1).step s2).step s3
          have sa := (s1.trans s2).trans s3
          unfold oSl at e
          cases x <;> try (cases e; done)
          · obtain ⟨c, rfl⟩ := ite_some e
            cases p1
            exact .inr (.inr ⟨_, rfl, c, k _ H3 sa (.str _)⟩)
          · cases e
            obtain ⟨a, vs, rfl, z1, z2⟩ := Dq.sqL p1
            refine .inl ⟨a, vs, rfl, z1, fun p hp => ?_⟩
            obtain ⟨s4, n4⟩ := new_lst E3.sub hp (cut_dp z2 l u)
            exact k _ _ (sa.trans s4) n4
          · cases e
            obtain ⟨a, vs, rfl, z1, z2⟩ := Dq.sqT p1
            refine .inr (.inl ⟨a, vs, rfl, z1, fun w => ?_, fun _ p o hp ho => ?_⟩)
            · rw [z2.length] at w
              unfold cutD at k
              rw [w.1, w.2, List.drop_zero, Nat.sub_zero, List.take_length] at k
              exact k _ H3 sa p1
            · obtain ⟨s4, n4⟩ := new_tup E3.sub hp ho (cut_dp z2 l u)
              exact k _ _ (sa.trans s4) n4

/-! ### arguments and displays -/
abbrev MirA := Rho → Option (List D)
def taOf (K : PySem.W.Frag) (f : MirA) : TA := fun σ H Q => ∃ S B ρ ds, EnvOk K S B H σ ρ ∧ f ρ = some ds ∧ ∀ vs H', Same H H' → DqAll K (hid S H') vs ds → Q vs H'
abbrev PAD (X : Cx) (es : List Expr) (f : MirA) : Prop := PA X es (taOf X.K f)
def aNil : MirA := fun _ => some []
def aCons (f : Mir) (r : MirA) : MirA := fun ρ => (f ρ).bind fun x => (r ρ).bind fun xs => some (x :: xs)
theorem ad_nil : PAD X [] aNil := weakA pa_nil fun σ H Q ⟨S, B, ρ, ds, E, e, k⟩ => by
  cases e
  exact k [] H (Same.refl H) .nil
theorem ad_cons {es : List Expr} {r : MirA} (ha : PD X e f) (hr : PAD X es r) (hs : starEach (e :: es) X.env = (false, eval e X.env) :: starEach es X.env := by rfl) : PAD X (e :: es) (aCons f r) :=
  weakA (pa_cons ha hr hs) fun σ H Q ⟨S, B, ρ, ds, E, e, k⟩ => by
    unfold aCons at e
    cases q1 : f ρ with
    | none =>
      rw [q1] at e
      cases e
    | some x =>
      cases q2 : r ρ with
      | none =>
        rw [q1, q2] at e
        cases e
      | some xs =>
        rw [q1, q2] at e
        cases e
        exact ⟨S, B, ρ, x, E, q1, fun v H1 s1 p1 => ⟨S, B, ρ, xs, E.step s1, q2, fun vs H2 s2 p2 => k _ H2 (s1.trans s2) (.cons (Dq.mono (same_hid s2) p1) p2)⟩⟩
def mTup (r : MirA) : Mir := fun ρ => (r ρ).bind fun xs => if xs.length ≤ sizeLine then some (.tuple xs) else none
def mLst (r : MirA) : Mir := fun ρ => (r ρ).bind fun xs => if xs.length ≤ sizeLine then some (.list xs) else none
theorem bind_some {α β : Type} {o : Option α} {g : α → Option β} {b : β} (h : o.bind g = some b) : ∃ a, o = some a ∧ g a = some b := by
  cases o with
  | none => cases h
  | some a => exact ⟨a, rfl, h⟩
def tTupF (t : TA) : TE := fun σ H Q => t σ H fun xs H1 => xs.length ≤ sizeLine ∧ ∀ p o, H1 p = none → o.dict = none → Q (.ref p) (upd H1 p (.frz o (.tup xs)))
theorem pe_tupF {es : List Expr} {t : TA} {x1} (h : PA X es t) : PE X (.Tuple es x1 pos) (tTupF t) := ⟨fun pins s σ H Q I hq => wpAny_Tuple_spliced (thn (h.run pos pins s σ H _ I hq) fun us s1 ⟨xs, H1, I1, r, z, q⟩ =>
  ⟨by rw [← r.length]; exact z, .ref _, _, laidT (t' := s1.toks) I1 r z, rfl, q _ _ (I1.hok.fresh (Nat.le_refl _)) rfl⟩)⟩
theorem pd_tup {es : List Expr} {r : MirA} {x1} (h : PAD X es r) : PD X (.Tuple es x1 pos) (mTup r) := weak (pe_tupF h) fun σ H Q ⟨S, B, ρ, d, E, e, k⟩ => by
  obtain ⟨xs, e1, e2⟩ := bind_some e
  obtain ⟨c, rfl⟩ := ite_some e2
  refine ⟨S, B, ρ, xs, E, e1, fun vs H1 s1 p1 => ⟨by rw [p1.length]; exact c, fun p o hp ho => ?_⟩⟩
  obtain ⟨s2, n2⟩ := new_tup (E.step s1).sub hp ho p1
  exact k _ _ (s1.trans s2) n2
theorem pd_lst {es : List Expr} {r : MirA} (h : PAD X es r) : PD X (.List es pos) (mLst r) := weak (pe_lst h) fun σ H Q ⟨S, B, ρ, d, E, e, k⟩ => by
  obtain ⟨xs, e1, e2⟩ := bind_some e
  obtain ⟨c, rfl⟩ := ite_some e2
  refine ⟨S, B, ρ, xs, E, e1, fun vs H1 s1 p1 => ⟨by rw [p1.length]; exact c, fun p hp => ?_⟩⟩
  obtain ⟨s2, n2⟩ := new_lst (E.step s1).sub hp p1
  exact k _ _ (s1.trans s2) n2

/-! ### built-ins -/
/-- the rule r of a built-in answers as m -/
def Cok (K : PySem.W.Frag) (r : List V → Hp → VK → Prop) (m : List D → Option D) : Prop :=
  ∀ (S : Addr → Prop) (H : Hp) (vs : List V) (xs : List D) (d : D) (Q : VK), Sub S H → DqAll K (hid S H) vs xs → m xs = some d → (∀ v H', Same H H' → Dq K (hid S H') v d → Q v H') → r vs H Q
def mA (m : List D → Option D) (r : MirA) : Mir := fun ρ => (r ρ).bind m
theorem cb_of {r : List V → Hp → VK → Prop} {m : List D → Option D} {ra : MirA} (hr : Cok K r m) : ∀ σ H Q, tOf K (mA m ra) σ H Q → tCB r (taOf K ra) σ H Q := fun σ H Q ⟨S, B, ρ, d, E, e, k⟩ => by
  obtain ⟨xs, e1, e2⟩ := bind_some e
  exact ⟨S, B, ρ, xs, E, e1, fun vs H1 s1 p1 => hr S H1 vs xs d Q (E.step s1).sub p1 e2 fun v H2 s2 p2 => k v H2 (s1.trans s2) p2⟩
theorem pd_callB {r : List V → Hp → VK → Prop} {m : List D → Option D} {ra : MirA} {id : String} {x : Str} {p : Pos} {es : List Expr} (hc : CallR X (.builtin id) r) (hr : Cok X.K r m) (hg : Gl X x) (hm : X.mg x = none) (hv : bootBuiltins x = some (.builtin id)) (ha : PAD X (e :: es) ra) (hn : x ≠ "__name__" := by decide) (hdb : (x == ("__debug__" : Str)) = false := by decide)
    (he : starEach (e :: es) X.env = (false, eval e X.env) :: starEach es X.env := by rfl) (hpl : (backTo pos (starEach es X.env)).any (·.1) = false := by rfl) : PD X (.Call (.Name x p) (e :: es) [] pos) (mA m ra) :=
  weak (pe_callB hc hg hm hv ha hn hdb he hpl) (cb_of hr)
theorem pd_callTy {r : List V → Hp → VK → Prop} {m : List D → Option D} {ra : MirA} {T : String} {x : Str} {p : Pos} {es : List Expr} (hc : CallR X (.type T) r) (hr : Cok X.K r m) (hg : Gl X x) (hm : X.mg x = none) (hv : bootBuiltins x = some (.type T)) (ha : PAD X (e :: es) ra) (hn : x ≠ "__name__" := by decide) (hdb : (x == ("__debug__" : Str)) = false := by decide)
    (he : starEach (e :: es) X.env = (false, eval e X.env) :: starEach es X.env := by rfl) (hpl : (backTo pos (starEach es X.env)).any (·.1) = false := by rfl) : PD X (.Call (.Name x p) (e :: es) [] pos) (mA m ra) :=
  weak (pe_callTy hc hg hm hv ha hn hdb he hpl) (cb_of hr)
theorem Cok.or {r r' : List V → Hp → VK → Prop} {m m' : List D → Option D} (h : Cok K r m) (h' : Cok K r' m') : Cok K (fun xs H Q => r xs H Q ∨ r' xs H Q) (fun xs => (m xs).orElse fun _ => m' xs) := fun S H vs xs d Q hs p e k => by
  have e : ((m xs).orElse fun _ => m' xs) = some d := e
  cases q : m xs with
  | some z =>
    rw [q] at e
    cases e
    exact .inl (h S H vs xs _ Q hs p q k)
  | none =>
    rw [q] at e
    exact .inr (h' S H vs xs d Q hs p e k)
theorem one_of {H : Hp} {vs : List V} {x : D} (h : DqAll K H vs [x]) : ∃ v, vs = [v] ∧ Dq K H v x := by
  cases h with
  | cons a r =>
    cases r
    exact ⟨_, rfl, a⟩
theorem two_of {H : Hp} {vs : List V} {x y : D} (h : DqAll K H vs [x, y]) : ∃ v w, vs = [v, w] ∧ Dq K H v x ∧ Dq K H w y := by
  cases h with
  | cons a r =>
    obtain ⟨w, rfl, q⟩ := one_of r
    exact ⟨_, _, rfl, a, q⟩
/-- len -/
def oLen : List D → Option D
  | [.list xs] => some (.int xs.length)
  | [.tuple xs] => some (.int xs.length)
  | [.str z] => if z.length ≤ sizeLine then some (.int z.length) else none
  | _ => none
theorem ok_len : Cok K (fun xs H Q => (∃ p ys, xs = [V.ref p] ∧ (SqL K H p ys ∨ SqT K H p ys) ∧ Q (.int ys.length) H) ∨ ∃ z : Str, xs = [V.str z] ∧ z.length ≤ sizeLine ∧ Q (.int z.length) H) oLen := fun S H vs xs d Q hs p e k => by
  unfold oLen at e
  split at e
  · cases e
    obtain ⟨v, rfl, q⟩ := one_of p
    obtain ⟨a, ws, rfl, z1, z2⟩ := Dq.sqL q
    rw [← z2.length] at k
    exact .inl ⟨a, ws, rfl, .inl z1, k _ H (Same.refl H) (.int _)⟩
  · cases e
    obtain ⟨v, rfl, q⟩ := one_of p
    obtain ⟨a, ws, rfl, z1, z2⟩ := Dq.sqT q
    rw [← z2.length] at k
    exact .inl ⟨a, ws, rfl, .inr z1, k _ H (Same.refl H) (.int _)⟩
  · obtain ⟨c, rfl⟩ := ite_some e
    obtain ⟨v, rfl, q⟩ := one_of p
    cases q
    exact .inr ⟨_, rfl, c, k _ H (Same.refl H) (.int _)⟩
  · cases e
theorem pd_len {ra : MirA} {p : Pos} (hg : Gl X "len") (hm : X.mg "len" = none) (ha : PAD X [e] ra) (he : starEach [e] X.env = (false, eval e X.env) :: starEach [] X.env := by rfl) (hpl : (backTo pos (starEach [] X.env)).any (·.1) = false := by rfl) : PD X (.Call (.Name "len" p) [e] [] pos) (mA oLen ra) :=
  pd_callB (call_len_seq.or call_len_str) ok_len hg hm PySem.boot_len ha (he := he) (hpl := hpl)
/-- tuple(x), list(x) -/
def oTuple : List D → Option D
  | [.list xs] => some (.tuple xs)
  | [.tuple xs] => some (.tuple xs)
  | _ => none
def oList : List D → Option D
  | [.list xs] => some (.list xs)
  | [.tuple xs] => some (.list xs)
  | _ => none
def rTupF (K : PySem.W.Frag) : List V → Hp → VK → Prop := fun xs H Q => ∃ p ys, xs = [V.ref p] ∧ ((SqL K H p ys ∧ ∀ l o, H l = none → o.dict = none → Q (.ref l) (upd H l (.frz o (.tup ys)))) ∨ (SqT K H p ys ∧ Q (.ref p) H))
theorem call_tupF : CallR X (.type "tuple") (rTupF X.K) := fun pins s σ H xs us Q I r ⟨p, ys, ex, h⟩ => by
  subst ex
  obtain rfl := Vals.ref1 r
  rcases h with ⟨hq, q⟩ | ⟨hq, q⟩
  · obtain ⟨its, r', pl, hz⟩ := I.list hq
    refine call_tuple_list pl.isList (fun h' kp => ?_) (by rw [List.size_toArray, ← r'.length]; exact hz)
    have I1 : Inv X pins σ H { s with heap := h' } := I.kept (t' := s.toks) kp
    exact ⟨.ref _, _, laidT (t' := s.toks) I1 r' hz, rfl, q _ _ (I1.hok.fresh (Nat.le_refl _)) rfl⟩
  · obtain ⟨its, r', pl, hz⟩ := I.tuple hq
    exact call_tuple_same pl ⟨.ref p, H, I, rfl, q⟩
theorem ok_tuple : Cok K (rTupF K) oTuple := fun S H vs xs d Q hs p e k => by
  unfold oTuple at e
  split at e
  · cases e
    obtain ⟨v, rfl, q⟩ := one_of p
    obtain ⟨a, ws, rfl, z1, z2⟩ := Dq.sqL q
    refine ⟨a, ws, rfl, .inl ⟨z1, fun l o hl ho => ?_⟩⟩
    obtain ⟨s2, n2⟩ := new_tup hs hl ho z2
    exact k _ _ s2 n2
  · cases e
    obtain ⟨v, rfl, q⟩ := one_of p
    obtain ⟨a, ws, rfl, z1, z2⟩ := Dq.sqT q
    exact ⟨a, ws, rfl, .inr ⟨z1, k _ H (Same.refl H) q⟩⟩
  · cases e
theorem ok_list : Cok K (fun xs H Q => ∃ p ys, xs = [V.ref p] ∧ (SqL K H p ys ∨ SqT K H p ys) ∧ ∀ l, H l = none → Q (.ref l) (upd H l (.lst ys))) oList := fun S H vs xs d Q hs p e k => by
  unfold oList at e
  split at e
  · cases e
    obtain ⟨v, rfl, q⟩ := one_of p
    obtain ⟨a, ws, rfl, z1, z2⟩ := Dq.sqL q
    refine ⟨a, ws, rfl, .inl z1, fun l hl => ?_⟩
    obtain ⟨s2, n2⟩ := new_lst hs hl z2
    exact k _ _ s2 n2
  · cases e
    obtain ⟨v, rfl, q⟩ := one_of p
    obtain ⟨a, ws, rfl, z1, z2⟩ := Dq.sqT q
    refine ⟨a, ws, rfl, .inr z1, fun l hl => ?_⟩
    obtain ⟨s2, n2⟩ := new_lst hs hl z2
    exact k _ _ s2 n2
  · cases e
theorem pd_tuple {ra : MirA} {p : Pos} (hg : Gl X "tuple") (hm : X.mg "tuple" = none) (ha : PAD X [e] ra) (he : starEach [e] X.env = (false, eval e X.env) :: starEach [] X.env := by rfl) (hpl : (backTo pos (starEach [] X.env)).any (·.1) = false := by rfl) : PD X (.Call (.Name "tuple" p) [e] [] pos) (mA oTuple ra) :=
  pd_callTy call_tupF ok_tuple hg hm (by decide +kernel) ha (he := he) (hpl := hpl)
theorem pd_list {ra : MirA} {p : Pos} (hg : Gl X "list") (hm : X.mg "list" = none) (ha : PAD X [e] ra) (he : starEach [e] X.env = (false, eval e X.env) :: starEach [] X.env := by rfl) (hpl : (backTo pos (starEach [] X.env)).any (·.1) = false := by rfl) : PD X (.Call (.Name "list" p) [e] [] pos) (mA oList ra) :=
  pd_callTy call_list_of ok_list hg hm (by decide +kernel) ha (he := he) (hpl := hpl)
/-- int(x): an int, a truth; a text -/
def oInt : List D → Option D
  | [.int i] => some (.int i)
  | [.bool b] => some (.int (if b then 1 else 0))
  | [.str z] => if z.length ≤ 640 then (PySem.intText? z).map PyData.int else none
  | _ => none
theorem ok_int : Cok K (fun xs H Q => ((∃ i, xs = [V.int i] ∧ Q (.int i) H) ∨ ∃ k, xs = [V.bl k] ∧ Q (.int (if k then 1 else 0)) H) ∨ ∃ (a : Str) (n : Int), xs = [V.str a] ∧ PySem.intText? a = some n ∧ a.length ≤ 640 ∧ Q (.int n) H) oInt := fun S H vs xs d Q hs p e k => by
  unfold oInt at e
  split at e
  · cases e
    obtain ⟨v, rfl, q⟩ := one_of p
    cases q
    exact .inl (.inl ⟨_, rfl, k _ H (Same.refl H) (.int _)⟩)
  · cases e
    obtain ⟨v, rfl, q⟩ := one_of p
    cases q
    exact .inl (.inr ⟨_, rfl, k _ H (Same.refl H) (.int _)⟩)
  · obtain ⟨v, rfl, q⟩ := one_of p
    cases q
    rename_i z
    by_cases hz : z.length ≤ 640
    · rw [if_pos hz] at e
      cases q : PySem.intText? z with
      | none =>
        rw [q] at e
        cases e
      | some n =>
        rw [q] at e
        cases e
        exact .inr ⟨z, n, rfl, q, hz, k _ H (Same.refl H) (.int _)⟩
    · rw [if_neg hz] at e
      cases e
  · cases e
/-- str(n) -/
def oStr : List D → Option D
  | [.int i] => if i.natAbs.log2 < 1920 then some (.str (toString i)) else none
  | _ => none
theorem ok_str : Cok K (fun xs H Q => ∃ i : Int, xs = [V.int i] ∧ i.natAbs.log2 < 1920 ∧ Q (.str (toString i)) H) oStr := fun S H vs xs d Q hs p e k => by
  unfold oStr at e
  split at e
  · obtain ⟨c, rfl⟩ := ite_some e
    obtain ⟨v, rfl, q⟩ := one_of p
    cases q
    exact ⟨_, rfl, c, k _ H (Same.refl H) (.str _)⟩
  · cases e
/-- ord(c) -/
def oOrd : List D → Option D
  | [.str z] => if z.length = 1 then some (.int (z.cps.getD 0 0 : Nat)) else none
  | _ => none
theorem ok_ord : Cok K (fun xs H Q => ∃ x : Str, xs = [V.str x] ∧ x.length = 1 ∧ Q (.int (x.cps.getD 0 0 : Nat)) H) oOrd := fun S H vs xs d Q hs p e k => by
  unfold oOrd at e
  split at e
  · obtain ⟨c, rfl⟩ := ite_some e
    obtain ⟨v, rfl, q⟩ := one_of p
    cases q
    exact ⟨_, rfl, c, k _ H (Same.refl H) (.int _)⟩
  · cases e
theorem pd_intc {ra : MirA} {p : Pos} (hg : Gl X "int") (hm : X.mg "int" = none) (ha : PAD X [e] ra) (he : starEach [e] X.env = (false, eval e X.env) :: starEach [] X.env := by rfl) (hpl : (backTo pos (starEach [] X.env)).any (·.1) = false := by rfl) : PD X (.Call (.Name "int" p) [e] [] pos) (mA oInt ra) :=
  pd_callTy (call_int1.or call_int_str) ok_int hg hm (by decide +kernel) ha (he := he) (hpl := hpl)
theorem pd_strc {ra : MirA} {p : Pos} (hg : Gl X "str") (hm : X.mg "str" = none) (ha : PAD X [e] ra) (he : starEach [e] X.env = (false, eval e X.env) :: starEach [] X.env := by rfl) (hpl : (backTo pos (starEach [] X.env)).any (·.1) = false := by rfl) : PD X (.Call (.Name "str" p) [e] [] pos) (mA oStr ra) :=
  pd_callTy call_str_int ok_str hg hm (by decide +kernel) ha (he := he) (hpl := hpl)
theorem pd_ord {ra : MirA} {p : Pos} (hg : Gl X "ord") (hm : X.mg "ord" = none) (ha : PAD X [e] ra) (he : starEach [e] X.env = (false, eval e X.env) :: starEach [] X.env := by rfl) (hpl : (backTo pos (starEach [] X.env)).any (·.1) = false := by rfl) : PD X (.Call (.Name "ord" p) [e] [] pos) (mA oOrd ra) :=
  pd_callB call_ord ok_ord hg hm (by decide +kernel) ha (he := he) (hpl := hpl)
end
end Pu

set_option Elab.async false
set_option linter.all false
set_option autoImplicit false
set_option maxRecDepth 100000
namespace Pu
open PySem PySem.Spec PyProof.Rows L2
/-! ### the state at a statement -/
structure StOk (K : PySem.W.Frag) (S T : Addr → Prop) (B : Base) (H : Hp) (σ : L2.St) (ρ : Rho) : Prop where
  env : EnvOk K S B H σ ρ
  sup : ∀ a, T a → S a
  inn : ∀ a, T a → B.hi a ≠ none
  lim : ∀ a, S a → T a ∨ B.hi a = none
def StE (K : PySem.W.Frag) (T : Addr → Prop) (B : Base) (H : Hp) (σ : L2.St) (ρ : Rho) : Prop := ∃ S, StOk K S T B H σ ρ
theorem StOk.step {K : PySem.W.Frag} {S T : Addr → Prop} {B : Base} {H H' : Hp} {σ : L2.St} {ρ : Rho} (h : StOk K S T B H σ ρ) (s : Same H H') : StOk K S T B H' σ ρ := ⟨h.env.step s, h.sup, h.inn, h.lim⟩
inductive Out where
  | nx (ρ : Rho)
  | rt (d : D)
  | bk (ρ : Rho)
  | ct (ρ : Rho)
abbrev MirS := Rho → Option Out
def OutK (K : PySem.W.Frag) (T : Addr → Prop) (B : Base) (Dn : Ends) : Out → Prop
  | .nx ρ' => ∀ σ' H', StE K T B H' σ' ρ' → Dn.nx σ' H'
  | .rt d => ∀ v H', Same B.hi H' → Dq K (hid T H') v d → Dn.rt v H'
  | .bk ρ' => ∀ σ' H', StE K T B H' σ' ρ' → Dn.bk σ' H'
  | .ct ρ' => ∀ σ' H', StE K T B H' σ' ρ' → Dn.ct σ' H'
def tsOf (K : PySem.W.Frag) (F : MirS) : TS := fun Dn σ H => ∃ T B ρ o, StE K T B H σ ρ ∧ F ρ = some o ∧ OutK K T B Dn o
abbrev PSD (X : Cx) (st : Stmt) (F : MirS) : Prop := PS X st (tsOf X.K F)
abbrev PSsD (X : Cx) (sts : List Stmt) (F : MirS) : Prop := PSs X sts (tsOf X.K F)
section
variable {X : Cx} {K : PySem.W.Frag} {e : Expr} {f g : Mir} {pos : Pos} {st : Stmt} {sts : List Stmt} {F G : MirS}
def sNil : MirS := fun ρ => some (.nx ρ)
def sSeq (F G : MirS) : MirS := fun ρ => (F ρ).bind fun
  | .nx ρ' => G ρ'
  | o => some o
theorem sd_nil : PSsD X [] sNil := weakSs pss_nil fun Dn σ H ⟨T, B, ρ, o, E, e, k⟩ => by
  cases e
  exact k σ H E
theorem sd_one (h : PSD X st F) : PSsD X [st] F := pss_one h
theorem sd_cons (h : PSD X st F) (hr : PSsD X sts G) : PSsD X (st :: sts) (sSeq F G) := weakSs (pss_cons h hr) fun Dn σ H ⟨T, B, ρ, o, E, e, k⟩ => by
  obtain ⟨o1, e1, e2⟩ := bind_some e
  refine ⟨T, B, ρ, o1, E, e1, ?_⟩
  cases o1 with
  | nx ρ' => exact fun σ' H' E' => ⟨T, B, ρ', o, E', e2, k⟩
  | rt d =>
    cases e2
    exact k
  | bk ρ' =>
    cases e2
    exact k
  | ct ρ' =>
    cases e2
    exact k
def sRet (f : Mir) : MirS := fun ρ => (f ρ).map Out.rt
theorem map_some {α β : Type} {o : Option α} {g : α → β} {b : β} (h : o.map g = some b) : ∃ a, o = some a ∧ g a = b := by
  cases o with
  | none => cases h
  | some a => exact ⟨a, rfl, Option.some.inj h⟩
theorem sd_ret (h : PD X e f) : PSD X (.Return (some e) pos) (sRet f) := weakS (ps_ret h) fun Dn σ H ⟨T, B, ρ, o, ⟨S, E⟩, e, k⟩ => by
  obtain ⟨d, e1, rfl⟩ := map_some e
  exact ⟨S, B, ρ, d, E.env, e1, fun v H' s p => k v H' (E.env.base.trans s) (Dq.mono (hid_le H' E.sup) p)⟩
def sIf (c : Mir) (F G : MirS) : MirS := fun ρ => match c ρ with
  | some (.bool true) => F ρ
  | some (.bool false) => G ρ
  | _ => none
theorem sd_if {c : Expr} {a b : List Stmt} (hc : PTD X c f) (ha : PSsD X a F) (hb : PSsD X b G) : PSD X (.If c a b pos) (sIf f F G) := weakS (ps_if hc ha hb) fun Dn σ H ⟨T, B, ρ, o, ⟨S, E⟩, e, k⟩ => by
  unfold sIf at e
  cases q : f ρ with
  | none =>
    rw [q] at e
    cases e
  | some x =>
    rw [q] at e
    cases x <;> try (cases e; done)
    rename_i b
    cases b
    · exact ⟨S, B, ρ, false, E.env, q, fun H1 s1 => iteF ⟨T, B, ρ, o, ⟨S, E.step s1⟩, e, k⟩⟩
    · exact ⟨S, B, ρ, true, E.env, q, fun H1 s1 => iteT ⟨T, B, ρ, o, ⟨S, E.step s1⟩, e, k⟩⟩
def sBreak : MirS := fun ρ => some (.bk ρ)
def sCont : MirS := fun ρ => some (.ct ρ)
theorem sd_break : PSD X (.Break pos) sBreak := weakS ps_break fun Dn σ H ⟨T, B, ρ, o, E, e, k⟩ => by
  cases e
  exact k σ H E
theorem sd_cont : PSD X (.Continue pos) sCont := weakS ps_continue fun Dn σ H ⟨T, B, ρ, o, E, e, k⟩ => by
  cases e
  exact k σ H E
theorem sd_pass : PSD X (.Pass pos) sNil := weakS ps_pass fun Dn σ H ⟨T, B, ρ, o, E, e, k⟩ => by
  cases e
  exact k σ H E
theorem sd_doc {x j pos'} : PSD X (.Expr (.Constant (.str x) j pos) pos') sNil := weakS ps_doc fun Dn σ H ⟨T, B, ρ, o, E, e, k⟩ => by
  cases e
  exact k σ H E
/-- an expression alone -/
def sExpr (f : Mir) : MirS := fun ρ => (f ρ).map fun _ => Out.nx ρ
theorem sd_expr (h : PD X e f) (hs : swapsWith e none pos.line X.env = pure false := by rfl) : PSD X (.Expr e pos) (sExpr f) := weakS (ps_expr h hs) fun Dn σ H ⟨T, B, ρ, o, ⟨S, E⟩, e, k⟩ => by
  obtain ⟨d, e1, rfl⟩ := map_some e
  exact ⟨S, B, ρ, d, E.env, e1, fun v H' s p => k σ H' ⟨S, E.step s⟩⟩

/-! ### a slot gets data -/
theorem set_getD {σ : L2.St} {i : Nat} {v : Option V} (h : i < σ.length) : (σ.set i v)[i]?.getD none = v := by
  rw [List.getElem?_set_self h]
  rfl
theorem EnvOk.setD {S : Addr → Prop} {B : Base} {H : Hp} {σ : L2.St} {ρ : Rho} {i : Nat} {v : V} {d : D} (E : EnvOk K S B H σ ρ) (p : Dq K (hid S H) v d) : EnvOk K S B H (σ.set i (some v)) (ρ.set i (.dat d)) where
  tab := E.tab
  len := by rw [List.length_set, List.length_set]; exact E.len
  sub := E.sub
  base := E.base
  slot := fun j x h => by
    by_cases hj : i = j
    · subst hj
      have hl : i < ρ.length := by
        have := (List.getElem?_eq_some_iff.mp h).1
        rw [List.length_set] at this
        exact this
      rw [List.getElem?_set_self hl] at h
      cases h
      rw [set_getD (by rw [E.len]; exact hl)]
      exact p
    · rw [List.getElem?_set_ne hj] at h ⊢
      exact E.slot j x h
  apart := fun j l a x y hn hx ox hy oy => by
    by_cases hj : i = j
    · subst hj
      have hl : i < ρ.length := by
        have := (List.getElem?_eq_some_iff.mp hx).1
        rw [List.length_set] at this
        exact this
      rw [List.getElem?_set_self hl] at hx
      cases hx
      cases ox
    · by_cases hl' : i = l
      · subst hl'
        have hl : i < ρ.length := by
          have := (List.getElem?_eq_some_iff.mp hy).1
          rw [List.length_set] at this
          exact this
        rw [List.getElem?_set_self hl] at hy
        cases hy
        cases oy
      · rw [List.getElem?_set_ne hj] at hx ⊢
        rw [List.getElem?_set_ne hl'] at hy ⊢
        exact E.apart j l a x y hn hx ox hy oy
theorem StOk.setD {S T : Addr → Prop} {B : Base} {H : Hp} {σ : L2.St} {ρ : Rho} {i : Nat} {v : V} {d : D} (E : StOk K S T B H σ ρ) (p : Dq K (hid S H) v d) : StOk K S T B H (σ.set i (some v)) (ρ.set i (.dat d)) := ⟨E.env.setD p, E.sup, E.inn, E.lim⟩
def sSet (i : Nat) (f : Mir) : MirS := fun ρ => (f ρ).map fun d => Out.nx (ρ.set i (.dat d))
theorem sd_set {i : Nat} {x : Str} {pos' : Pos} (h : PD X e f) (hN : X.N.Nodup) (hi : X.N[i]? = some x := by rfl) (hx : Loc X.env.scope x := by first | exact .inl rfl | exact .inr rfl) (hs : swapsWith e (some (.Name x pos')) pos.line X.env = pure false := by rfl) (hf : X.fn x = true ∨ X.env.scope.names.lookup x = some .local := by first | exact .inl rfl | exact .inr rfl | assumption) :
    PSD X (.Assign [.Name x pos'] e pos) (sSet i f) := weakS (ps_set (i := i) hN hi hx h hs hf) fun Dn σ H ⟨T, B, ρ, o, ⟨S, E⟩, e, k⟩ => by
  obtain ⟨d, e1, rfl⟩ := map_some e
  exact ⟨S, B, ρ, d, E.env, e1, fun v H' s p => k _ H' ⟨S, (E.step s).setD p⟩⟩

/-! ### targets -/
abbrev MirG := D → Rho → Option Rho
/-- an item of a walk: a datum; or (y) a tuple of such -/
def Dy (K : PySem.W.Frag) (y : Bool) (H : Hp) (v : V) (d : D) : Prop := Dq K H v d ∨ (y = true ∧ ∃ a vs ds, v = .ref a ∧ d = .tuple ds ∧ SqT K H a vs ∧ DqAll K H vs ds)
theorem Dy.mono {y : Bool} {H H' : Hp} {v : V} {d : D} (s : Same H H') (h : Dy K y H v d) : Dy K y H' v d := by
  rcases h with h | ⟨e, a, vs, ds, e1, e2, q, r⟩
  · exact .inl (Dq.mono s h)
  · exact .inr ⟨e, a, vs, ds, e1, e2, s.seqT q, r.mono s⟩
def tgOf (K : PySem.W.Frag) (y : Bool) (is : List Nat) (m : MirG) : TG := fun v σ H Q => ∃ S B ρ d ρ', EnvOk K S B H σ ρ ∧ Dy K y (hid S H) v d ∧ m d ρ = some ρ' ∧ ∀ σ', EnvOk K S B H σ' ρ' → (∀ j, j ∉ is → σ'[j]? = σ[j]?) → σ'.length = σ.length → Q σ' H
abbrev PGD (X : Cx) (y : Bool) (tg : Expr) (is : List Nat) (m : MirG) : Prop := PG X tg (tgOf X.K y is m)
theorem weakG {tg : Expr} {t t' : TG} (h : PG X tg t) (w : ∀ v σ H Q, t' v σ H Q → t v σ H Q) : PG X tg t' := ⟨fun pins s σ H v u Q I r q => h.run pins s σ H v u Q I r (w v σ H Q q)⟩
def gN (i : Nat) : MirG := fun d ρ => some (ρ.set i (.dat d))
theorem gd_name {i : Nat} {x : Str} (hN : X.N.Nodup) (hi : X.N[i]? = some x := by rfl) (hx : Loc X.env.scope x := by first | exact .inl rfl | exact .inr rfl) (hf : X.fn x = true ∨ X.env.scope.names.lookup x = some .local := by first | exact .inl rfl | exact .inr rfl | assumption) : PGD X false (.Name x pos) [i] (gN i) :=
  weakG (pg_name (i := i) hN hi hx hf) fun v σ H Q ⟨S, B, ρ, d, ρ', E, p, e, k⟩ => by
    cases e
    have p := p.resolve_right fun z => nomatch z.1
    refine k _ (E.setD p) (fun j hj => ?_) (List.length_set ..)
    rw [List.getElem?_set_ne (fun z => hj (by rw [z]; exact List.mem_singleton.mpr rfl))]
/-- several names -/
def gNs : List Nat → List D → Rho → Option Rho
  | [], [], ρ => some ρ
  | i :: is, d :: ds, ρ => gNs is ds (ρ.set i (.dat d))
  | _, _, _ => none
def gT (is : List Nat) : MirG := fun d ρ => match d with
  | .tuple ds => gNs is ds ρ
  | _ => none
def gsOf (K : PySem.W.Frag) (is : List Nat) : TGs := fun vs σ H Q => ∃ S B ρ ds ρ', EnvOk K S B H σ ρ ∧ DqAll K (hid S H) vs ds ∧ gNs is ds ρ = some ρ' ∧ ∀ σ', EnvOk K S B H σ' ρ' → (∀ j, j ∉ is → σ'[j]? = σ[j]?) → σ'.length = σ.length → Q σ' H
theorem weakGs {tg : List Expr} {t t' : TGs} (h : PGs X tg t) (w : ∀ v σ H Q, t' v σ H Q → t v σ H Q) : PGs X tg t' := ⟨fun pins s σ H v u Q I r q => h.run pins s σ H v u Q I r (w v σ H Q q)⟩
theorem gs_nil : PGs X [] (gsOf X.K []) := weakGs pgs_nil fun vs σ H Q ⟨S, B, ρ, ds, ρ', E, p, e, k⟩ => by
  cases p with
  | nil =>
    cases e
    exact ⟨rfl, k σ E (fun _ _ => rfl) rfl⟩
  | cons _ _ => cases e
theorem gs_cons {i : Nat} {is : List Nat} {x : Str} {es : List Expr} (hr : PGs X es (gsOf X.K is)) (hN : X.N.Nodup) (hi : X.N[i]? = some x := by rfl) (hx : Loc X.env.scope x := by first | exact .inl rfl | exact .inr rfl) (hf : X.fn x = true ∨ X.env.scope.names.lookup x = some .local := by first | exact .inl rfl | exact .inr rfl | assumption) : PGs X (.Name x pos :: es) (gsOf X.K (i :: is)) :=
  weakGs (pgs_cons (pg_name (i := i) hN hi hx hf) hr) fun vs σ H Q ⟨S, B, ρ, ds, ρ', E, p, e, k⟩ => by
    cases p with
    | nil => cases e
    | cons a r =>
      have e : gNs is _ (ρ.set i (.dat _)) = some ρ' := e
      refine ⟨_, _, rfl, S, B, _, _, ρ', E.setD a, r, e, fun σ' E' q hl => k σ' E' (fun j hj => ?_) (hl.trans (List.length_set ..))⟩
      rw [q j fun z => hj (List.mem_cons_of_mem _ z), List.getElem?_set_ne (fun z => hj (by rw [z]; exact List.mem_cons_self))]
theorem gNs_len : ∀ {is : List Nat} {ds : List D} {ρ ρ' : Rho}, gNs is ds ρ = some ρ' → ds.length = is.length
  | [], [], _, _, _ => rfl
  | [], _ :: _, _, _, e => by cases e
  | _ :: _, [], _, _, e => by cases e
  | _ :: is, _ :: ds, _, _, e => by rw [List.length_cons, List.length_cons, gNs_len (is := is) (ds := ds) e]
theorem gd_tup {es : List Expr} {k : Nat} {is : List Nat} {y : Bool} (hc : X.calm = true) (h : PGs X es (gsOf X.K is)) (hn : (assignEach es X.env).length = is.length := by rfl) (hst : (assignEach es X.env).findIdx? (·.1) = none := by rfl) : PGD X y (.Tuple es k pos) is (gT is) :=
  weakG (pg_tup hc h hn hst) fun v σ H Q ⟨S, B, ρ, d, ρ', E, p, e, k⟩ => by
    unfold gT at e
    rcases p with p | ⟨_, a, vs, ds, e1, e2, q, r⟩
    rotate_left
    · subst e1 e2
      exact ⟨a, vs, rfl, (hid_same S H).seqT q, by rw [r.length]; exact gNs_len e, S, B, ρ, _, ρ', E, r, e, k⟩
    cases p with
    | tup q r => exact ⟨_, _, rfl, (hid_same S H).seqT q.sq, by rw [r.length]; exact gNs_len e, S, B, ρ, _, ρ', E, r, e, k⟩
    | non => cases e
    | bl _ => cases e
    | int _ => cases e
    | str _ => cases e
    | lst _ _ => cases e
/-- (a, b, ..) = e -/
def sAsg (f : Mir) (m : MirG) : MirS := fun ρ => (f ρ).bind fun d => (m d ρ).map Out.nx
theorem sd_asg {tg : Expr} {is : List Nat} {m : MirG} (he : PD X e f) (hg : PGD X false tg is m) (hs : swapsWithSole [tg] e pos.line X.env = pure false := by rfl) (hw : swappedStores [tg] e X.env = pure none := by rfl) (h1 : (assignEach [tg] X.env).map (·.2) = [assign tg X.env] := by rfl) : PSD X (.Assign [tg] e pos) (sAsg f m) :=
  weakS (ps_asg he hg hs hw h1) fun Dn σ H ⟨T, B, ρ, o, ⟨S, E⟩, e, k⟩ => by
    obtain ⟨d, e1, e2⟩ := bind_some e
    obtain ⟨ρ', e3, rfl⟩ := map_some e2
    exact ⟨S, B, ρ, d, E.env, e1, fun v H' s p => ⟨S, B, ρ, d, ρ', (E.step s).env, .inl p, e3, fun σ' E' _ _ => k σ' H' ⟨S, E', E.sup, E.inn, E.lim⟩⟩⟩
/-- a, b = e1, e2 -/
def sPar (i j : Nat) (r : MirA) : MirS := fun ρ => (r ρ).bind fun
  | [x, y] => some (.nx ((ρ.set i (.dat x)).set j (.dat y)))
  | _ => none
theorem sd_par {i j : Nat} {x y : Str} {a b : Expr} {r : MirA} {px py pt : Pos} {kt k2 pt2} (hc : X.calm = true) (hN : X.N.Nodup) (ha : PAD X [a, b] r) (hi : X.N[i]? = some x := by rfl) (hj : X.N[j]? = some y := by rfl) (hij : i ≠ j := by decide)
    (hx : X.env.scope.names.lookup x = some .local := by rfl) (hy : X.env.scope.names.lookup y = some .local := by rfl)
    (hw : swappedStores [.Tuple [.Name x px, .Name y py] kt pt] (.Tuple [a, b] k2 pt2) X.env = pure (some [x, y]) := by rfl)
    (hs : swapsWithSole [.Tuple [.Name x px, .Name y py] kt pt] (.Tuple [a, b] k2 pt2) pos.line X.env = pure false := by rfl) :
    PSD X (.Assign [.Tuple [.Name x px, .Name y py] kt pt] (.Tuple [a, b] k2 pt2) pos) (sPar i j r) :=
  weakS (ps_par hc hN hi hj hij hx hy ha hw hs) fun Dn σ H ⟨T, B, ρ, o, ⟨S, E⟩, e, k⟩ => by
    obtain ⟨ds, e1, e2⟩ := bind_some e
    split at e2
    · cases e2
      refine ⟨S, B, ρ, _, E.env, e1, fun vs H' s p => ?_⟩
      obtain ⟨v, w, rfl, q1, q2⟩ := two_of p
      exact ⟨v, w, rfl, k _ H' ⟨S, ((E.step s).setD q1).setD q2⟩⟩
    · cases e2
end
end Pu

set_option Elab.async false
set_option linter.all false
set_option autoImplicit false
set_option maxRecDepth 100000
/-! enumerate(a tuple) -/
namespace Pu
open PySem PySem.Spec PyProof.Rows L2
set_option maxHeartbeats 1000000 in
theorem enum_newT {v : Value} {o : Obj} {G : Heap → Prop} (B : Begins v o G) :
    Meets (Builtin.«enumerate.__new__» ⟨[.type "enumerate", v], []⟩) (fun _ R s => G s.heap ∧ R (.ok (.ret (.ref (s.heap.push o).objs.size)))
      { s with heap := (s.heap.push o).push { cls := .type "enumerate", data := .fields #[.none, .bool false, .ref s.heap.objs.size, rawInt 0, .none, .none] } }) :=
  .of_wp fun prog w A R s h => by
    obtain ⟨hp, g, d, tk, os⟩ := s
    obtain ⟨h1, h⟩ := h
    have hsub := sub_enumerate
    have step : ∀ {A' : Around} {E : Value → Shared → Prop} {Q : Value → Shared → Prop}, Q (.ref hp.objs.size) ⟨hp.push o, g, d, tk, os⟩ → wpAny (model prog w) A' (pyIter v) Q E ⟨hp, g, d, tk, os⟩ := fun q => B.iter prog w _ _ ⟨hp, g, d, tk, os⟩ _ h1 q
    wp_walk using step
    refine wpAny_stack_any fun st => wpAny_pure ?_
    split
    · rename_i c _ _ _ _ _
      cases (c == Value.type "enumerate") <;> (wp_walk using step; exact ⟨_, rfl, h⟩)
    · wp_walk using step
      exact ⟨_, rfl, h⟩
theorem call_enumT {prog : Program} {w : World} {A : Around} {E : Value → Shared → Prop} {s : Shared} {v : Value} {o : Obj} {G : Heap → Prop} {Q : Value → Shared → Prop} (B : Begins v o G) (hG : G s.heap)
    (h : ∀ h', IsEnum h' (s.heap.objs.size + 1) s.heap.objs.size 0 .none → h'.get? s.heap.objs.size = some o → (∀ b ob, s.heap.get? b = some ob → h'.get? b = some ob) → Q (.ref (s.heap.objs.size + 1)) { s with heap := h' }) :
    wpAny (model prog w) A (call (.type "enumerate") [v]) Q E s := by
  refine callType_new F.called_enumerate (by decide) (F.typeCall_enumerate_1 _) (F.newCall_enumerate_1 _) (fun obj => F.args_object_init_2 obj _) F.entry_enumerate_new (enum_newT B) ⟨hG, ?_⟩
  have hz : (s.heap.push o).objs.size = s.heap.objs.size + 1 := Heap.size_push ..
  show _ ∧ _
  rw [hz]
  have q := Heap.get?_push_size (s.heap.push o) (o := { cls := .type "enumerate", data := .fields #[.none, .bool false, .ref s.heap.objs.size, rawInt 0, .none, .none] }) rfl
  rw [hz] at q
  exact ⟨⟨_, q, rfl⟩, h _ q (Heap.get?_push_of_some _ (Heap.get?_push_size _ B.free)) fun b ob x => Heap.get?_push_of_some _ (Heap.get?_push_of_some _ x)⟩
/-- the tuple at a, its items in new pairs with their places -/
def ItE (K : PySem.W.Frag) (a : Addr) : It :=
  ⟨fun i H => ∃ (xs : List V) (x : V), SqT K H a xs ∧ xs[i]? = some x, fun i H v H' => ∃ T x, v = .ref T ∧ H T = none ∧ H' = upd H T (.tup [.int (i : Nat), x]) ∧ ∀ xs, SqT K H a xs → xs[i]? = some x, fun i H => ∃ xs : List V, SqT K H a xs ∧ xs.length = i⟩
theorem turn_enumT {P : Program} {w : World} {K : PySem.W.Frag} {elts : List Expr} {kk : Nat} {tpos : Pos} (a e it : Addr) (hai : a ≠ it) (hae : a ≠ e) :
    Turn P w K (.Tuple elts kk tpos) (ItE K a) [e, it] e (fun i h => (∃ old, IsEnum h e it ((i : Nat) : Int) old) ∧ h.IsTupleIter it a i ∧ e ≠ it) where
  mem := by simp
  obj := fun i h st b hb => by
    obtain ⟨⟨old, he⟩, ⟨o, ho, hc, hd⟩, _⟩ := st
    rcases (by simpa using hb : b = e ∨ b = it) with z | z
    · subst z
      exact ⟨_, he, fun v q => nomatch q⟩
    · subst z
      exact ⟨o, ho, fun v q => by rw [hd] at q; cases q⟩
  keep := fun i h h' st k => let ⟨⟨old, he⟩, hi, hne⟩ := st; ⟨⟨old, k e (by simp) _ he⟩, hi.at fun o q => k it (by simp) o q, hne⟩
  item := by
    intro X hP hw hK hc i pins s σ H E I hf st hg
    subst hP hw hK
    obtain ⟨⟨old, he⟩, hit, hne⟩ := st
    obtain ⟨xs, x, hq, hx⟩ := hg
    obtain ⟨its, rv, pT, hz⟩ := I.tuple hq
    obtain ⟨u, hu, ru⟩ := rv.get hx
    have hel : e < s.heap.objs.size := Heap.lt_size he
    have hil : it < s.heap.objs.size := by obtain ⟨_, q, _⟩ := hit; exact Heap.lt_size q
    have isT : s.heap.IsTuple a its.toArray := let ⟨o, ho, hc, n, hd⟩ := pT; ⟨o, ho, hc, n, hd⟩
    have hlt : i < its.toArray.size := by
      have q := (List.getElem?_eq_some_iff.mp hu).1
      rw [List.size_toArray]
      exact q
    refine wpAny_pyNext_enum_itemD (Draws.tuple (A := X.A.in1) (I.ok.hd hc) it a hai its.toArray) he ⟨hit, isT⟩ hlt hne (by simp [hne, Ne.symm hae]) fun y h' tk py ho st' hT hsz hk => ?_
    have ey : y = u := by
      have q : its.toArray[i]? = some u := by simpa using hu
      exact Option.some.inj (py.symm.trans q)
    subst ey
    refine ⟨_, rfl, wpAny_letOwnedTupleGo_enum (s := { s with heap := h', toks := tk + 1 }) ho fun h'' he' sb => ?_⟩
    have hT2 : h''.get? s.heap.objs.size = some { cls := .type "tuple", data := .seq #[.int i tk, y] } := (sb.2 _ (Nat.ne_of_gt hel)).trans hT
    have new : ObjOk X.prog X.w (upd H s.heap.objs.size (.tup [.int (i : Nat), x])) h'' s.heap.objs.size (.tup [.int (i : Nat), x]) :=
      ⟨by show 2 ≤ sizeLine; decide, [.int i tk, y], .cons ⟨_, rfl⟩ (.cons ru .nil), ⟨_, hT2, rfl, _, rfl⟩⟩
    have I1 : Inv X pins σ (upd H s.heap.objs.size (.tup [.int (i : Nat), x])) { s with heap := h'', toks := tk + 1 } :=
      I.turnedNew (ch := [e, it]) (fun b ob hb q => (sb.2 b (fun z => hb (by simp [z]))).trans (hk b ob (fun z => hb (by simp [z])) (fun z => hb (by simp [z])) q)) hf (Nat.le_refl _) new
    refine ⟨.ref s.heap.objs.size, _, I1, rfl, ⟨_, x, rfl, I.hok.fresh (Nat.le_refl _), rfl, fun ys hy => by rw [I.tuple_inj hy hq]; exact hx⟩, ⟨⟨y, ?_⟩, st'.1.at fun o q => (sb.2 it (Ne.symm hne)).trans q, hne⟩, fun b hb => ?_⟩
    · rw [show ((i + 1 : Nat) : Int) = (i : Int) + 1 by omega]
      exact he'
    · have hb' : b < s.heap.objs.size := by
        rcases (by simpa using hb : b = e ∨ b = it) with z | z <;> (rw [z]; assumption)
      rw [upd_ne (Nat.ne_of_lt hb')]
      exact (hf b hb).1
  done := by
    intro X hP hw hK hc i pins s σ H E I hf st hg
    subst hP hw hK
    obtain ⟨⟨old, he⟩, hit, hne⟩ := st
    obtain ⟨xs, hq, hx⟩ := hg
    obtain ⟨its, rv, pT, hz⟩ := I.tuple hq
    have isT : s.heap.IsTuple a its.toArray := let ⟨o, ho, hc, n, hd⟩ := pT; ⟨o, ho, hc, n, hd⟩
    obtain ⟨f0, f1, f2, f3, f4, f5⟩ := hf it (by simp)
    have hn : its.toArray.size = i := by rw [List.size_toArray, ← rv.length]; exact hx
    exact wpAny_pyNext_enum_endD (Draws.tuple (A := X.A.in1) (I.ok.hd hc) it a hai its.toArray) he (by rw [hn]; exact ⟨hit, isT⟩) fun h' eb => ⟨rfl, I.turned (t' := s.toks) (fun b o hb q => eb b o hb q) f0 f1 f3 f4 f5⟩
  self := fun A i s Q E st h => let ⟨⟨_, he⟩, _⟩ := st; wpAny_pyIter_enum he h
def iEnumT (K : PySem.W.Frag) (ta : TA) : TI := fun σ H R => ta σ H fun vs H1 => ∃ a xs, vs = [.ref a] ∧ SqT K H1 a xs ∧ R (ItE K a) H1
theorem pi_enumT {X : Cx} {e : Expr} {ta : TA} {p pos tpos : Pos} {elts : List Expr} {kk : Nat} (hg : Gl X "enumerate") (hm : X.mg "enumerate" = none) (ha : PA X [e] ta) (hs : starEach [e] X.env = [(false, eval e X.env)] := by rfl) :
    PI X (.Tuple elts kk tpos) (.Call (.Name "enumerate" p) [e] [] pos) (iEnumT X.K ta) := by
  refine ⟨fun pins s σ H R I h => ?_⟩
  refine Call_ (ld_blt I hg hm boot_enumerate (PyProof.Rows.callWith_type1 (thn (ha.run pos pins s σ H _ I h) fun us s1 ⟨vs, H1, I1, r1, q1⟩ => ?_) hs rfl))
  obtain ⟨a, xs, ex, hq, q⟩ := q1
  subst ex
  cases r1 with
  | cons r rr =>
    cases rr
    cases r
    obtain ⟨its, rv, pT, hz⟩ := I1.tuple hq
    have isT : s1.heap.IsTuple a its.toArray := let ⟨o, ho, hc, n, hd⟩ := pT; ⟨o, ho, hc, n, hd⟩
    have hal : a < s1.heap.objs.size := pT.lt
    refine call_enumT (begins_tuple a its.toArray) isT fun h' he hit hk => wpAny_pyIter_enum he ?_
    have I2 : Inv X pins σ H1 { s1 with heap := h' } := I1.kept (t' := s1.toks) hk
    refine ⟨s1.heap.objs.size + 1, [s1.heap.objs.size + 1, s1.heap.objs.size], _, _, H1, rfl, I2, turn_enumT a (s1.heap.objs.size + 1) s1.heap.objs.size (Nat.ne_of_lt hal) (Nat.ne_of_lt (Nat.lt_succ_of_lt hal)), ⟨⟨.none, he⟩, ⟨_, hit, rfl, rfl⟩, Nat.succ_ne_self _⟩, fun b hb => ?_, q⟩
    have hle : s1.heap.objs.size ≤ b := by
      rcases (by simpa using hb : b = s1.heap.objs.size + 1 ∨ b = s1.heap.objs.size) with z | z
      · rw [z]; exact Nat.le_add_right _ _
      · rw [z]; exact Nat.le_refl _
    exact I1.fpOk hle (I1.hok.fresh hle)
end Pu

set_option Elab.async false
set_option linter.all false
set_option autoImplicit false
set_option maxRecDepth 100000
namespace Pu
open PySem PySem.Spec PyProof.Rows L2
/-! ### what is walked -/
/-- the iterator J gives the data ds, one after another, whatever heap stands above F -/
def Yld (K : PySem.W.Frag) (y : Bool) (F : Hp) (J : It) (ds : List D) : Prop :=
  ∀ H2, Same F H2 → ∀ i : Nat, (∀ d, ds[i]? = some d → J.go i H2 ∧ ∀ x H', J.yld i H2 x H' → Same H2 H' ∧ ∃ G : Hp, (∀ b o, G b = some o → H' b = some o ∧ (F b = some o ∨ H2 b = none)) ∧ Dy K y G x d) ∧ (ds.length = i → J.stop i H2)
abbrev MirI := Rho → Option (List D)
def tiOf (K : PySem.W.Frag) (y : Bool) (f : MirI) : TI := fun σ H R => ∃ S B ρ ds, EnvOk K S B H σ ρ ∧ f ρ = some ds ∧ ∀ J H1, Same H H1 → Yld K y (hid S H1) J ds → R J H1
abbrev PID (X : Cx) (y : Bool) (tg e : Expr) (f : MirI) : Prop := PI X tg e (tiOf X.K y f)
theorem Yld.same {K : PySem.W.Frag} {F H2 H' : Hp} {x : V} {d : D} (p : Dq K F x d) (f : Same F H2) (e : H' = H2) : Same H2 H' ∧ ∃ G : Hp, (∀ b o, G b = some o → H' b = some o ∧ (F b = some o ∨ H2 b = none)) ∧ Dy K false G x d := by
  subst e
  exact ⟨Same.refl _, F, fun b o q => ⟨f b o q, .inl q⟩, .inl p⟩
theorem Yld.flat {K : PySem.W.Frag} {F H2 H' : Hp} {x : V} {d : D} (p : ∀ G : Hp, Dq K G x d) (e : H' = H2) : Same H2 H' ∧ ∃ G : Hp, (∀ b o, G b = some o → H' b = some o ∧ (F b = some o ∨ H2 b = none)) ∧ Dy K false G x d := by
  subst e
  exact ⟨Same.refl _, (fun _ => none), (fun b o (q : (none : Option HO) = some o) => nomatch q), .inl (p _)⟩
theorem Yld.pair {K : PySem.W.Frag} {F H2 : Hp} {T : Addr} {vs : List V} {ds : List D} (p : DqAll K F vs ds) (f : Same F H2) (hT : H2 T = none) : Same H2 (upd H2 T (.tup vs)) ∧ ∃ G : Hp, (∀ b o, G b = some o → upd H2 T (.tup vs) b = some o ∧ (F b = some o ∨ H2 b = none)) ∧ Dy K true G (.ref T) (.tuple ds) := by
  have fT : F T = none := f.free hT
  refine ⟨same_upd hT, upd F T (.tup vs), fun b o q => ?_, .inr ⟨rfl, T, vs, ds, rfl, rfl, SqT.of upd_same, p.mono (same_upd fT)⟩⟩
  by_cases hb : b = T
  · subst hb
    rw [upd_same] at q ⊢
    exact ⟨q, .inr hT⟩
  · rw [upd_ne hb] at q ⊢
    exact ⟨f b o q, .inl q⟩
section
variable {X : Cx} {K : PySem.W.Frag} {tg e : Expr} {f g : Mir} {pos : Pos}
def itemsD : D → Option (List D)
  | .list xs => some xs
  | .tuple xs => some xs
  | .str z => some (z.cps.toList.map fun c => PyData.str (sgn c))
  | _ => none
def iAny (K : PySem.W.Frag) (tl : TE) : TI := fun σ H R => tl σ H fun x H1 => (∃ a xs, x = .ref a ∧ SqL K H1 a xs ∧ R (Itl K a) H1) ∨ (∃ a xs, x = .ref a ∧ SqT K H1 a xs ∧ R (Itt K a) H1) ∨ ∃ z, x = .str z ∧ R (Its z) H1
theorem pi_any {tl : TE} (hl : PE X e tl) : PI X tg e (iAny X.K tl) := ⟨fun pins s σ H R I h => thn (hl.run pins s σ H _ I h) fun v s1 ⟨x, H1, I1, r1, q1⟩ => by
  rcases q1 with ⟨a, xs, ex, hq, q⟩ | ⟨a, xs, ex, hq, q⟩ | ⟨z, ex, q⟩
  · subst ex
    cases r1
    obtain ⟨its, rv, p, hz⟩ := I1.list hq
    exact wpAny_pyIter_list p.isList (pi_one (tk := s1.toks) I1 _ (turn_list a _) ⟨_, Heap.get?_push_size _ rfl, rfl, rfl⟩ q)
  · subst ex
    cases r1
    obtain ⟨its, rv, p, hz⟩ := I1.tuple hq
    exact wpAny_pyIter_tuple (show s1.heap.IsTuple a its.toArray from p) (pi_one (tk := s1.toks) I1 _ (turn_tuple a _) ⟨_, Heap.get?_push_size _ rfl, rfl, rfl⟩ q)
  · subst ex
    obtain ⟨t, rfl⟩ := r1
    cases ha : z.cps.all (· < 128)
    · exact wpAny_pyIter_wide ha (pi_one (tk := s1.toks) I1 _ (turn_str _ z t "str_iterator" (.inr rfl)) ⟨_, Heap.get?_push_size _ rfl, rfl, rfl⟩ q)
    · exact wpAny_pyIter_ascii ha (pi_one (tk := s1.toks) I1 _ (turn_str _ z t "str_ascii_iterator" (.inl rfl)) ⟨_, Heap.get?_push_size _ rfl, rfl, rfl⟩ q)⟩
def iD (f : Mir) : MirI := fun ρ => (f ρ).bind itemsD
theorem yld_list {F H : Hp} {a : Addr} {vs : List V} {ds : List D} (q : SqL K F a vs) (r : DqAll K F vs ds) : Yld K false F (Itl K a) ds := fun H2 s i => by
  refine ⟨fun d hd => ?_, fun hi => ⟨vs, s.seq q, by rw [r.length]; exact Nat.le_of_eq hi⟩⟩
  obtain ⟨v, hv, p⟩ := r.get hd
  refine ⟨⟨vs, v, s.seq q, hv⟩, fun x H' ⟨e, y⟩ => ?_⟩
  have ex : x = v := Option.some.inj ((y vs (s.seq q)).symm.trans hv)
  subst ex
  exact Yld.same p s e
theorem yld_tup {F H : Hp} {a : Addr} {vs : List V} {ds : List D} (q : SqT K F a vs) (r : DqAll K F vs ds) : Yld K false F (Itt K a) ds := fun H2 s i => by
  refine ⟨fun d hd => ?_, fun hi => ⟨vs, s.seqT q, by rw [r.length]; exact Nat.le_of_eq hi⟩⟩
  obtain ⟨v, hv, p⟩ := r.get hd
  refine ⟨⟨vs, v, s.seqT q, hv⟩, fun x H' ⟨e, y⟩ => ?_⟩
  have ex : x = v := Option.some.inj ((y vs (s.seqT q)).symm.trans hv)
  subst ex
  exact Yld.same p s e
theorem yld_str {F : Hp} (z : Str) : Yld K false F (Its z) (z.cps.toList.map fun c => PyData.str (sgn c)) := fun H2 s i => by
  refine ⟨fun d hd => ?_, fun hi => ?_⟩
  · rw [List.getElem?_map] at hd
    cases q : z.cps.toList[i]? with
    | none =>
      rw [q] at hd
      cases hd
    | some c =>
      rw [q] at hd
      cases hd
      have q2 : z.cps[i]? = some c := by rw [← Array.getElem?_toList]; exact q
      refine ⟨(Array.getElem?_eq_some_iff.mp q2).1, fun x H' ⟨e, c', hc', ex⟩ => ?_⟩
      rw [q2] at hc'
      cases hc'
      subst ex
      exact Yld.flat (fun G => .str _) e
  · rw [List.length_map, Array.length_toList] at hi
    exact Nat.le_of_eq hi
theorem id_any (h : PD X e f) : PID X false tg e (iD f) := weakI (pi_any h) fun σ H R ⟨S, B, ρ, ds, E, e, k⟩ => by
  obtain ⟨d, e1, e2⟩ := bind_some e
  refine ⟨S, B, ρ, d, E, e1, fun v H1 s1 p1 => ?_⟩
  cases p1 <;> try (cases e2; done)
  · cases e2
    exact .inr (.inr ⟨_, rfl, k _ H1 s1 (yld_str _)⟩)
  · rename_i a xs ds' q r
    cases e2
    exact .inl ⟨a, xs, rfl, (hid_same S H1).seq q, k _ H1 s1 (yld_list (H := H) q r)⟩
  · rename_i a xs ds' q r
    cases e2
    exact .inr (.inl ⟨a, xs, rfl, (hid_same S H1).seqT q.sq, k _ H1 s1 (yld_tup (H := H) q.sq r)⟩)
/-- range(n), range(a, b) -/
def rgD (lo : Int) (n : Nat) : List D := (List.range n).map fun (i : Nat) => PyData.int (lo + (i : Int))
def ilim : Int := 2 ^ 62
def iR1 (r : MirA) : MirI := fun ρ => (r ρ).bind fun
  | [.int j] => if -ilim ≤ j ∧ j < ilim then some (rgD 0 j.toNat) else none
  | _ => none
def iR2 (r : MirA) : MirI := fun ρ => (r ρ).bind fun
  | [.int i, .int j] => if -ilim ≤ i ∧ i < ilim ∧ -ilim ≤ j ∧ j < ilim then some (rgD i (j - i).toNat) else none
  | _ => none
theorem yld_rng {F : Hp} (lo : Int) (n : Nat) : Yld K false F (Itr lo n) (rgD lo n) := fun H2 s i => by
  refine ⟨fun d hd => ?_, fun hi => ?_⟩
  · unfold rgD at hd
    rw [List.getElem?_map] at hd
    cases q : (List.range n)[i]? with
    | none =>
      rw [q] at hd
      cases hd
    | some c =>
      rw [q] at hd
      cases hd
      obtain ⟨hl, ec⟩ := List.getElem?_eq_some_iff.mp q
      rw [List.length_range] at hl
      rw [List.getElem_range] at ec
      subst ec
      refine ⟨hl, fun x H' ⟨e, ex⟩ => ?_⟩
      subst ex
      exact Yld.flat (fun G => .int _) e
  · unfold rgD at hi
    rw [List.length_map, List.length_range] at hi
    exact Nat.le_of_eq hi
theorem id_range1 {a : Expr} {r : MirA} {p : Pos} (hg : Gl X "range") (hm : X.mg "range" = none) (ha : PAD X [a] r) (hs : starEach [a] X.env = [(false, eval a X.env)] := by rfl) : PID X false tg (.Call (.Name "range" p) [a] [] pos) (iR1 r) :=
  weakI (pi_range1 hg hm ha hs) fun σ H R ⟨S, B, ρ, ds, E, e, k⟩ => by
    obtain ⟨xs, e1, e2⟩ := bind_some e
    split at e2
    · obtain ⟨c, rfl⟩ := ite_some e2
      refine ⟨S, B, ρ, _, E, e1, fun vs H1 s1 p1 => ?_⟩
      obtain ⟨v, rfl, q⟩ := one_of p1
      cases q
      exact ⟨_, rfl, c.1, c.2, k _ H1 s1 (yld_rng _ _)⟩
    · cases e2
theorem id_range2 {a b : Expr} {r : MirA} {p : Pos} (hg : Gl X "range") (hm : X.mg "range" = none) (ha : PAD X [a, b] r) (hs : starEach [a, b] X.env = [(false, eval a X.env), (false, eval b X.env)] := by rfl) (hs2 : starEach [b] X.env = [(false, eval b X.env)] := by rfl) : PID X false tg (.Call (.Name "range" p) [a, b] [] pos) (iR2 r) :=
  weakI (pi_range2 hg hm ha hs hs2) fun σ H R ⟨S, B, ρ, ds, E, e, k⟩ => by
    obtain ⟨xs, e1, e2⟩ := bind_some e
    split at e2
    · obtain ⟨c, rfl⟩ := ite_some e2
      refine ⟨S, B, ρ, _, E, e1, fun vs H1 s1 p1 => ?_⟩
      obtain ⟨v, w, rfl, q1, q2⟩ := two_of p1
      cases q1
      cases q2
      exact ⟨_, _, rfl, ⟨c.1, c.2.1, c.2.2.1, c.2.2.2⟩, k _ H1 s1 (yld_rng _ _)⟩
    · cases e2
/-- enumerate(a tuple) -/
def enD : Nat → List D → List D
  | _, [] => []
  | i, d :: ds => .tuple [.int (i : Nat), d] :: enD (i + 1) ds
theorem enD_get : ∀ (n : Nat) (ds : List D) (i : Nat), (enD n ds)[i]? = (ds[i]?).map fun d => PyData.tuple [.int ((n + i : Nat) : Int), d]
  | n, [], i => by simp [enD]
  | n, d :: ds, 0 => by simp [enD]
  | n, d :: ds, i + 1 => by
    rw [enD, List.getElem?_cons_succ, List.getElem?_cons_succ, enD_get (n + 1) ds i]
    rw [show n + 1 + i = n + (i + 1) by omega]
theorem enD_len : ∀ (n : Nat) (ds : List D), (enD n ds).length = ds.length
  | _, [] => rfl
  | n, d :: ds => by rw [enD, List.length_cons, List.length_cons, enD_len]
def iEn (r : MirA) : MirI := fun ρ => (r ρ).bind fun
  | [.tuple xs] => some (enD 0 xs)
  | _ => none
theorem yld_enT {F : Hp} {a : Addr} {vs : List V} {ds : List D} (q : SqT K F a vs) (r : DqAll K F vs ds) : Yld K true F (ItE K a) (enD 0 ds) := fun H2 s i => by
  refine ⟨fun d hd => ?_, fun hi => ⟨vs, s.seqT q, by rw [r.length, ← hi, enD_len]⟩⟩
  rw [enD_get, Nat.zero_add] at hd
  obtain ⟨x, hx, rfl⟩ := map_some hd
  obtain ⟨v, hv, p⟩ := r.get hx
  refine ⟨⟨vs, v, s.seqT q, hv⟩, fun y H' ⟨T, z, ey, hT, eH, hz⟩ => ?_⟩
  have ez : z = v := Option.some.inj ((hz vs (s.seqT q)).symm.trans hv)
  subst ez ey eH
  exact Yld.pair (.cons (.int _) (.one p)) s hT
theorem id_enum {a : Expr} {r : MirA} {p tpos : Pos} {elts : List Expr} {kk : Nat} (hg : Gl X "enumerate") (hm : X.mg "enumerate" = none) (ha : PAD X [a] r) (hs : starEach [a] X.env = [(false, eval a X.env)] := by rfl) : PID X true (.Tuple elts kk tpos) (.Call (.Name "enumerate" p) [a] [] pos) (iEn r) :=
  weakI (pi_enumT hg hm ha hs) fun σ H R ⟨S, B, ρ, ds, E, e, k⟩ => by
    obtain ⟨xs, e1, e2⟩ := bind_some e
    split at e2
    · cases e2
      refine ⟨S, B, ρ, _, E, e1, fun vs H1 s1 p1 => ?_⟩
      obtain ⟨v, rfl, q⟩ := one_of p1
      cases q with
      | tup q r => exact ⟨_, _, rfl, (hid_same S H1).seqT q.sq, k _ H1 s1 (yld_enT q.sq r)⟩
    · cases e2
/-- zip of two lists, of two tuples -/
def zipD : List D → List D → List D
  | x :: xs, y :: ys => .tuple [x, y] :: zipD xs ys
  | _, _ => []
theorem zipD_get : ∀ (xs ys : List D) (i : Nat) (d : D), (zipD xs ys)[i]? = some d → ∃ x y, xs[i]? = some x ∧ ys[i]? = some y ∧ d = .tuple [x, y]
  | x :: xs, y :: ys, 0, d, h => by
    rw [zipD, List.getElem?_cons_zero] at h
    cases h
    exact ⟨x, y, rfl, rfl, rfl⟩
  | x :: xs, y :: ys, i + 1, d, h => by
    rw [zipD, List.getElem?_cons_succ] at h
    exact zipD_get xs ys i d h
  | [], _, i, d, h => by simp [zipD] at h
  | _ :: _, [], i, d, h => by simp [zipD] at h
theorem zipD_len : ∀ (xs ys : List D), (zipD xs ys).length = xs.length ∨ (zipD xs ys).length = ys.length
  | x :: xs, y :: ys => by
    rw [zipD, List.length_cons, List.length_cons, List.length_cons]
    rcases zipD_len xs ys with h | h <;> omega
  | [], _ => .inl (by simp [zipD])
  | _ :: _, [] => .inr (by simp [zipD])
def iZp (r : MirA) : MirI := fun ρ => (r ρ).bind fun
  | [.tuple xs, .tuple ys] => some (zipD xs ys)
  | [.list xs, .list ys] => some (zipD xs ys)
  | _ => none
theorem yld_zipT {F : Hp} {a b : Addr} {vs ws : List V} {ds es : List D} (q : SqT K F a vs) (r : DqAll K F vs ds) (q' : SqT K F b ws) (r' : DqAll K F ws es) : Yld K true F (RZ.ItzT K a b) (zipD ds es) := fun H2 s i => by
  refine ⟨fun d hd => ?_, fun hi => ⟨vs, ws, s.seqT q, s.seqT q', ?_⟩⟩
  · obtain ⟨x, y, hx, hy, rfl⟩ := zipD_get _ _ _ _ hd
    obtain ⟨v, hv, p⟩ := r.get hx
    obtain ⟨w, hw, p'⟩ := r'.get hy
    refine ⟨⟨vs, ws, v, w, s.seqT q, s.seqT q', hv, hw⟩, fun z H' ⟨T, v', w', ez, hT, eH, h1, h2⟩ => ?_⟩
    have e1 : v' = v := Option.some.inj ((h1 vs (s.seqT q)).symm.trans hv)
    have e2 : w' = w := Option.some.inj ((h2 ws (s.seqT q')).symm.trans hw)
    subst e1 e2 ez eH
    exact Yld.pair (.cons p (.one p')) s hT
  · rw [r.length, r'.length]
    rcases zipD_len ds es with h | h <;> omega
theorem yld_zipL {F : Hp} {a b : Addr} {vs ws : List V} {ds es : List D} (q : SqL K F a vs) (r : DqAll K F vs ds) (q' : SqL K F b ws) (r' : DqAll K F ws es) : Yld K true F (Itz K a b) (zipD ds es) := fun H2 s i => by
  refine ⟨fun d hd => ?_, fun hi => ⟨vs, ws, s.seq q, s.seq q', ?_⟩⟩
  · obtain ⟨x, y, hx, hy, rfl⟩ := zipD_get _ _ _ _ hd
    obtain ⟨v, hv, p⟩ := r.get hx
    obtain ⟨w, hw, p'⟩ := r'.get hy
    refine ⟨⟨vs, ws, v, w, s.seq q, s.seq q', hv, hw⟩, fun z H' ⟨T, v', w', ez, hT, eH, h1, h2⟩ => ?_⟩
    have e1 : v' = v := Option.some.inj ((h1 vs (s.seq q)).symm.trans hv)
    have e2 : w' = w := Option.some.inj ((h2 ws (s.seq q')).symm.trans hw)
    subst e1 e2 ez eH
    exact Yld.pair (.cons p (.one p')) s hT
  · rw [r.length, r'.length]
    rcases zipD_len ds es with h | h <;> omega
theorem id_zip {a b : Expr} {r : MirA} {p tpos : Pos} {elts : List Expr} {kk : Nat} (hg : Gl X "zip") (hm : X.mg "zip" = none) (ha : PAD X [a, b] r) (hs : starEach [a, b] X.env = (false, eval a X.env) :: starEach [b] X.env := by rfl) (hpl : (backTo pos (starEach [b] X.env)).any (·.1) = false := by rfl) : PID X true (.Tuple elts kk tpos) (.Call (.Name "zip" p) [a, b] [] pos) (iZp r) :=
  weakI (RZ.pi_zipA hg hm ha hs hpl) fun σ H R ⟨S, B, ρ, ds, E, e, k⟩ => by
    obtain ⟨xs, e1, e2⟩ := bind_some e
    split at e2
    · cases e2
      refine ⟨S, B, ρ, _, E, e1, fun vs H1 s1 p1 => ?_⟩
      obtain ⟨v, w, rfl, q1, q2⟩ := two_of p1
      cases q1 with
      | tup q r =>
        cases q2 with
        | tup q' r' => exact ⟨_, _, _, _, rfl, .inr ⟨(hid_same S H1).seqT q.sq, (hid_same S H1).seqT q'.sq, k _ H1 s1 (yld_zipT q.sq r q'.sq r')⟩⟩
    · cases e2
      refine ⟨S, B, ρ, _, E, e1, fun vs H1 s1 p1 => ?_⟩
      obtain ⟨v, w, rfl, q1, q2⟩ := two_of p1
      cases q1 with
      | lst q r =>
        cases q2 with
        | lst q' r' => exact ⟨_, _, _, _, rfl, .inl ⟨(hid_same S H1).seq q, (hid_same S H1).seq q', k _ H1 s1 (yld_zipL q r q' r')⟩⟩
    · cases e2
/-! ### for -/
def sLoop (g : MirG) (F : MirS) : List D → Rho → Option Out
  | [], ρ => some (.nx ρ)
  | d :: ds, ρ => (g d ρ).bind fun ρ1 => (F ρ1).bind fun
    | .nx ρ2 => sLoop g F ds ρ2
    | .ct ρ2 => sLoop g F ds ρ2
    | .bk ρ2 => some (.nx ρ2)
    | .rt d => some (.rt d)
def sFor (fi : MirI) (g : MirG) (F : MirS) : MirS := fun ρ => (fi ρ).bind fun ds => sLoop g F ds ρ
/-- a heap's part that stays through the loop -/
noncomputable def Base.up {S T : Addr → Prop} {B : Base} {H : Hp} (sb : Same B.hi (hid (fun a => S a ∧ ¬ T a) H)) : Base := ⟨B.lo, hid (fun a => S a ∧ ¬ T a) H, B.le.trans sb, B.pin, B.tab, B.tabM⟩
theorem StOk.same {S T : Addr → Prop} {B : Base} {H : Hp} {σ : L2.St} {ρ : Rho} (E : StOk K S T B H σ ρ) : Same B.hi (hid (fun a => S a ∧ ¬ T a) H) := fun b o q => by
  refine hid_of (fun ⟨z1, z2⟩ => ?_) (E.env.base b o q)
  rcases E.lim b z1 with z | z
  · exact z2 z
  · rw [z] at q
    cases q
theorem StOk.loop {S T : Addr → Prop} {B : Base} {H : Hp} {σ : L2.St} {ρ : Rho} (E : StOk K S T B H σ ρ) : StOk K S T (Base.up E.same) H σ ρ := by
  have nb : ∀ a, S a → B.hi a = none → hid (fun a => S a ∧ ¬ T a) H a = none := fun a sa ba => by
    cases q : hid (fun a => S a ∧ ¬ T a) H a with
    | none => rfl
    | some o => exact absurd ⟨sa, fun ta => E.inn a ta ba⟩ (of_hid q).1
  refine ⟨⟨E.env.len, E.env.sub, hid_same _ _, fun i x h => ?_, E.env.apart, E.env.tab⟩, E.sup, fun a ta => ?_, fun a sa => ?_⟩
  · have q := E.env.slot i x h
    cases x with
    | no => cases (σ[i]?.getD none) <;> trivial
    | dat d => cases hσ : (σ[i]?.getD none) <;> rw [hσ] at q <;> exact q
    | own ds =>
      cases hσ : (σ[i]?.getD none) with
      | none => rw [hσ] at q; exact q
      | some v =>
        rw [hσ] at q
        obtain ⟨a, vs, e1, e2, e3, e4, e5⟩ := q
        exact ⟨a, vs, e1, e2, nb a e2 e3, e4, e5⟩
    | dic kvs =>
      cases hσ : (σ[i]?.getD none) with
      | none => rw [hσ] at q; exact q
      | some v =>
        rw [hσ] at q
        obtain ⟨a, vs, e1, e2, e3, e4, e5⟩ := q
        exact ⟨a, vs, e1, e2, nb a e2 e3, e4, e5⟩
    | mu kvs =>
      cases hσ : (σ[i]?.getD none) with
      | none => rw [hσ] at q; exact q
      | some v =>
        rw [hσ] at q
        obtain ⟨a, vs, e1, e2, e3, e4, e5, e6⟩ := q
        exact ⟨a, vs, e1, e2, nb a e2 e3, e4, e5, e6⟩
    | bor kvs => cases hσ : (σ[i]?.getD none) <;> rw [hσ] at q <;> exact q
    | dtab P q' d =>
      cases hσ : (σ[i]?.getD none) with
      | none => rw [hσ] at q; exact q
      | some v =>
        rw [hσ] at q
        exact ⟨q.1, q.2.1, nb P q.2.1 q.2.2.1, q.2.2.2⟩
  · cases q : B.hi a with
    | none => exact absurd q (E.inn a ta)
    | some o =>
      show hid (fun a => S a ∧ ¬ T a) H a ≠ none
      rw [E.same a o q]
      exact fun z => nomatch z
  · by_cases ta : T a
    · exact .inl ta
    · refine .inr ?_
      show hid (fun a => S a ∧ ¬ T a) H a = none
      cases q : hid (fun a => S a ∧ ¬ T a) H a with
      | none => rfl
      | some o => exact absurd ⟨sa, ta⟩ (of_hid q).1
/-- back to the smaller base -/
theorem StE.back {T : Addr → Prop} {B B' : Base} {H : Hp} {σ : L2.St} {ρ : Rho} (E : StE K T B' H σ ρ) (el : B'.lo = B.lo) (ep : B'.pin = B.pin) (et : B'.tab = B.tab) (sb : Same B.hi B'.hi) (hT : ∀ a, T a → B.hi a ≠ none) : StE K T B H σ ρ := by
  obtain ⟨S, E⟩ := E
  have nb : ∀ a, B'.hi a = none → B.hi a = none := fun a h => sb.free h
  refine ⟨S, ⟨E.env.len, E.env.sub, sb.trans E.env.base, fun i x h => ?_, E.env.apart, by rw [← et]; exact E.env.tab⟩, E.sup, hT, fun a sa => ?_⟩
  · have q := E.env.slot i x h
    cases x with
    | no => cases (σ[i]?.getD none) <;> trivial
    | dat d => cases hσ : (σ[i]?.getD none) <;> rw [hσ] at q <;> exact q
    | own ds =>
      cases hσ : (σ[i]?.getD none) with
      | none => rw [hσ] at q; exact q
      | some v =>
        rw [hσ] at q
        obtain ⟨a, vs, e1, e2, e3, e4, e5⟩ := q
        exact ⟨a, vs, e1, e2, nb a e3, e4, e5⟩
    | dic kvs =>
      cases hσ : (σ[i]?.getD none) with
      | none => rw [hσ] at q; exact q
      | some v =>
        rw [hσ] at q
        obtain ⟨a, vs, e1, e2, e3, e4, e5⟩ := q
        exact ⟨a, vs, e1, e2, nb a e3, e4, e5⟩
    | mu kvs =>
      cases hσ : (σ[i]?.getD none) with
      | none => rw [hσ] at q; exact q
      | some v =>
        rw [hσ] at q
        obtain ⟨a, vs, e1, e2, e3, e4, e5, e6⟩ := q
        exact ⟨a, vs, e1, e2, nb a e3, e4, e5, e6.trans ep⟩
    | dtab P q' d =>
      cases hσ : (σ[i]?.getD none) with
      | none => rw [hσ] at q; exact q
      | some v =>
        rw [hσ] at q
        exact ⟨q.1, q.2.1, nb P q.2.2.1, by rw [← et]; exact q.2.2.2⟩
    | bor kvs =>
      cases hσ : (σ[i]?.getD none) with
      | none => rw [hσ] at q; exact q
      | some v =>
        rw [hσ] at q
        obtain ⟨a, vs, e1, e2, e3⟩ := q
        rw [el] at e2
        exact ⟨a, vs, e1, e2, e3⟩
  · rcases E.lim a sa with z | z
    · exact .inl z
    · exact .inr (nb a z)
/-- an item of the walk is clean -/
theorem clean_of {y : Bool} {S T S' : Addr → Prop} {B : Base} {H H2 H' G : Hp} {σ σ2 : L2.St} {ρ ρ2 : Rho} {x : V} {d : D} (E : StOk K S T B H σ ρ) (E2 : StOk K S' T (Base.up E.same) H2 σ2 ρ2) (hG : ∀ b o, G b = some o → H' b = some o ∧ (hid S H b = some o ∨ H2 b = none)) (p : Dy K y G x d) : Dy K y (hid S' H') x d := by
  refine Dy.mono (fun b o q => ?_) p
  obtain ⟨q1, q2⟩ := hG b o q
  refine hid_of (fun sb => ?_) q1
  rcases q2 with q2 | q2
  · obtain ⟨n1, n2⟩ := of_hid q2
    rcases E2.lim b sb with z | z
    · exact n1 (E.sup b z)
    · have q3 : hid (fun a => S a ∧ ¬ T a) H b = some o := hid_of (fun z => n1 z.1) n2
      have z : hid (fun a => S a ∧ ¬ T a) H b = none := z
      rw [q3] at z
      cases z
  · exact E2.env.sub b sb q2
theorem sd_for {y : Bool} {is : List Nat} {iter : Expr} {body : List Stmt} {fi : MirI} {m : MirG} {F : MirS} (hp : PassesOwn (model X.prog X.w) X.A X.env X.xe) (hc : X.calm = true) (hi : PID X y tg iter fi) (hg : PGD X y tg is m) (hb : PSsD X body F)
    (hs : ∀ x, foldedSetIterable iter X.env x = pure x := by intro _; rfl) : PSD X (.For tg iter body [] pos) (sFor fi m F) :=
  weakS (ps_for hp hc hi hg hb hs) fun Dn σ H ⟨T, B, ρ, o, ⟨S, E⟩, e, k⟩ => by
    obtain ⟨ds, e1, e2⟩ := bind_some e
    refine ⟨S, B, ρ, ds, E.env, e1, fun J H1 s1 yl => ?_⟩
    have E1 := E.step s1
    have L1 := E1.loop
    refine ⟨fun i n σ' H' => i + n = ds.length ∧ ∃ ρ', StE X.K T (Base.up E1.same) H' σ' ρ' ∧ sLoop m F (ds.drop i) ρ' = some o, ⟨ds.length, by omega, ρ, ⟨S, L1⟩, by rw [List.drop_zero]; exact e2⟩, ?_⟩
    rintro i n σ2 H2 ⟨hn, ρ2, ⟨S2, E2⟩, l2⟩
    have fs : Same (hid S H1) H2 := fun b ob q => by
      obtain ⟨n1, n2⟩ := of_hid q
      exact E2.env.base b ob (show hid (fun a => S a ∧ ¬ T a) H1 b = some ob from hid_of (fun z => n1 z.1) n2)
    obtain ⟨y1, y2⟩ := yl H2 fs i
    cases n with
    | zero =>
      refine .inl ⟨y2 (by omega), ?_⟩
      rw [List.drop_of_length_le (by omega)] at l2
      cases l2
      exact k _ _ (StE.back ⟨S2, E2⟩ rfl rfl rfl E1.same E1.inn)
    | succ n =>
      obtain ⟨d, hd⟩ : ∃ d, ds[i]? = some d := by
        cases q : ds[i]? with
        | some d => exact ⟨d, rfl⟩
        | none =>
          have := List.getElem?_eq_none_iff.mp q
          omega
      obtain ⟨g1, g2⟩ := y1 d hd
      have ed : ds.drop i = d :: ds.drop (i + 1) := by
        obtain ⟨hl, hx⟩ := List.getElem?_eq_some_iff.mp hd
        rw [List.drop_eq_getElem_cons hl, hx]
      rw [ed] at l2
      obtain ⟨ρ3, m1, m2⟩ := bind_some l2
      obtain ⟨o4, m3, m4⟩ := bind_some m2
      refine .inr ⟨g1, fun σ' H' => ∃ ρ', StE X.K T (Base.up E1.same) H' σ' ρ' ∧ sLoop m F (ds.drop (i + 1)) ρ' = some o, fun σ' H' ⟨ρ', a1, a2⟩ => ⟨n, by omega, by omega, ρ', a1, a2⟩, fun x H' hx => ?_⟩
      obtain ⟨s3, G, hG, pG⟩ := g2 x H' hx
      refine ⟨S2, Base.up E1.same, ρ2, d, ρ3, (E2.step s3).env, clean_of E1 E2 hG pG, m1, fun σ' Eσ _ _ => ?_⟩
      refine ⟨T, Base.up E1.same, ρ3, o4, ⟨S2, Eσ, E2.sup, E2.inn, E2.lim⟩, m3, ?_⟩
      cases o4 with
      | nx ρ' => exact fun σ'' H'' E'' => ⟨ρ', E'', m4⟩
      | ct ρ' => exact fun σ'' H'' E'' => ⟨ρ', E'', m4⟩
      | bk ρ' =>
        cases m4
        exact fun σ'' H'' E'' => k _ _ (E''.back rfl rfl rfl E1.same E1.inn)
      | rt d' =>
        cases m4
        exact fun v H'' s'' p'' => k v H'' (E1.same.trans s'') p''
end
end Pu

set_option Elab.async false
set_option linter.all false
set_option autoImplicit false
set_option maxRecDepth 100000
namespace Pu
open PySem PySem.Spec PyProof.Rows L2
/-! ### a new list -/
def plus (S : Addr → Prop) (p : Addr) : Addr → Prop := fun a => S a ∨ a = p
abbrev MirL := Rho → Option (List D)
def tlOf (K : PySem.W.Frag) (f : MirL) : TE := fun σ H Q => ∃ S B ρ ds, EnvOk K S B H σ ρ ∧ f ρ = some ds ∧ ∀ p vs H', Same H H' → H p = none → H' p = some (.lst vs) → DqAll K (hid (plus S p) H') vs ds → Q (.ref p) H'
abbrev PLD (X : Cx) (e : Expr) (f : MirL) : Prop := PE X e (tlOf X.K f)
def mL (f : MirL) : Mir := fun ρ => (f ρ).map PyData.list
section
variable {X : Cx} {K : PySem.W.Frag} {tg e : Expr} {f g : Mir} {pos : Pos} {S : Addr → Prop} {B : Base} {H H' : Hp} {σ : L2.St} {ρ : Rho}
theorem tl_of {f : MirL} : ∀ σ H Q, tOf K (mL f) σ H Q → tlOf K f σ H Q := fun σ H Q ⟨S, B, ρ, d, E, e, k⟩ => by
  obtain ⟨ds, e1, rfl⟩ := map_some e
  refine ⟨S, B, ρ, ds, E, e1, fun p vs H' s hp hq a => k _ H' s (.lst (.inl (.inl (hid_of (E.new hp) hq))) (a.mono (hid_le H' fun _ z => .inl z)))⟩
theorem pd_ofL {f : MirL} (h : PLD X e f) : PD X e (mL f) := weak h tl_of
/-- a new address joins S -/
theorem EnvOk.grow (E : EnvOk K S B H σ ρ) (s : Same H H') {p : Addr} (hp : H p = none) (hq : H' p ≠ none) : EnvOk K (plus S p) B H' σ ρ := by
  have sh : Same (hid S H) (hid (plus S p) H') := fun b o q => by
    obtain ⟨n1, n2⟩ := of_hid q
    refine hid_of (fun z => ?_) (s b o n2)
    rcases z with z | z
    · exact n1 z
    · rw [z, hp] at n2
      cases n2
  have E' := E.step s
  refine ⟨E.len, fun a z => ?_, E'.base, fun i x h => ?_, E.apart, E'.tab⟩
  · rcases z with z | z
    · exact E'.sub a z
    · rw [z]
      exact hq
  · have q := E.slot i x h
    cases hσ : (σ[i]?.getD none) with
    | none =>
      rw [hσ] at q
      cases x <;> first | trivial | exact q
    | some v =>
      rw [hσ] at q
      cases x with
      | no => trivial
      | dat d => exact Dq.mono sh q
      | own ds =>
        obtain ⟨a, vs, e1, e2, e3, e4, e5⟩ := q
        exact ⟨a, vs, e1, .inl e2, e3, s _ _ e4, e5.mono sh⟩
      | dic kvs =>
        obtain ⟨a, vs, e1, e2, e3, e4, e5⟩ := q
        exact ⟨a, vs, e1, .inl e2, e3, s _ _ e4, e5.mono sh⟩
      | mu kvs =>
        obtain ⟨a, vs, e1, e2, e3, e4, e5, e6⟩ := q
        exact ⟨a, vs, e1, .inl e2, e3, s _ _ e4, e5.mono sh, e6⟩
      | dtab P q' d => exact ⟨Dq.mono sh q.1, .inl q.2.1, q.2.2⟩
      | bor kvs =>
        obtain ⟨a, vs, e1, e2, e3⟩ := q
        exact ⟨a, vs, e1, e2, e3.mono sh⟩
theorem EnvOk.setNo {i : Nat} {o : Option V} (E : EnvOk K S B H σ ρ) : EnvOk K S B H (σ.set i o) (ρ.set i .no) where
  tab := E.tab
  len := by rw [List.length_set, List.length_set]; exact E.len
  sub := E.sub
  base := E.base
  slot := fun j x h => by
    by_cases hj : i = j
    · subst hj
      have hl : i < ρ.length := by
        have := (List.getElem?_eq_some_iff.mp h).1
        rw [List.length_set] at this
        exact this
      rw [List.getElem?_set_self hl] at h
      cases h
      cases ((σ.set i o)[i]?.getD none) <;> trivial
    · rw [List.getElem?_set_ne hj] at h ⊢
      exact E.slot j x h
  apart := fun j l a x y hn hx ox hy oy => by
    by_cases hj : i = j
    · subst hj
      have hl : i < ρ.length := by
        have := (List.getElem?_eq_some_iff.mp hx).1
        rw [List.length_set] at this
        exact this
      rw [List.getElem?_set_self hl] at hx
      cases hx
      cases ox
    · by_cases hl' : i = l
      · subst hl'
        have hl : i < ρ.length := by
          have := (List.getElem?_eq_some_iff.mp hy).1
          rw [List.length_set] at this
          exact this
        rw [List.getElem?_set_self hl] at hy
        cases hy
        cases oy
      · rw [List.getElem?_set_ne hj] at hx ⊢
        rw [List.getElem?_set_ne hl'] at hy ⊢
        exact E.apart j l a x y hn hx ox hy oy
def wipeR (ρ : Rho) : List Nat → Rho
  | [] => ρ
  | v :: vs => (wipeR ρ vs).set v .no
theorem EnvOk.wipe (E : EnvOk K S B H σ ρ) : ∀ vs : List Nat, EnvOk K S B H (wipe σ vs) (wipeR ρ vs)
  | [] => E
  | v :: vs => (EnvOk.wipe E vs).setNo
theorem wipe_get {σ : L2.St} {j : Nat} : ∀ {vs : List Nat}, j ∉ vs → (wipe σ vs)[j]? = σ[j]?
  | [], _ => rfl
  | v :: vs, h => by
    unfold L2.wipe
    rw [List.getElem?_set_ne (fun z => h (by rw [z]; exact List.mem_cons_self))]
    exact wipe_get fun z => h (List.mem_cons_of_mem _ z)
theorem wipe_at {σ : L2.St} {j : Nat} : ∀ {vs : List Nat}, j ∈ vs → j < σ.length → (wipe σ vs)[j]? = some none
  | v :: vs, h, hl => by
    unfold L2.wipe
    by_cases e : v = j
    · subst e
      rw [List.getElem?_set_self (by rw [wipe_length]; exact hl)]
    · rw [List.getElem?_set_ne e]
      exact wipe_at ((List.mem_cons.mp h).resolve_left fun z => e z.symm) hl
theorem wipe_eq {σ σ' : L2.St} {vs : List Nat} (hl : σ'.length = σ.length) (h : ∀ j, j ∉ vs → σ'[j]? = σ[j]?) : wipe σ' vs = wipe σ vs := by
  refine List.ext_getElem? fun j => ?_
  by_cases hj : j ∈ vs
  · by_cases hb : j < σ.length
    · rw [wipe_at hj hb, wipe_at hj (by rw [hl]; exact hb)]
    · rw [List.getElem?_eq_none (by rw [wipe_length]; omega), List.getElem?_eq_none (by rw [wipe_length]; omega)]
  · rw [wipe_get hj, wipe_get hj, h j hj]
theorem wipe_wipe {σ : L2.St} {vs : List Nat} : wipe (wipe σ vs) vs = wipe σ vs := wipe_eq (wipe_length σ vs) fun j hj => wipe_get hj

def lcGo (m : MirG) (tt te : Mir) (ρ0 : Rho) : List D → Option (List D)
  | [] => some []
  | d :: ds => (m d ρ0).bind fun ρ1 => match tt ρ1 with
    | some (.bool true) => (te ρ1).bind fun y => (lcGo m tt te ρ0 ds).map fun r => y :: r
    | some (.bool false) => lcGo m tt te ρ0 ds
    | _ => none
def lLc (vs : List Nat) (fi : MirI) (m : MirG) (tt te : Mir) : MirL := fun ρ => (fi ρ).bind fun ds => if ds.length < sizeLine then lcGo m tt te (wipeR ρ vs) ds else none
theorem lc_of {y : Bool} {vs : List Nat} {fi : MirI} {m : MirG} {tt te : Mir} : ∀ σ H Q, tlOf K (lLc vs fi m tt te) σ H Q → tLc (tiOf K y fi) (tgOf K y vs m) (ttOf K tt) (tOf K te) vs σ H Q := fun σ H Q ⟨S, B, ρ, out, E, e, k⟩ => by
  obtain ⟨ds, e1, e2⟩ := bind_some e
  have hlen : ds.length < sizeLine := by
    by_cases h : ds.length < sizeLine
    · exact h
    · rw [if_neg h] at e2
      cases e2
  rw [if_pos hlen] at e2
  refine ⟨S, B, ρ, ds, E, e1, fun J H1 s1 yl P hP => ?_⟩
  have E1 := E.step s1
  have EP : EnvOk K (plus S P) B (upd H1 P (.lst [])) σ ρ := E1.grow (same_upd hP) hP (by rw [upd_same]; exact fun z => nomatch z)
  refine ⟨fun i n Hc => i + n = ds.length ∧ ∃ (vs' : List V) (acc rest : List D), Hc P = some (.lst vs') ∧ Same H1 Hc ∧ DqAll K (hid (plus S P) Hc) vs' acc ∧ vs'.length ≤ i ∧ lcGo m tt te (wipeR ρ vs) (ds.drop i) = some rest ∧ out = acc ++ rest,
    ⟨ds.length, by omega, [], [], out, upd_same, same_upd hP, .nil, Nat.zero_le _, by rw [List.drop_zero]; exact e2, rfl⟩, ?_⟩
  rintro i n Hc ⟨hn, vs', acc, rest, hc, sc, ac, lc, go, eo⟩
  have fs : Same (hid S H1) Hc := fun b o q => sc b o (of_hid q).2
  obtain ⟨y1, y2⟩ := yl Hc fs i
  have Ec : EnvOk K (plus S P) B Hc σ ρ := E1.grow sc hP (by rw [hc]; exact fun z => nomatch z)
  cases n with
  | zero =>
    refine .inl ⟨y2 (by omega), ?_⟩
    rw [List.drop_of_length_le (by omega)] at go
    cases go
    rw [List.append_nil] at eo
    subst eo
    exact k P vs' Hc (s1.trans sc) (s1.free hP) hc ac
  | succ n =>
    obtain ⟨d, hd⟩ : ∃ d, ds[i]? = some d := by
      cases q : ds[i]? with
      | some d => exact ⟨d, rfl⟩
      | none =>
        have := List.getElem?_eq_none_iff.mp q
        omega
    obtain ⟨g1, g2⟩ := y1 d hd
    have ed : ds.drop i = d :: ds.drop (i + 1) := by
      obtain ⟨hl, hx⟩ := List.getElem?_eq_some_iff.mp hd
      rw [List.drop_eq_getElem_cons hl, hx]
    rw [ed] at go
    obtain ⟨ρ3, m1, m2⟩ := bind_some go
    refine .inr ⟨g1, fun H' => i + 1 + n = ds.length ∧ ∃ (vs' : List V) (acc rest : List D), H' P = some (.lst vs') ∧ Same H1 H' ∧ DqAll K (hid (plus S P) H') vs' acc ∧ vs'.length ≤ i + 1 ∧ lcGo m tt te (wipeR ρ vs) (ds.drop (i + 1)) = some rest ∧ out = acc ++ rest, fun H' w => ⟨n, by omega, w⟩, fun x H' hx => ?_⟩
    obtain ⟨s3, G, hG, pG⟩ := g2 x H' hx
    have E3 := (Ec.step s3).wipe vs
    have px : Dy K y (hid (plus S P) H') x d := Dy.mono (fun b o q => by
      obtain ⟨q1, q2⟩ := hG b o q
      refine hid_of (fun sb => ?_) q1
      rcases q2 with q2 | q2
      · obtain ⟨n1, n2⟩ := of_hid q2
        rcases sb with sb | sb
        · exact n1 sb
        · rw [sb, hP] at n2
          cases n2
      · rcases sb with sb | sb
        · exact Ec.sub b (.inl sb) q2
        · rw [sb, hc] at q2
          cases q2) pG
    refine ⟨plus S P, B, _, d, ρ3, E3, px, m1, fun σ2 E4 hσ hl => ⟨?_, ?_⟩⟩
    · rw [wipe_eq hl hσ, wipe_wipe]
    · have cP : ∀ {H2 : Hp}, Same H' H2 → H2 P = some (.lst vs') := fun s => s _ _ (s3 _ _ hc)
      cases qt : tt ρ3 with
      | none =>
        rw [qt] at m2
        cases m2
      | some b =>
        rw [qt] at m2
        cases b <;> try (cases m2; done)
        rename_i b
        cases b
        · have m2 : lcGo m tt te (wipeR ρ vs) (ds.drop (i + 1)) = some rest := m2
          refine ⟨plus S P, B, ρ3, false, E4, qt, fun H5 s5 => iteF ⟨by omega, vs', acc, rest, cP s5, (sc.trans s3).trans s5, ac.mono (same_hid (s3.trans s5)), by omega, m2, eo⟩⟩
        · obtain ⟨yd, m3, m4⟩ := bind_some (show ((te ρ3).bind fun y => (lcGo m tt te (wipeR ρ vs) (ds.drop (i + 1))).map fun r => y :: r) = some rest from m2)
          obtain ⟨rest', m5, rfl⟩ := map_some m4
          refine ⟨plus S P, B, ρ3, true, E4, qt, fun H5 s5 => iteT ⟨plus S P, B, ρ3, yd, E4.step s5, m3, fun v H6 s6 p6 => ⟨vs', cP (s5.trans s6), by omega, by omega, vs' ++ [v], acc ++ [yd], rest', upd_same, ?_, ?_, ?_, m5, ?_⟩⟩⟩
          · exact fun b o q => by
              have hb : b ≠ P := ne_of_none q hP
              rw [upd_ne hb]
              exact s6 _ _ (s5 _ _ (s3 _ _ (sc _ _ q)))
          · have sh : Same (hid (plus S P) H6) (hid (plus S P) (upd H6 P (.lst (vs' ++ [v])))) := fun b o q => by
              obtain ⟨n1, n2⟩ := of_hid q
              refine hid_of n1 ?_
              rw [upd_ne (fun z => n1 (.inr z))]
              exact n2
            exact ((ac.mono (same_hid ((s3.trans s5).trans s6))).snoc p6).mono sh
          · rw [List.length_append, List.length_singleton]
            omega
          · rw [eo, List.append_assoc]
            rfl
/-! tests of a comprehension -/
abbrev PTsD (X : Cx) (ifs : List Expr) (f : Mir) : Prop := PTs X ifs (ttOf X.K f)
def mYes : Mir := mC (.bool true)
theorem tsd_nil : PTsD X [] mYes := ⟨fun pins s σ H Q I ⟨S, B, ρ, b, E, e, k⟩ => by
  cases e
  exact pts_nil.run pins s σ H Q I (k H (Same.refl H))⟩
theorem tsd_one {c : Expr} (h : PTD X c f) : PTsD X [c] f := pts_one h
theorem ld_lc {y : Bool} {vs : List Nat} {fi : MirI} {m : MirG} {tt te : Mir} {elt iter : Expr} {ifs : List Expr} {scope : Scope} (own : List (Str × Nat)) (ev : own.map (·.2) = vs) (hc : X.calm = true) (hN : X.N.Nodup) (hi : PID X y tg iter fi) (ok : BlkOk X.N X.env.scope scope own)
    (hg : ∀ (s : Shared) (H : Hp) (C : Addr) (cl : List (Str × Addr)) (fp : List Addr), PGD (X.blk s H scope (compEnvC scope cl C X.env) fp) y tg vs m)
    (ht : ∀ (s : Shared) (H : Hp) (C : Addr) (cl : List (Str × Addr)) (fp : List Addr), PTsD (X.blk s H scope (compEnvC scope cl C X.env) fp) ifs tt)
    (he : ∀ (s : Shared) (H : Hp) (C : Addr) (cl : List (Str × Addr)) (fp : List Addr), PD (X.blk s H scope (compEnvC scope cl C X.env) fp) elt te) (hs : ∀ x, foldedSetIterable iter X.env x = pure x := by intro _; rfl) :
    PLD X (.ListComp elt [⟨tg, iter, ifs, 0⟩] scope pos) (lLc vs fi m tt te) := by
  subst ev
  exact weak (pe_lc hc hN hi ok hg ht he hs) lc_of
/-- name = [..] on one line -/
theorem sd_setLc {yy : Bool} {i : Nat} {y : Str} {py spos : Pos} {vs : List Nat} {fi : MirI} {m : MirG} {tt te : Mir} {elt iter : Expr} {ifs : List Expr} {scope : Scope} (own : List (Str × Nat)) (ev : own.map (·.2) = vs) (hc : X.calm = true) (hN : X.N.Nodup) (hi : PID X yy tg iter fi) (ok : BlkOk X.N X.env.scope scope own)
    (hg : ∀ (s : Shared) (H : Hp) (C : Addr) (cl : List (Str × Addr)) (fp : List Addr), PGD (X.blk s H scope (compEnvC scope cl C X.env) fp) yy tg vs m)
    (ht : ∀ (s : Shared) (H : Hp) (C : Addr) (cl : List (Str × Addr)) (fp : List Addr), PTsD (X.blk s H scope (compEnvC scope cl C X.env) fp) ifs tt)
    (he : ∀ (s : Shared) (H : Hp) (C : Addr) (cl : List (Str × Addr)) (fp : List Addr), PD (X.blk s H scope (compEnvC scope cl C X.env) fp) elt te)
    (hsw : swapsWith (.ListComp elt [⟨tg, iter, ifs, 0⟩] scope pos) (some (.Name y py)) spos.line X.env = pure true) (hy : X.N[i]? = some y := by rfl) (hyl : X.env.scope.names.lookup y = some .local := by rfl) (hs : ∀ x, foldedSetIterable iter X.env x = pure x := by intro _; rfl) :
    PSD X (.Assign [.Name y py] (.ListComp elt [⟨tg, iter, ifs, 0⟩] scope pos) spos) (sSet i (mL (lLc vs fi m tt te))) := by
  subst ev
  exact weakS (ps_setLc hc hN hy hyl hsw hi ok hg ht he hs) fun Dn σ H ⟨T, B, ρ, o, ⟨S, E⟩, e, k⟩ => by
    obtain ⟨d, e1, rfl⟩ := map_some e
    exact lc_of σ H _ (tl_of σ H _ ⟨S, B, ρ, d, E.env, e1, fun v H' s p => k _ H' ⟨S, (E.step s).setD p⟩⟩)

/-! ### defs -/
def ArgOk (K : PySem.W.Frag) (S : Addr → Prop) (H : Hp) (v : V) : Sl → Prop
  | .dat d => Dq K (hid S H) v d
  | .bor kvs => ∃ a es, v = .ref a ∧ H a = some (.dK es) ∧ DKV K (hid S H) es kvs
  | _ => False
def ArgsOk (K : PySem.W.Frag) (S : Addr → Prop) (H : Hp) : List V → List Sl → Prop := Paired (ArgOk K S H)
theorem ArgOk.step (s : Same H H') : ∀ {v : V} {x : Sl}, ArgOk K S H v x → ArgOk K S H' v x
  | _, .dat d, h => Dq.mono (same_hid s) h
  | _, .bor kvs, ⟨a, es, e, h, q⟩ => ⟨a, es, e, s _ _ h, q.mono (same_hid s)⟩
  | _, .no, h => h
  | _, .dtab _ _ _, h => h
  | _, .own _, h => h
  | _, .dic _, h => h
  | _, .mu _, h => h
theorem ArgsOk.step (s : Same H H') : ∀ {vs : List V} {xs : List Sl}, ArgsOk K S H vs xs → ArgsOk K S H' vs xs
  | _, _, .nil => .nil
  | _, _, .cons a r => .cons (a.step s) (ArgsOk.step s r)
abbrev MirF := List Sl → Option D
def spOf (K : PySem.W.Frag) (n : Nat) (F : MirF) : Sp := fun vs H Q _ => ∃ S xs d, Sub S H ∧ ArgsOk K S H vs xs ∧ xs.length = n ∧ F xs = some d ∧ ∀ v H', Same H H' → Dq K (hid S H') v d → Q v H'
/-- arguments -/
abbrev MirX := Rho → Option (List Sl)
def txOf (K : PySem.W.Frag) (f : MirX) : TA := fun σ H Q => ∃ S B ρ xs, EnvOk K S B H σ ρ ∧ f ρ = some xs ∧ ∀ vs H', Same H H' → ArgsOk K S H' vs xs → Q vs H'
abbrev PXD (X : Cx) (es : List Expr) (f : MirX) : Prop := PA X es (txOf X.K f)
def xNil : MirX := fun _ => some []
def xDat (f : Mir) (r : MirX) : MirX := fun ρ => (f ρ).bind fun x => (r ρ).bind fun xs => some (.dat x :: xs)
theorem xd_nil : PXD X [] xNil := weakA pa_nil fun σ H Q ⟨S, B, ρ, ds, E, e, k⟩ => by
  cases e
  exact k [] H (Same.refl H) .nil
theorem xd_dat {es : List Expr} {r : MirX} (ha : PD X e f) (hr : PXD X es r) (hs : starEach (e :: es) X.env = (false, eval e X.env) :: starEach es X.env := by rfl) : PXD X (e :: es) (xDat f r) :=
  weakA (pa_cons ha hr hs) fun σ H Q ⟨S, B, ρ, ds, E, e, k⟩ => by
    obtain ⟨x, e1, e2⟩ := bind_some e
    obtain ⟨xs, e3, e4⟩ := bind_some e2
    cases e4
    exact ⟨S, B, ρ, x, E, e1, fun v H1 s1 p1 => ⟨S, B, ρ, xs, E.step s1, e3, fun vs H2 s2 p2 => k _ H2 (s1.trans s2) (.cons (Dq.mono (same_hid s2) p1) p2)⟩⟩
def mCall (F : MirF) (r : MirX) : Mir := fun ρ => (r ρ).bind F
theorem pd_call {F : MirF} {n k : Nat} {fa : Addr} {fd : FuncData} {ps : List Str} {x : Str} {p : Pos} {es : List Expr} {r : MirX} (hF : FnOk X.prog X.w X.K X.mg X.base CX0 k fa fd ps (spOf X.K n F)) (hr : Room k X.A) (hg : Gl X x) (hm : X.mg x = some (.ref fa)) (hk : PySem.W.keepIn X.K (.ref fa) = true) (hb : Binds X.K fd ps []) (hn : ∀ ρ xs, r ρ = some xs → xs.length = n)
    (ha : PXD X (e :: es) r) (hdb : (x == ("__debug__" : Str)) = false := by decide) (he : starEach (e :: es) X.env = (false, eval e X.env) :: starEach es X.env := by rfl) (hpl : (backTo pos (starEach es X.env)).any (·.1) = false := by rfl) : PD X (.Call (.Name x p) (e :: es) [] pos) (mCall F r) :=
  weak (pe_call hF hr hg hm hk hb .nil pass0 ha hdb he hpl) fun σ H Q ⟨S, B, ρ, d, E, e, k⟩ => by
    obtain ⟨xs, e1, e2⟩ := bind_some e
    refine ⟨S, B, ρ, xs, E, e1, fun vs H1 s1 p1 => ?_⟩
    show spOf X.K n F (vs ++ []) H1 Q E0
    rw [List.append_nil]
    exact ⟨S, xs, d, (E.step s1).sub, p1, hn ρ xs e1, e2, fun v H' s p => k v H' (s1.trans s) p⟩
/-- the names of a def at its entry -/
def startR (n : Nat) (xs : List Sl) : Rho := xs ++ List.replicate (n - xs.length) .no
def runB (n : Nat) (F : MirS) : MirF := fun xs => match F (startR n xs) with
  | some (.rt d) => some d
  | some (.nx _) => some .none
  | _ => none
theorem args_len {vs : List V} {xs : List Sl} (h : ArgsOk K S H vs xs) : vs.length = xs.length := Paired.length h
theorem args_get : ∀ {vs : List V} {xs : List Sl} {i : Nat} {x : Sl}, ArgsOk K S H vs xs → xs[i]? = some x → ∃ v, vs[i]? = some v ∧ ArgOk K S H v x
  | _, _, _, _, .nil, e => by simp at e
  | _, _, 0, _, .cons a _, e => by
    rw [List.getElem?_cons_zero] at e
    cases e
    exact ⟨_, rfl, a⟩
  | _, _, i + 1, _, .cons _ r, e => by
    rw [List.getElem?_cons_succ] at e
    exact args_get (i := i) r e
theorem start_ok {N : List Str} {vs : List V} {xs : List Sl} (hs : Sub S H) (h : ArgsOk K S H vs xs) (hn : xs.length ≤ N.length) : StOk K S S (Base.of H) H (L2.start N vs) (startR N.length xs) := by
  have hl := args_len h
  refine ⟨⟨?_, hs, Same.refl H, fun i x e => ?_, fun i j a x y _ hx ox => ?_, trivial⟩, fun _ z => z, hs, fun _ z => .inl z⟩
  · unfold L2.start startR
    rw [List.length_append, List.length_append, List.length_map, List.length_replicate, List.length_replicate, hl]
  · unfold startR at e
    unfold L2.start
    by_cases hi : i < xs.length
    · rw [List.getElem?_append_left hi] at e
      obtain ⟨v, hv, q⟩ := args_get h e
      rw [List.getElem?_append_left (by rw [List.length_map, hl]; exact hi), List.getElem?_map, hv]
      show SlOk K S _ H (some v) x
      cases x with
      | dat d => exact q
      | bor kvs => exact q
      | dtab _ _ _ => exact q.elim
      | no => exact q.elim
      | own _ => exact q.elim
      | dic _ => exact q.elim
      | mu _ => exact q.elim
    · rw [List.getElem?_append_right (by omega)] at e
      obtain ⟨_, e⟩ := List.getElem?_eq_some_iff.mp e
      rw [List.getElem_replicate] at e
      subst e
      generalize (Option.getD _ none : Option V) = z
      cases z <;> trivial
  · unfold startR at hx
    by_cases hi : i < xs.length
    · rw [List.getElem?_append_left hi] at hx
      obtain ⟨v, hv, q⟩ := args_get h hx
      cases x with
      | dat d => cases ox
      | bor kvs => cases ox
      | dtab _ _ _ => cases ox
      | no => cases ox
      | own _ => exact q.elim
      | dic _ => exact q.elim
      | mu _ => exact q.elim
    · rw [List.getElem?_append_right (by omega)] at hx
      obtain ⟨_, e⟩ := List.getElem?_eq_some_iff.mp hx
      rw [List.getElem_replicate] at e
      subst e
      cases ox
theorem fn_pure {P : Program} {w : World} {K : PySem.W.Frag} {mg : Str → Option Value} {base : Heap} {x qual : Str} {st : Stmt} {fa : Addr} {fd : FuncData} {N ps : List Str} {k : Nat} {F : MirS} (Fn : Fun K x qual st fa fd) (Sc : FnScope N ps (defScope st)) (hps : ps.length ≤ N.length)
    (hbody : ∀ (cdv : Value) (A : Around) (outer : List Env) (s : Shared) (H : Hp) (E : XK), Room k (A.deeper (envOfC qual (defScope st) s.heap.objs.size fa cdv)) → PSsD (cxOf CX0 P w K mg base N qual (defScope st) fa cdv A outer s H E).nox (defBody st) F) :
    FnOk P w K mg base CX0 (k + 1) fa fd ps (spOf K ps.length (runB N.length F)) := by
  refine Fn.ok Sc (fun vs H Q E ⟨S, xs, d, _, a, hn, _⟩ => by rw [args_len a, hn]) fun cdv A outer s H vs Q E hr ⟨S, xs, d, hs, a, hn, e, q⟩ => ⟨_, hbody cdv A outer s H E hr, ?_⟩
  have E0 : StOk K S S (Base.of H) H (L2.start N vs) (startR N.length xs) := start_ok hs a (by omega)
  unfold runB at e
  cases o : F (startR N.length xs) with
  | none =>
    rw [o] at e
    cases e
  | some r =>
    rw [o] at e
    cases r with
    | rt d' =>
      cases e
      exact ⟨S, _, _, _, ⟨S, E0⟩, o, fun v H' s' p' => q v H' s' p'⟩
    | nx ρ' =>
      cases e
      exact ⟨S, _, _, _, ⟨S, E0⟩, o, fun σ' H' ⟨S', E'⟩ => q .non H' E'.env.base .non⟩
    | bk _ => cases e
    | ct _ => cases e
end
end Pu

set_option Elab.async false
set_option linter.all false
set_option autoImplicit false
set_option maxRecDepth 100000
namespace Pu
open PySem PySem.Spec PyProof.Rows L2
/-! ### defs by their names -/
def OkF (P : Program) (w : World) (K : PySem.W.Frag) (mg : Str → Option Value) (base : Heap) (k : Nat) (x : Str) (n : Nat) (F : MirF) : Prop :=
  ∃ (a : Addr) (fd : FuncData) (ps : List Str), FnOk P w K mg base CX0 k a fd ps (spOf K n F) ∧ mg x = some (.ref a) ∧ PySem.W.keepIn K (.ref a) = true ∧ Binds K fd ps []
def Def (K : PySem.W.Frag) (mg : Str → Option Value) (x : Str) (st : Stmt) (ps : List Str) : Prop :=
  ∃ (a : Addr) (fd : FuncData), Fun K x x st a fd ∧ mg x = some (.ref a) ∧ Binds K fd ps []
def XLen (r : MirX) (n : Nat) : Prop := ∀ ρ xs, r ρ = some xs → xs.length = n
theorem xl_nil : XLen xNil 0 := fun ρ xs e => by cases e; rfl
theorem xl_dat {f : Mir} {r : MirX} {n : Nat} (h : XLen r n) : XLen (xDat f r) (n + 1) := fun ρ xs e => by
  obtain ⟨x, e1, e2⟩ := bind_some e
  obtain ⟨ys, e3, e4⟩ := bind_some e2
  cases e4
  rw [List.length_cons, h ρ ys e3]
section
variable {X : Cx} {e : Expr} {pos : Pos}
theorem pd_callF {F : MirF} {n k : Nat} {x : Str} {p : Pos} {es : List Expr} {r : MirX} (hF : OkF X.prog X.w X.K X.mg X.base k x n F) (hr : Room k X.A) (hn : XLen r n) (ha : PXD X (e :: es) r) (hg : Gl X x := by rfl) (hdb : (x == ("__debug__" : Str)) = false := by decide) (he : starEach (e :: es) X.env = (false, eval e X.env) :: starEach es X.env := by rfl) (hpl : (backTo pos (starEach es X.env)).any (·.1) = false := by rfl) : PD X (.Call (.Name x p) (e :: es) [] pos) (mCall F r) := by
  obtain ⟨a, fd, ps, h1, h2, h3, h4⟩ := hF
  exact pd_call h1 hr hg h2 h3 h4 hn ha hdb he hpl
end
theorem okF {P : Program} {w : World} {K : PySem.W.Frag} {mg : Str → Option Value} {base : Heap} {x : Str} {st : Stmt} {N ps : List Str} {k : Nat} {F : MirS} (Fn : Def K mg x st ps) (Sc : FnScope N ps (defScope st)) (hps : ps.length ≤ N.length)
    (hbody : ∀ (fa : Addr) (cdv : Value) (A : Around) (outer : List Env) (s : Shared) (H : Hp) (E : XK), Room k (A.deeper (envOfC x (defScope st) s.heap.objs.size fa cdv)) → PSsD (cxOf CX0 P w K mg base N x (defScope st) fa cdv A outer s H E).nox (defBody st) F) :
    OkF P w K mg base (k + 1) x ps.length (runB N.length F) := by
  obtain ⟨a, fd, h1, h2, h3⟩ := Fn
  exact ⟨a, fd, ps, fn_pure h1 Sc hps fun cdv A outer s H E hr => hbody a cdv A outer s H E hr, h2, h1.kp, h3⟩
end Pu

set_option Elab.async false
set_option linter.all false
set_option autoImplicit false
set_option maxRecDepth 100000
/-! sorted(..): of a list, a tuple, a dict's items -/
namespace Pu
open PySem PySem.Spec PyProof.Rows L2
mutual
theorem reads_lt {h : Heap} : ∀ {v : Value} {d : D} {as : List Addr}, Reads h v d as → ∀ a ∈ as, a < h.objs.size
  | _, _, _, .none, a, m => nomatch m
  | _, _, _, .bool _, a, m => nomatch m
  | _, _, _, .int _ _, a, m => nomatch m
  | _, _, _, .str _ _, a, m => nomatch m
  | _, _, _, .list h1 _ _ h4, a, m => by
    rcases List.mem_cons.mp m with rfl | m
    · exact Heap.lt_size h1
    · exact readsAll_lt h4 a m
  | _, _, _, .tuple _ _ _ h4, a, m => readsAll_lt h4 a m
  | _, _, _, .dict h1 _ _ h4 h5, a, m => by
    rcases List.mem_append.mp m with m | m
    · rcases List.mem_cons.mp m with rfl | m
      · exact Heap.lt_size h1
      · exact readsAll_lt h4 a m
    · exact readsAll_lt h5 a m
theorem readsAll_lt {h : Heap} : ∀ {vs : List Value} {ds : List D} {as : List Addr}, ReadsAll h vs ds as → ∀ a ∈ as, a < h.objs.size
  | _, _, _, .nil, a, m => nomatch m
  | _, _, _, .cons h1 h2, a, m => by
    rcases List.mem_append.mp m with m | m
    · exact reads_lt h1 a m
    · exact readsAll_lt h2 a m
end
section
variable {prog : Program} {w : World} {A : Around} {E : Value → Shared → Prop} {s : Shared}
theorem collect_tup {t : Addr} {vs : List Value} {Q : List Value → Shared → Prop} (ht : s.heap.IsTuple t vs.toArray) (hsz : vs.length ≤ sizeLine)
    (h : ∀ h', (∀ b o, s.heap.get? b = some o → h'.get? b = some o) → Q vs { s with heap := h' }) : wpAny (model prog w) A (collect (.ref t)) Q E s := by
  obtain ⟨o, ho, hc, n, hd⟩ := id ht
  unfold collect
  refine wpAny_bind (wpAny_runValue (codeAny_builtin entry_proto_collect' ?_))
  show wpAny _ _ (do again (.builtin "list.__iadd__" ⟨[← newList [], .ref t], []⟩)) _ _ s
  refine wpAny_bind (wpAny_newList (wpAny_pure ⟨Code.quiet_builtin _ (by decide +kernel), codeAny_builtin entry_list_iadd' ?_⟩))
  show wpAny _ _ (Builtin.List.listExtendWith (.ref s.heap.objs.size) (.ref t) (.ref s.heap.objs.size)) _ _ { s with heap := s.heap.push (seqObj "list" #[] 0) }
  unfold Builtin.List.listExtendWith
  have ho' : (s.heap.push (seqObj "list" #[] 0)).get? t = some o := Heap.get?_push_of_some _ ho
  refine wpAny_bind (wpAny_typeOf (T := "tuple") ⟨o, ho', hc⟩ ?_)
  rw [if_pos (by rw [show (Value.type "tuple" == Value.type "tuple") = true by rfl, Bool.or_true])]
  refine wpAny_bind (listItems_at ho' hd ?_)
  refine wpAny_bind (listItems_at (xs := #[]) (n := 0) (Heap.get?_push_size _ rfl) rfl ?_)
  rw [if_neg (by simp)]
  refine wpAny_bind (listUpdate_at (xs := #[]) (n := 0) (Heap.get?_push_size _ rfl) rfl ?_ (Nat.zero_le _) (by show (#[] ++ vs.toArray).size ≤ sizeLine + 1; simp only [Array.size_append, List.size_toArray, List.length_nil]; omega))
  refine wpAny_pure ?_
  show wpAny (model prog w) A (load s.heap.objs.size >>= _) _ E { s with heap := (s.heap.push (seqObj "list" #[] 0)).update s.heap.objs.size (Obj.mapSeq (· ++ vs.toArray)) }
  refine wpAny_bind (wpAny_load (get?_update_seq (Heap.get?_push_size _ rfl) _) ?_)
  show wpAny _ _ (pure ((#[] : Array Value) ++ vs.toArray).toList) _ E _
  rw [show ((#[] : Array Value) ++ vs.toArray).toList = vs by simp]
  refine wpAny_pure (h _ fun b ob q => ?_)
  exact (Heap.get?_update_ne _ _ _ _ (Nat.ne_of_lt (Heap.lt_size q))).trans (Heap.get?_push_of_some _ q)
end
/-- the order of data -/
def leD : D → D → Bool := PySem.W.dataLe false fun d => d
def sortOk (ds : List D) : Bool := (ds.all fun d => ds.all fun d' => PySem.W.alike d d') && ((ds.all fun d => match d with | .tuple (_ :: _) => true | _ => false) || (ds.all fun d => match d with | .none => false | .tuple _ => false | _ => true)) && (ds.all fun d => decide (d.depth ≤ 50)) && decide (ds.length ≤ sizeLine)
theorem sortOk_of {ds : List D} (h : sortOk ds = true) : PySem.W.AllAlike ds ∧ PySem.W.Sortable ds ∧ (∀ d ∈ ds, d.depth ≤ 50) ∧ ds.length ≤ sizeLine := by
  unfold sortOk at h
  simp only [Bool.and_eq_true, Bool.or_eq_true, List.all_eq_true, decide_eq_true_eq] at h
  obtain ⟨⟨⟨h1, h2⟩, h3⟩, h4⟩ := h
  refine ⟨fun d hd d' hd' => h1 d hd d' hd', ?_, h3, h4⟩
  rcases h2 with h2 | h2
  · refine .inl fun d hd => ?_
    have q := h2 d hd
    cases d <;> try (cases q; done)
    rename_i xs
    cases xs with
    | nil => cases q
    | cons x r => exact ⟨x, r, rfl⟩
  · refine .inr fun d hd => ?_
    have q := h2 d hd
    cases d <;> first | (cases q; done) | exact ⟨(fun z => nomatch z), (fun xs z => nomatch z)⟩ | exact ⟨by intro z; cases z, by intro xs z; cases z⟩
section
variable {X : Cx} {pins : List (Addr × Obj)} {σ : L2.St} {H : Hp} {s : Shared}
theorem each_mk {K : PySem.W.Frag} : ∀ {ws : List V} {vs : List Value} {ds : List D}, Vals ws vs → DqAll K H ws ds → PySem.W.EachIs (fun (v : Value) (b : V × D) => RelV b.1 v ∧ Dq K H b.1 b.2) vs (ws.zip ds)
  | _, _, _, .nil, .nil => .nil
  | _, _, _, .cons r rs, .cons d dsr => .cons ⟨r, d⟩ (each_mk rs dsr)
theorem each_out {K : PySem.W.Frag} : ∀ {vs : List Value} {bs : List (V × D)}, PySem.W.EachIs (fun (v : Value) (b : V × D) => RelV b.1 v ∧ Dq K H b.1 b.2) vs bs → Vals (bs.map (·.1)) vs ∧ DqAll K H (bs.map (·.1)) (bs.map (·.2))
  | _, _, .nil => ⟨.nil, .nil⟩
  | _, _, .cons h t => ⟨.cons h.1 (each_out t).1, .cons h.2 (each_out t).2⟩
theorem dp_mem {K : PySem.W.Frag} {F : Hp} : ∀ {ws : List V} {ds : List D}, DqAll K F ws ds → ∀ b ∈ ws.zip ds, Dq K F b.1 b.2
  | _, _, .cons a r, b, hb => by
    rw [List.zip_cons_cons] at hb
    rcases List.mem_cons.mp hb with rfl | hb
    · exact a
    · exact dp_mem r b hb
  | _, _, .nil, b, hb => nomatch hb
theorem dp_all {K : PySem.W.Frag} {F : Hp} : ∀ {bs : List (V × D)}, (∀ b ∈ bs, Dq K F b.1 b.2) → DqAll K F (bs.map (·.1)) (bs.map (·.2))
  | [], _ => .nil
  | b :: bs, h => .cons (h b List.mem_cons_self) (dp_all fun c hc => h c (List.mem_cons_of_mem _ hc))
theorem map_snd_zip {α β : Type} : ∀ {xs : List α} {ys : List β}, xs.length = ys.length → (xs.zip ys).map (·.2) = ys
  | [], [], _ => rfl
  | x :: xs, y :: ys, h => by
    rw [List.zip_cons_cons, List.map_cons, map_snd_zip (by simpa using h)]
  | [], _ :: _, h => by simp at h
  | _ :: _, [], h => by simp at h
theorem call_sortedC {v : Value} {ds : List D} {R : Hp → List V → Prop} {Q : Value → Shared → Prop} (hu : X.A.units + 64 < cLine) (ok : sortOk ds = true)
    (hcol : wpAny (model X.prog X.w) X.A.in1 (collect v) (fun vs s1 => ∃ H1 ws, Inv X pins σ H1 s1 ∧ Vals ws vs ∧ DqAll X.K H1 ws ds ∧ R H1 ws) X.xe s)
    (k : ∀ H1 ws, R H1 ws → ∀ P out s2, H1 P = none → Inv X pins σ (upd H1 P (.lst out)) s2 → (∀ F, DqAll X.K F ws ds → DqAll X.K F out (ds.mergeSort leD)) → Q (.ref P) s2) : wpAny (model X.prog X.w) X.A (call (.builtin "sorted") [v]) Q X.xe s := by
  obtain ⟨hal, hso, hdp, hln⟩ := sortOk_of ok
  refine Calls.call_function_entry kind_sorted plain_sorted entry_sorted (args_sorted1 _) ?_
  unfold Builtin.«sorted»
  refine wpAny_bind (m := checkCount "sorted" 1 1 _) (wpAny_pure ?_)
  refine wpAny_bind (thn hcol fun vs s1 ⟨H1, ws, I1, rv, dp, r⟩ => ?_)
  have l1 : ws.length = vs.length := rv.length
  have l2 : ws.length = ds.length := dp.length
  have esnd : (ws.zip ds).map (·.2) = ds := map_snd_zip l2
  have hzz : (ws.zip ds).length ≤ sizeLine := by rw [List.length_zip]; omega
  refine wpAny_bind (wpAny_newList ?_ (by rw [← l1, l2]; exact hln))
  have hP : (s1.heap.push (seqObj "list" vs.toArray 0)).get? s1.heap.objs.size = some (seqObj "list" vs.toArray 0) := Heap.get?_push_size _ rfl
  have er : PySem.W.EachIs (fun (v : Value) (b : V × D) => ∃ as, Reads (s1.heap.push (seqObj "list" vs.toArray 0)) v b.2 as ∧ s1.heap.objs.size ∉ as) vs (ws.zip ds) := (each_mk rv dp).mono fun v b ⟨hr, hd⟩ => by
    obtain ⟨as, q⟩ := Dp.reads I1 b.2 b.1 v hd.dp hr
    exact ⟨as, PyProof.Rows.Reads.keeps (fun _ _ e => Heap.get?_push_of_some _ e) q, fun z => Nat.lt_irrefl _ (reads_lt q _ z)⟩
  refine wpAny_bind (wpAny_holding (PySem.W.list_sort_data (A := X.A.in1) (s := { s1 with heap := s1.heap.push (seqObj "list" vs.toArray 0) }) (a := s1.heap.objs.size) (n := 0) (enc := Prod.snd) (R := fun (v : Value) (b : V × D) => RelV b.1 v ∧ Dq X.K H1 b.1 b.2) hP (each_mk rv dp) er (by show PySem.W.AllAlike ((ws.zip ds).map (·.2)); rw [esnd]; exact hal)
    (by show PySem.W.Sortable ((ws.zip ds).map (·.2)); rw [esnd]; exact hso) (by rw [List.length_zip]; omega) (fun b hb => ?_) fun out hout eo => ?_))
  · have : b.2 ∈ ds := by rw [← esnd]; exact List.mem_map.mpr ⟨b, hb, rfl⟩
    have := hdp _ this
    show X.A.units + 1 + 1 + b.2.depth < cLine
    omega
  · refine wpAny_pure ⟨_, rfl, ?_⟩
    obtain ⟨vo, dpo⟩ := each_out eo
    have e2 : ((ws.zip ds).mergeSort (PySem.W.dataLe false Prod.snd)).map (·.2) = ds.mergeSort leD := by
      exact (PySem.W.sort_maps (r := PySem.W.dataLe false Prod.snd) (s := leD) (fun b : V × D => b.2) (fun a _ b _ => rfl)).trans (by rw [esnd])
    have keep : ∀ b o, s1.heap.get? b = some o → (sortedHeap (s1.heap.push (seqObj "list" vs.toArray 0)) s1.heap.objs.size vs out.toArray).get? b = some o := fun b o q => by
      have hb := Heap.lt_size q
      rw [sortedHeap_old (Nat.ne_of_lt hb) (by rw [Heap.size_push]; exact Nat.lt_succ_of_lt hb)]
      exact Heap.get?_push_of_some _ q
    obtain ⟨ep, hat⟩ := sortedHeap_at (vs := vs) (out := out.toArray) hP
    have hP1 : H1 s1.heap.objs.size = none := I1.hok.fresh (Nat.le_refl _)
    refine k H1 ws r s1.heap.objs.size (((ws.zip ds).mergeSort (PySem.W.dataLe false Prod.snd)).map (·.1)) { s1 with heap := sortedHeap (s1.heap.push (seqObj "list" vs.toArray 0)) s1.heap.objs.size vs out.toArray } hP1 ?_ fun F dF => ?_
    · exact I1.laid (t' := s1.toks) keep (Nat.le_refl _) ⟨by rw [vo.length, hout]; exact hzz, out, ep, vo, hat⟩
    · rw [← e2]
      exact dp_all fun b hb => dp_mem dF b ((List.mergeSort_perm _ _).mem_iff.mp hb)
end
/-- sorted(xs) -/
def oSorted : List D → Option D
  | [.list xs] => if sortOk xs = true then some (.list (xs.mergeSort leD)) else none
  | [.tuple xs] => if sortOk xs = true then some (.list (xs.mergeSort leD)) else none
  | _ => none
def rSortD (K : PySem.W.Frag) : List V → Hp → VK → Prop := fun vs H Q => ∃ a ws ds, vs = [V.ref a] ∧ (SqL K H a ws ∨ SqT K H a ws) ∧ DqAll K H ws ds ∧ sortOk ds = true ∧ ∀ P out, H P = none → (∀ F, DqAll K F ws ds → DqAll K F out (ds.mergeSort leD)) → Q (.ref P) (upd H P (.lst out))
theorem cr_sortD {X : Cx} (hu : X.A.units + 64 < cLine) : CallR X (.builtin "sorted") (rSortD X.K) := fun pins s σ H xs us Q I r ⟨a, ws, ds, ex, hq, dp, ok, k⟩ => by
  subst ex
  obtain rfl := Vals.ref1 r
  refine call_sortedC (R := fun H1 ws' => H1 = H ∧ ws' = ws) hu ok ?_ fun H1 ws' ⟨e, e'⟩ P out s2 hP I2 d2 => ⟨.ref P, _, I2, rfl, ?_⟩
  · rcases hq with hq | hq
    · obtain ⟨its, rv, p, hz⟩ := I.list hq
      refine collect_list p.isList ⟨H, ws, ?_, rv, dp, rfl, rfl⟩ (by rw [← rv.length]; exact hz)
      exact I.kept (t' := s.toks) fun b o q => (Heap.get?_update_ne _ _ _ _ (Nat.ne_of_lt (Heap.lt_size q))).trans (Heap.get?_push_of_some _ q)
    · obtain ⟨its, rv, p, hz⟩ := I.tuple hq
      exact collect_tup (show s.heap.IsTuple a its.toArray from p) (by rw [← rv.length]; exact hz) fun h' kp => ⟨H, ws, I.kept (t' := s.toks) kp, rv, dp, rfl, rfl⟩
  · subst e e'
    exact k P out hP d2
section
variable {X : Cx} {e : Expr} {f : Mir} {pos : Pos}
theorem ok_sorted {K : PySem.W.Frag} : Cok K (rSortD K) oSorted := fun S H vs xs d Q hs p e k => by
  have key : ∀ {a : Addr} {ws : List V} {ds : List D}, DqAll K (hid S H) ws ds → (SqL K H a ws ∨ SqT K H a ws) → sortOk ds = true → (∀ v H', Same H H' → Dq K (hid S H') v (.list (ds.mergeSort leD)) → Q v H') → rSortD K [V.ref a] H Q := fun {a ws ds} r q ok k => by
    refine ⟨a, ws, ds, rfl, q, r.mono (hid_same S H), ok, fun P out hP d2 => ?_⟩
    obtain ⟨s2, n2⟩ := new_lst hs hP (d2 _ r)
    exact k _ _ s2 n2
  unfold oSorted at e
  split at e
  · obtain ⟨c, rfl⟩ := ite_some e
    obtain ⟨v, rfl, q⟩ := one_of p
    obtain ⟨a, ws, rfl, z1, z2⟩ := Dq.sqL q
    exact key z2 (.inl z1) c k
  · obtain ⟨c, rfl⟩ := ite_some e
    obtain ⟨v, rfl, q⟩ := one_of p
    obtain ⟨a, ws, rfl, z1, z2⟩ := Dq.sqT q
    exact key z2 (.inr z1) c k
  · cases e
theorem pd_sorted {ra : MirA} {p : Pos} (hg : Gl X "sorted") (hm : X.mg "sorted" = none) (hu : X.A.units + 64 < cLine) (ha : PAD X [e] ra) (he : starEach [e] X.env = (false, eval e X.env) :: starEach [] X.env := by rfl) (hpl : (backTo pos (starEach [] X.env)).any (·.1) = false := by rfl) : PD X (.Call (.Name "sorted" p) [e] [] pos) (mA oSorted ra) :=
  pd_callB (cr_sortD hu) ok_sorted hg hm (by decide +kernel) ha (he := he) (hpl := hpl)
end
end Pu

set_option Elab.async false
set_option linter.all false
set_option autoImplicit false
set_option maxRecDepth 100000
/-! dicts -/
namespace Pu
open PySem PySem.Spec PyProof.Rows L2
abbrev MirM := Rho → Option KVs
def kD : Key → D
  | .inl i => .int i
  | .inr x => .str x
def keyD : D → Option Key
  | .int i => some (.inl i)
  | .str x => some (.inr x)
  | _ => none
def valD (kvs : KVs) (k : Key) : Option D := (kvs.find? fun kv => decide (kv.1 = k)).map (·.2)
def putD (kvs : KVs) (k : Key) (v : D) : KVs := if kvs.any (fun kv => decide (kv.1 = k)) = true then kvs.map (fun kv => if kv.1 = k then (kv.1, v) else kv) else kvs ++ [(k, v)]
def dropD (kvs : KVs) (k : Key) : KVs := kvs.filter fun kv => decide (kv.1 ≠ k)
def mergeD (kvs more : KVs) : KVs := more.foldl (fun acc kv => putD acc kv.1 kv.2) kvs
section
variable {K : PySem.W.Frag} {F : Hp}
theorem key_dp {v : V} {d : D} {k : Key} (h : Dq K F v d) (e : keyD d = some k) : v = kV k := by
  cases h <;> first | (cases e; done) | (cases e; rfl)
theorem kD_dp (k : Key) : Dq K F (kV k) (kD k) := by
  cases k
  · exact .int _
  · exact .str _
theorem DKV.len {es : List (Key × V)} {kvs : KVs} (h : DKV K F es kvs) : es.length = kvs.length := Paired.length h
theorem DKV.any (k : Key) : ∀ {es : List (Key × V)} {kvs : KVs}, DKV K F es kvs → (es.any fun kv => decide (kv.1 = k)) = kvs.any fun kv => decide (kv.1 = k)
  | _, _, .nil => rfl
  | _, _, .cons a r => by rw [List.any_cons, List.any_cons, a.1, DKV.any k r]
theorem DKV.val (k : Key) : ∀ {es : List (Key × V)} {kvs : KVs}, DKV K F es kvs → (valV es k = none ∧ valD kvs k = none) ∨ ∃ v d, valV es k = some v ∧ valD kvs k = some d ∧ Dq K F v d
  | _, _, .nil => .inl ⟨rfl, rfl⟩
  | (p :: es), (q :: kvs), .cons a r => by
    by_cases e : q.1 = k
    · refine .inr ⟨p.2, q.2, valV_pos (a.1.trans e), ?_, a.2⟩
      unfold valD
      rw [List.find?_cons_of_pos (by simpa using e)]
      rfl
    · have e' : ¬ p.1 = k := fun z => e (a.1.symm.trans z)
      have h2 : valD (q :: kvs) k = valD kvs k := by
        unfold valD
        rw [List.find?_cons_of_neg (by simpa using e)]
      rw [valV_neg e', h2]
      exact DKV.val k r
theorem DKV.isSome (k : Key) {es : List (Key × V)} {kvs : KVs} (h : DKV K F es kvs) : (valV es k).isSome = (valD kvs k).isSome := by
  rcases h.val k with ⟨h1, h2⟩ | ⟨v, d, h1, h2, _⟩ <;> rw [h1, h2] <;> rfl
theorem DKV.repl (k : Key) {v : V} {d : D} (h : Dq K F v d) : ∀ {es : List (Key × V)} {kvs : KVs}, DKV K F es kvs → DKV K F (es.map fun kv => if kv.1 = k then (kv.1, v) else kv) (kvs.map fun kv => if kv.1 = k then (kv.1, d) else kv)
  | _, _, .nil => .nil
  | (p :: es), (q :: kvs), .cons a r => by
    refine .cons ?_ (DKV.repl k h r)
    show (if p.1 = k then (p.1, v) else p).1 = (if q.1 = k then (q.1, d) else q).1 ∧ Dq K F (if p.1 = k then (p.1, v) else p).2 (if q.1 = k then (q.1, d) else q).2
    by_cases e : q.1 = k
    · rw [if_pos e, if_pos (a.1.trans e)]
      exact ⟨a.1, h⟩
    · rw [if_neg e, if_neg (fun z => e (a.1.symm.trans z))]
      exact a
theorem DKV.append : ∀ {es fs : List (Key × V)} {kvs ls : KVs}, DKV K F es kvs → DKV K F fs ls → DKV K F (es ++ fs) (kvs ++ ls)
  | _, _, _, _, .nil, q => q
  | _, _, _, _, .cons a r, q => .cons a (DKV.append r q)
theorem DKV.put (k : Key) {v : V} {d : D} (h : Dq K F v d) {es : List (Key × V)} {kvs : KVs} (q : DKV K F es kvs) : DKV K F (putK es k v) (putD kvs k d) := by
  unfold putK putD
  rw [q.any k]
  by_cases c : (kvs.any fun kv => decide (kv.1 = k)) = true
  · rw [if_pos c, if_pos c]
    exact q.repl k h
  · rw [if_neg c, if_neg c]
    exact q.append (.cons ⟨rfl, h⟩ .nil)
theorem DKV.drop (k : Key) : ∀ {es : List (Key × V)} {kvs : KVs}, DKV K F es kvs → DKV K F (dropK es k) (dropD kvs k)
  | _, _, .nil => .nil
  | (p :: es), (q :: kvs), .cons a r => by
    have ih := DKV.drop k r
    unfold dropK dropD at ih ⊢
    by_cases e : q.1 = k
    · rw [List.filter_cons_of_neg (by simpa using a.1.trans e), List.filter_cons_of_neg (by simpa using e)]
      exact ih
    · rw [List.filter_cons_of_pos (by simpa using fun z => e (a.1.symm.trans z)), List.filter_cons_of_pos (by simpa using e)]
      exact .cons a ih
theorem DKV.merge : ∀ {more : List (Key × V)} {ls : KVs} {es : List (Key × V)} {kvs : KVs}, DKV K F more ls → DKV K F es kvs → DKV K F (mergeK es more) (mergeD kvs ls)
  | _, _, _, _, .nil, q => q
  | (p :: more), (l :: ls), es, kvs, .cons a r, q => by
    show DKV K F (mergeK (putK es p.1 p.2) more) (mergeD (putD kvs l.1 l.2) ls)
    refine DKV.merge r ?_
    rw [a.1]
    exact q.put l.1 a.2
end
def tmOf (K : PySem.W.Frag) (g : MirM) : TE := fun σ H Q => ∃ S B ρ kvs, EnvOk K S B H σ ρ ∧ g ρ = some kvs ∧ ∀ a es H', Same H H' → H' a = some (.dK es) → DKV K (hid S H') es kvs → Q (.ref a) H'
def tnOf (K : PySem.W.Frag) (g : MirM) : TE := fun σ H Q => ∃ S B ρ kvs, EnvOk K S B H σ ρ ∧ g ρ = some kvs ∧ ∀ p es H', Same H H' → H p = none → H' p = some (.dK es) → DKV K (hid (plus S p) H') es kvs → Q (.ref p) H'
abbrev PMD (X : Cx) (e : Expr) (g : MirM) : Prop := PE X e (tmOf X.K g)
abbrev PND (X : Cx) (e : Expr) (g : MirM) : Prop := PE X e (tnOf X.K g)
section
variable {X : Cx} {K : PySem.W.Frag} {a b c e : Expr} {f h : Mir} {g g' : MirM} {pos : Pos}
theorem dr_new (h : PND X e g) : PMD X e g := weak h fun σ H Q ⟨S, B, ρ, kvs, E, e, k⟩ => ⟨S, B, ρ, kvs, E, e, fun p es H' s hp hq d => k p es H' s hq (d.mono (hid_le H' fun _ z => .inl z))⟩
def dVar (i : Nat) : MirM := fun ρ => match ρ[i]? with
  | some (.dic kvs) => some kvs
  | some (.bor kvs) => some kvs
  | some (.mu kvs) => some kvs
  | _ => none
theorem dr_var (i : Nat) {x : Str} (hN : X.N[i]? = some x := by rfl) (hv : Vis X.env.scope x := by first | exact Or.inl rfl | exact Or.inr (Or.inl rfl) | exact Or.inr (Or.inr rfl)) (hd : (x == ("__debug__" : Str)) = false := by decide)
    (hcd : (x == ("__classdict__" : Str)) = false := by decide) : PMD X (.Name x pos) (dVar i) :=
  weak (pe_var hN hv hd hcd) fun σ H Q ⟨S, B, ρ, kvs, E, e, k⟩ => by
    unfold dVar at e
    cases q : ρ[i]? with
    | none =>
      rw [q] at e
      cases e
    | some y =>
      rw [q] at e
      have z := E.slot i _ q
      have key : ∀ {v : V}, σ[i]?.getD none = some v → σ[i]? = some (some v) := fun {v} h => by
        cases w : σ[i]? with
        | none =>
          rw [w] at h
          cases h
        | some o =>
          rw [w] at h
          exact congrArg some h
      cases y with
      | dic kvs' =>
        cases e
        cases w : (σ[i]?.getD none) with
        | none =>
          rw [w] at z
          exact z.elim
        | some v =>
          rw [w] at z
          obtain ⟨a, es, rfl, _, _, h2, h3⟩ := z
          exact ⟨_, key w, k a es H (Same.refl H) h2 h3⟩
      | mu kvs' =>
        cases e
        cases w : (σ[i]?.getD none) with
        | none =>
          rw [w] at z
          exact z.elim
        | some v =>
          rw [w] at z
          obtain ⟨a, es, rfl, _, _, h2, h3, _⟩ := z
          exact ⟨_, key w, k a es H (Same.refl H) h2 h3⟩
      | bor kvs' =>
        cases e
        cases w : (σ[i]?.getD none) with
        | none =>
          rw [w] at z
          exact z.elim
        | some v =>
          rw [w] at z
          obtain ⟨a, es, rfl, h2, h3⟩ := z
          exact ⟨_, key w, k a es H (Same.refl H) (E.base _ _ (B.le _ _ h2)) h3⟩
      | dtab _ _ _ => cases e
      | no => cases e
      | own _ => cases e
      | dat _ => cases e
/-! reading -/
def mDGet (g : MirM) (f : Mir) : Mir := fun ρ => (g ρ).bind fun kvs => (f ρ).bind fun x => (keyD x).bind fun k => valD kvs k
theorem pd_dget (hu : X.A.units + 1 < cLine) (ho : PMD X a g) (hi : PD X b f) (hs : NoSl b := by intro _ _; rfl) : PD X (.Subscript a b pos) (mDGet g f) := weak (pe_dget hu ho hi hs) fun σ H Q ⟨S, B, ρ, d, E, e, k⟩ => by
  obtain ⟨kvs, e1, e2⟩ := bind_some e
  obtain ⟨x, e3, e4⟩ := bind_some e2
  obtain ⟨ky, e5, e6⟩ := bind_some e4
  refine ⟨S, B, ρ, kvs, E, e1, fun a es H1 s1 h1 d1 => ⟨S, B, ρ, x, E.step s1, e3, fun v H2 s2 p2 => ?_⟩⟩
  obtain rfl := key_dp p2 e5
  have d2 := d1.mono (same_hid s2)
  rcases d2.val ky with ⟨_, q⟩ | ⟨v, d', q1, q2, q3⟩
  · rw [q] at e6
    cases e6
  · rw [q2] at e6
    cases e6
    refine ⟨a, v, rfl, ?_, k v H2 (s1.trans s2) q3⟩
    rw [← q1]
    exact DGet.k (s2 _ _ h1)
def mDGet2 (g : MirM) (f h : Mir) : Mir := fun ρ => (g ρ).bind fun kvs => (f ρ).bind fun x => (h ρ).bind fun y => (keyD x).map fun k => (valD kvs k).getD y
theorem pd_dget2 {apos cpos : Pos} (hu : X.A.units + 1 < cLine) (ho : PMD X a g) (he : PD X b f) (hf : PD X c h) (m : M2 X a "get" apos b c cpos := by exact ⟨rfl, rfl, rfl, rfl⟩) : PD X (.Call (.Attribute a "get" apos) [b, c] [] cpos) (mDGet2 g f h) := weak (pe_dget2 hu ho he hf m) fun σ H Q ⟨S, B, ρ, d, E, e, k⟩ => by
  obtain ⟨kvs, e1, e2⟩ := bind_some e
  obtain ⟨x, e3, e4⟩ := bind_some e2
  obtain ⟨y, e5, e6⟩ := bind_some e4
  obtain ⟨ky, e7, rfl⟩ := map_some e6
  refine ⟨S, B, ρ, kvs, E, e1, fun a es H1 s1 h1 d1 => ⟨a, rfl, .inl ⟨es, .inl h1⟩, S, B, ρ, x, E.step s1, e3, fun v H2 s2 p2 => ⟨S, B, ρ, y, (E.step s1).step s2, e5, fun w H3 s3 p3 => ?_⟩⟩⟩
  obtain rfl := key_dp p2 e7
  refine ⟨valV es ky, DGet.k (s3 _ _ (s2 _ _ h1)), ?_⟩
  have d3 := d1.mono (same_hid (s2.trans s3))
  rcases d3.val ky with ⟨q1, q2⟩ | ⟨u, d', q1, q2, q3⟩
  · rw [q1]
    rw [q2] at k
    exact k w H3 ((s1.trans s2).trans s3) p3
  · rw [q1]
    rw [q2] at k
    exact k u H3 ((s1.trans s2).trans s3) q3
def mDIn (neg : Bool) (f : Mir) (g : MirM) : Mir := fun ρ => (f ρ).bind fun x => (g ρ).bind fun kvs => (keyD x).map fun k => PyData.bool (if neg then !(valD kvs k).isSome else (valD kvs k).isSome)
theorem din_of : ∀ σ H Q, tOf K (mDIn false f g) σ H Q → tDIn (tOf K f) (tmOf K g) σ H Q := fun σ H Q ⟨S, B, ρ, d, E, e, k⟩ => by
  obtain ⟨x, e1, e2⟩ := bind_some e
  obtain ⟨kvs, e3, e4⟩ := bind_some e2
  obtain ⟨ky, e7, rfl⟩ := map_some e4
  refine ⟨S, B, ρ, x, E, e1, fun v H1 s1 p1 => ⟨S, B, ρ, kvs, E.step s1, e3, fun a es H2 s2 h2 d2 => ?_⟩⟩
  obtain rfl := key_dp p1 e7
  refine ⟨a, valV es ky, rfl, DGet.k h2, ?_⟩
  rw [d2.isSome ky]
  exact k _ H2 (s1.trans s2) (.bl _)
theorem dnotin_of : ∀ σ H Q, tOf K (mDIn true f g) σ H Q → tDNotIn (tOf K f) (tmOf K g) σ H Q := fun σ H Q ⟨S, B, ρ, d, E, e, k⟩ => by
  obtain ⟨x, e1, e2⟩ := bind_some e
  obtain ⟨kvs, e3, e4⟩ := bind_some e2
  obtain ⟨ky, e7, rfl⟩ := map_some e4
  refine ⟨S, B, ρ, x, E, e1, fun v H1 s1 p1 => ⟨S, B, ρ, kvs, E.step s1, e3, fun a es H2 s2 h2 d2 => ?_⟩⟩
  obtain rfl := key_dp p1 e7
  refine ⟨a, valV es ky, rfl, DGet.k h2, ?_⟩
  rw [d2.isSome ky]
  exact k _ H2 (s1.trans s2) (.bl _)
theorem pd_din (hu : X.A.units + 1 < cLine) (ha : PD X a f) (hb : PMD X b g) (hm : behindInMarks .In b = false := by rfl) : PD X (.Compare a [.In] [b] pos) (mDIn false f g) := weak (pe_cmp (pc_din hu ha hb) hm) din_of
theorem pd_dnotIn (hu : X.A.units + 1 < cLine) (ha : PD X a f) (hb : PMD X b g) (hm : behindInMarks .NotIn b = false := by rfl) : PD X (.Compare a [.NotIn] [b] pos) (mDIn true f g) := weak (pe_cmp (pc_dnotin hu ha hb) hm) dnotin_of
theorem td_din (hu : X.A.units + 1 < cLine) (ha : PD X a f) (hb : PMD X b g) (hm : behindInMarks .In b = false := by rfl) : PTD X (.Compare a [.In] [b] pos) (mDIn false f g) := weakT (pt_cmp (pc_din hu ha hb) hm) fun σ H Q ⟨S, B, ρ, b, E, e, k⟩ => din_of σ H _ ⟨S, B, ρ, .bool b, E, e, fun v H1 s1 p1 => by
  cases p1
  exact ⟨b, rfl, k H1 s1⟩⟩
theorem td_dnotIn (hu : X.A.units + 1 < cLine) (ha : PD X a f) (hb : PMD X b g) (hm : behindInMarks .NotIn b = false := by rfl) : PTD X (.Compare a [.NotIn] [b] pos) (mDIn true f g) := weakT (pt_cmp (pc_dnotin hu ha hb) hm) fun σ H Q ⟨S, B, ρ, b, E, e, k⟩ => dnotin_of σ H _ ⟨S, B, ρ, .bool b, E, e, fun v H1 s1 p1 => by
  cases p1
  exact ⟨b, rfl, k H1 s1⟩⟩
/-! two dicts: only where they are alike -/
def flatV2 : D → Bool
  | .int _ => true
  | .str _ => true
  | _ => false
def mDEq (neg : Bool) (g g' : MirM) : Mir := fun ρ => (g ρ).bind fun ks => (g' ρ).bind fun ls => if ks.length = ls.length ∧ (ks.all fun p => flatV2 p.2 && (match valD ls p.1 with | some d => flatV2 d && PyData.eqv p.2 d | none => false)) = true then some (.bool (!neg)) else none
theorem flat_same {F : Hp} {v w : V} {x y : D} (h : Dq K F v x) (h' : Dq K F w y) (c : flatV2 x = true) (c' : flatV2 y = true) (e : PyData.eqv x y = true) : v = w ∧ flatB v = true := by
  cases x <;> try (cases c; done)
  · cases y <;> try (cases c'; done)
    · cases h
      cases h'
      rw [PyData.eqv, beq_iff_eq] at e
      subst e
      exact ⟨rfl, rfl⟩
    · rw [PyData.eqv] at e
      cases e
  · cases y <;> try (cases c'; done)
    · rw [PyData.eqv] at e
      cases e
    · cases h
      cases h'
      rw [PyData.eqv, beq_iff_eq] at e
      subst e
      exact ⟨rfl, rfl⟩
theorem deq_core {S : Addr → Prop} {H : Hp} : ∀ {es : List (Key × V)} {kvs : KVs} {fs : List (Key × V)} {ls : KVs}, DKV K (hid S H) es kvs → DKV K (hid S H) fs ls → (kvs.all fun p => flatV2 p.2 && (match valD ls p.1 with | some d => flatV2 d && PyData.eqv p.2 d | none => false)) = true → ∀ p ∈ es, valV fs p.1 = some p.2 ∧ flatB p.2 = true
  | _, _, _, _, .nil, _, _, p, hp => nomatch hp
  | (p :: es), (q :: kvs), fs, ls, .cons a r, d, h, p', hp => by
    rw [List.all_cons, Bool.and_eq_true] at h
    rcases List.mem_cons.mp hp with rfl | hp
    · obtain ⟨h1, _⟩ := h
      rw [Bool.and_eq_true] at h1
      rcases d.val q.1 with ⟨_, z⟩ | ⟨v, x, z1, z2, z3⟩
      · rw [z] at h1
        exact absurd h1.2 (by simp)
      · rw [z2] at h1
        obtain ⟨c1, c2⟩ := h1
        rw [Bool.and_eq_true] at c2
        obtain ⟨e1, e2⟩ := flat_same a.2 z3 c1 c2.1 c2.2
        rw [a.1, z1, e1]
        exact ⟨rfl, by rw [← e1]; exact e2⟩
    · exact deq_core r d h.2 p' hp
def rDEq (neg : Bool) : R2 := fun x y H Q => ∃ a b ks ls, x = .ref a ∧ y = .ref b ∧ H a = some (.dK ks) ∧ H b = some (.dK ls) ∧ ks.length = ls.length ∧ (∀ p ∈ ks, valV ls p.1 = some p.2 ∧ flatB p.2 = true) ∧ Q (.bl (!neg)) H
theorem deq_of (neg : Bool) : ∀ σ H Q, tOf K (mDEq neg g g') σ H Q → tOp (rDEq neg) (tmOf K g) (tmOf K g') σ H Q := fun σ H Q ⟨S, B, ρ, d, E, e, k⟩ => by
  obtain ⟨ks, e1, e2⟩ := bind_some e
  obtain ⟨ls, e3, e4⟩ := bind_some e2
  obtain ⟨cc, rfl⟩ := ite_some e4
  refine ⟨S, B, ρ, ks, E, e1, fun a es H1 s1 h1 d1 => ⟨S, B, ρ, ls, E.step s1, e3, fun b fs H2 s2 h2 d2 => ?_⟩⟩
  have d1' := d1.mono (same_hid s2)
  exact ⟨a, b, es, fs, rfl, rfl, s2 _ _ h1, h2, by rw [d1.len, d2.len]; exact cc.1, deq_core d1' d2 cc.2, k _ H2 (s1.trans s2) (.bl _)⟩
theorem op_ne_dA (hu : X.A.units < cLine) : OpR X (compareOp .NotEq) (rDEq true) := op_ne_dictA hu
theorem pd_deq (hu : X.A.units + 64 < cLine) (ha : PMD X a g) (hb : PMD X b g') : PD X (.Compare a [.Eq] [b] pos) (mDEq false g g') := weak (pe_cmpR (r := rDEq false) (op_eq_dictA (by omega)) ha hb (nomark _)) (deq_of false)
theorem pd_dne (hu : X.A.units + 64 < cLine) (ha : PMD X a g) (hb : PMD X b g') : PD X (.Compare a [.NotEq] [b] pos) (mDEq true g g') := weak (pe_cmpR (op_ne_dA (by omega)) ha hb (nomark _)) (deq_of true)
theorem td_deq (hu : X.A.units + 64 < cLine) (ha : PMD X a g) (hb : PMD X b g') : PTD X (.Compare a [.Eq] [b] pos) (mDEq false g g') := weakT (pt_cmpR (r := rDEq false) (op_eq_dictA (by omega)) ha hb (nomark _)) fun σ H Q ⟨S, B, ρ, b, E, e, k⟩ => deq_of false σ H _ ⟨S, B, ρ, .bool b, E, e, fun v H1 s1 p1 => by
  cases p1
  exact ⟨b, rfl, k H1 s1⟩⟩
theorem td_dne (hu : X.A.units + 64 < cLine) (ha : PMD X a g) (hb : PMD X b g') : PTD X (.Compare a [.NotEq] [b] pos) (mDEq true g g') := weakT (pt_cmpR (op_ne_dA (by omega)) ha hb (nomark _)) fun σ H Q ⟨S, B, ρ, b, E, e, k⟩ => deq_of true σ H _ ⟨S, B, ρ, .bool b, E, e, fun v H1 s1 p1 => by
  cases p1
  exact ⟨b, rfl, k H1 s1⟩⟩
/-- len(d) -/
def mDLen (g : MirM) : Mir := fun ρ => (g ρ).map fun kvs => PyData.int kvs.length
theorem pa_one {t : TE} {es : TA} (h : PE X e t) (hs : starEach [e] X.env = (false, eval e X.env) :: starEach [] X.env) : PA X [e] (tCons t tNil) := pa_cons h pa_nil hs
theorem pd_dlen {p : Pos} (hg : Gl X "len") (hm : X.mg "len" = none) (ha : PMD X e g) (he : starEach [e] X.env = (false, eval e X.env) :: starEach [] X.env := by rfl) (hpl : (backTo pos (starEach [] X.env)).any (·.1) = false := by rfl) : PD X (.Call (.Name "len" p) [e] [] pos) (mDLen g) :=
  weak (pe_callB call_lenD hg hm PySem.boot_len (pa_cons ha pa_nil he) (he := he) (hpl := hpl)) fun σ H Q ⟨S, B, ρ, d, E, e, k⟩ => by
    obtain ⟨kvs, e1, rfl⟩ := map_some e
    refine ⟨S, B, ρ, kvs, E, e1, fun a es H1 s1 h1 d1 => ⟨a, es, rfl, h1, ?_⟩⟩
    rw [d1.len]
    exact k _ H1 s1 (.int _)
end
end Pu

set_option Elab.async false
set_option linter.all false
set_option autoImplicit false
set_option maxRecDepth 100000
/-! dict(pairs), items, dicts that change, lists that grow -/
namespace Pu
open PySem PySem.Spec PyProof.Rows L2
section
variable {X : Cx} {pins : List (Addr × Obj)} {σ : L2.St} {H : Hp} {s : Shared}
theorem pairs_at (I : Inv X pins σ H s) : ∀ {ps : List Addr} {es : List (Key × V)}, Paired (fun p kv => SqT X.K H p [kV kv.1, kv.2]) ps es →
    ∃ (us : List (Value × Value)) (prs : List (Key × Value)), KV es prs ∧ us.length = ps.length ∧ prs.length = ps.length ∧ (∀ (j : Nat) (k v : Value), us[j]? = some (k, v) → ∃ p, ps[j]? = some p ∧ IsTup s.heap p #[k, v]) ∧ (∀ (j : Nat) (k v : Value), us[j]? = some (k, v) → ∃ key, prs[j]? = some (key, v) ∧ keyIs key k = true)
  | _, _, .nil => ⟨[], [], .nil, rfl, rfl, fun j k v e => by simp at e, fun j k v e => by simp at e⟩
  | (p :: ps), (kv :: es), .cons h t => by
    obtain ⟨us, prs, r, l1, l2, h1, h2⟩ := pairs_at I t
    obtain ⟨its, rv, ht, _⟩ := I.tuple h
    obtain ⟨u, y, ei, ru, ry⟩ := vals2 rv
    subst ei
    refine ⟨(u, y) :: us, (kv.1, y) :: prs, .cons ⟨rfl, ry⟩ r, by rw [List.length_cons, List.length_cons, l1], by rw [List.length_cons, List.length_cons, l2], fun j k v e => ?_, fun j k v e => ?_⟩
    · cases j with
      | zero =>
        rw [List.getElem?_cons_zero] at e
        cases e
        exact ⟨p, rfl, ht⟩
      | succ j =>
        rw [List.getElem?_cons_succ] at e ⊢
        exact h1 j k v e
    · cases j with
      | zero =>
        rw [List.getElem?_cons_zero] at e
        cases e
        exact ⟨kv.1, rfl, kV_is (P := X.prog) (w := X.w) ru⟩
      | succ j =>
        rw [List.getElem?_cons_succ] at e ⊢
        exact h2 j k v e
def rDictT (K : PySem.W.Frag) : List V → Hp → VK → Prop := fun xs H Q => ∃ (a : Addr) (ps : List Addr) (es : List (Key × V)), xs = [V.ref a] ∧ (SqL K H a (ps.map V.ref) ∨ TupF H a (ps.map V.ref)) ∧ Paired (fun p kv => SqT K H p [kV kv.1, kv.2]) ps es ∧
    ∀ p, H p = none → Q (.ref p) (upd H p (.dK (mergeK [] es)))
theorem call_dictT (hcalm : X.calm = true) : CallR X (.type "dict") (rDictT X.K) := fun pins s σ H xs us Q I r ⟨a, ps, es, ex, hq, hp, q⟩ => by
  rcases hq with hq | ⟨o, hq, hdn⟩
  · exact call_dictP hcalm pins s σ H xs us Q I r ⟨a, ps, es, ex, hq, hp, q⟩
  · subst ex
    obtain rfl := Vals.ref1 r
    obtain ⟨ho, hz, its, rv, o', ho', hc, n, hd⟩ : s.heap.get? a = some o ∧ _ := I.hok a _ hq
    obtain rfl := Option.some.inj (ho.symm.trans ho')
    obtain rfl := refs_at rv
    rw [List.length_map] at hz
    obtain ⟨ws, prs, rel, l1, l2, h1, h2⟩ := pairs_at I hp
    have ok : PySem.PlainSeq "tuple" s.heap a (ps.map Value.ref).toArray ∧ PySem.PairItems s.heap (ps.map Value.ref).toArray (fun j => ps.getD j 0) ws := by
      refine ⟨⟨o, n, ho, hc, hdn, hd⟩, by rw [List.size_toArray, List.length_map, l1], fun j k v e => ?_⟩
      obtain ⟨p, e1, e2⟩ := h1 j k v e
      have e3 : ps.getD j 0 = p := by rw [List.getD_eq_getElem?_getD, e1]; rfl
      refine ⟨by show (ps.map Value.ref).toArray[j]? = some (Value.ref (ps.getD j 0)); rw [e3]; simp [e1], .inl ?_⟩
      show s.heap.IsTuple (ps.getD j 0) #[k, v]
      rw [e3]
      exact e2
    refine PySem.call_dict_pairs (knd := mixKind X.prog X.w) (kvs := prs) (PySem.PairArg.tuple a (ps.map Value.ref).toArray (fun j => ps.getD j 0) ws) (I.ok.hd hcalm) ok ⟨by rw [l2, l1], fun i key v e => ?_⟩ (by rw [l1]; exact hz) fun h' tk hd' kp => ?_
    · obtain ⟨k, e1, e2⟩ := h2 i key v e
      exact ⟨k, e1, e2⟩
    · have hm : (s.heap.objs.size == sysModules) = false := beq_eq_false_iff_ne.mpr (Nat.ne_of_gt I.big)
      have hlen : (mergeK [] es).length ≤ sizeLine := by
        refine Nat.le_trans (length_mergeK es []) ?_
        rw [List.length_nil, Nat.zero_add, rel.length, l2]
        exact hz
      exact ⟨.ref s.heap.objs.size, upd H s.heap.objs.size (.dK (mergeK [] es)), I.laid (t' := tk) (fun b ob e => kp b ob (by simp) e) (Nat.le_refl _) (show ObjOk X.prog X.w _ _ _ (.dK (mergeK [] es)) from ⟨hlen, hm, merged [] prs, KV.merge rel .nil, hd'⟩), rfl, q _ (I.hok.fresh (Nat.le_refl _))⟩
end
def pairsD : List D → Option KVs
  | [] => some []
  | .tuple [kd, vd] :: r => (keyD kd).bind fun k => (pairsD r).map fun rs => (k, vd) :: rs
  | _ => none
theorem pairs_dq {K : PySem.W.Frag} {F : Hp} : ∀ {vs : List V} {ds : List D} {kvs : KVs}, DqAll K F vs ds → pairsD ds = some kvs → ∃ (ps : List Addr) (es : List (Key × V)), vs = ps.map V.ref ∧ Paired (fun p kv => SqT K F p [kV kv.1, kv.2]) ps es ∧ DKV K F es kvs
  | _, _, _, .nil, e => by
    cases e
    exact ⟨[], [], rfl, .nil, .nil⟩
  | (v :: vs), (d :: ds), kvs, .cons a r, e => by
    cases a with
    | tup q1 r1 =>
      cases r1 with
      | nil => cases e
      | cons a1 r1 =>
        cases r1 with
        | nil => cases e
        | cons a2 r1 =>
          cases r1 with
          | cons _ _ => cases e
          | nil =>
            obtain ⟨k, e1, e2⟩ := bind_some e
            obtain ⟨rs, e3, rfl⟩ := map_some e2
            obtain ⟨ps, es, rfl, h1, h2⟩ := pairs_dq r e3
            obtain rfl := key_dp a1 e1
            exact ⟨_ :: ps, (k, _) :: es, rfl, .cons q1.sq h1, .cons ⟨rfl, a2⟩ h2⟩
    | non => cases e
    | bl _ => cases e
    | int _ => cases e
    | str _ => cases e
    | lst _ _ => cases e
theorem paired_same {K : PySem.W.Frag} {H H' : Hp} (s : Same H H') : ∀ {ps : List Addr} {es : List (Key × V)}, Paired (fun p kv => SqT K H p [kV kv.1, kv.2]) ps es → Paired (fun p kv => SqT K H' p [kV kv.1, kv.2]) ps es
  | _, _, .nil => .nil
  | _, _, .cons a r => .cons (s.seqT a) (paired_same s r)
section
variable {X : Cx} {K : PySem.W.Frag} {a b c e : Expr} {f h : Mir} {g g' : MirM} {pos : Pos} {S : Addr → Prop} {H : Hp}
/-- a new dict stands at p -/
theorem new_dic {p : Addr} {es : List (Key × V)} {kvs : KVs} (hp : H p = none) (h : DKV K (hid S H) es kvs) : Same H (upd H p (.dK es)) ∧ DKV K (hid (plus S p) (upd H p (.dK es))) es kvs :=
  ⟨same_upd hp, h.mono fun b o q => by
    obtain ⟨n1, n2⟩ := of_hid q
    have hb : b ≠ p := ne_of_none n2 hp
    refine hid_of (fun z => z.elim n1 hb) ?_
    rw [upd_ne hb]
    exact n2⟩
def dPairs (f : Mir) : MirM := fun ρ => (f ρ).bind fun
  | .list xs => (pairsD xs).map fun kvs => mergeD [] kvs
  | .tuple xs => (pairsD xs).map fun kvs => mergeD [] kvs
  | _ => none
theorem dn_pairs {p : Pos} (hg : Gl X "dict") (hm : X.mg "dict" = none) (ha : PD X e f) (hc : X.calm = true := by rfl) (he : starEach [e] X.env = (false, eval e X.env) :: starEach [] X.env := by rfl) (hpl : (backTo pos (starEach [] X.env)).any (·.1) = false := by rfl) : PND X (.Call (.Name "dict" p) [e] [] pos) (dPairs f) :=
  weak (pe_callTy (call_dictT hc) hg hm (by decide +kernel) (pa_cons ha pa_nil he) (he := he) (hpl := hpl)) fun σ H Q ⟨S, B, ρ, kvs, E, e, k⟩ => by
    obtain ⟨d, e1, e2⟩ := bind_some e
    refine ⟨S, B, ρ, d, E, e1, fun v H1 s1 p1 => ?_⟩
    show rDictT X.K [v] H1 Q
    cases p1 with
    | lst q r =>
      obtain ⟨kv, e3, rfl⟩ := map_some (show (pairsD _).map _ = some kvs from e2)
      obtain ⟨ps, es, rfl, h1, h2⟩ := pairs_dq r e3
      refine ⟨_, ps, es, rfl, .inl ((hid_same S H1).seq q), paired_same (hid_same S H1) h1, fun p hp => ?_⟩
      obtain ⟨s2, n2⟩ := new_dic hp (h2.merge .nil)
      exact k p _ _ (s1.trans s2) (s1.free hp) upd_same n2
    | tup q r =>
      obtain ⟨kv, e3, rfl⟩ := map_some (show (pairsD _).map _ = some kvs from e2)
      obtain ⟨ps, es, rfl, h1, h2⟩ := pairs_dq r e3
      refine ⟨_, ps, es, rfl, .inr (q.mono (hid_same S H1)), paired_same (hid_same S H1) h1, fun p hp => ?_⟩
      obtain ⟨s2, n2⟩ := new_dic hp (h2.merge .nil)
      exact k p _ _ (s1.trans s2) (s1.free hp) upd_same n2
    | non => cases e2
    | bl _ => cases e2
    | int _ => cases e2
    | str _ => cases e2
def dNil : MirM := fun _ => some []
theorem dn_nil : PND X (.Dict [] [] pos) dNil := weak pe_dnewK fun σ H Q ⟨S, B, ρ, kvs, E, e, k⟩ => by
  cases e
  refine fun p hp => ?_
  obtain ⟨s2, n2⟩ := new_dic (K := X.K) (S := S) hp (.nil : DKV X.K (hid S H) [] [])
  exact k p _ _ s2 hp upd_same n2
/-! ### items -/
def itemsOf (kvs : KVs) : List D := kvs.map fun p => PyData.tuple [kD p.1, p.2]
/-- the pairs that were made are laid, plain -/
theorem lay_pairs {pins : List (Addr × Obj)} {σ : L2.St} {s : Shared} {h' : Heap} {tk : Nat} {vs : List (Key × Value)} {es : List (Key × V)} (kv : KV es vs) : ∀ (as : List Addr) (n : Nat) (H1 : Hp), Inv X pins σ H1 { s with heap := h', toks := tk } → as.Pairwise (· < ·) → (∀ a ∈ as, s.heap.objs.size ≤ a ∧ FpOk X pins H1 a) →
    (∀ (j : Nat) (a : Addr), as[j]? = some a → ∃ key k x, vs[n + j]? = some (k, x) ∧ keyIs k key = true ∧ h'.get? a = some { cls := .type "tuple", data := .seq #[key, x] }) →
    ∃ H2, Inv X pins σ H2 { s with heap := h', toks := tk } ∧ Same H1 H2 ∧ (∀ a ∈ as, H1 a = none) ∧ (∀ b, b ∉ as → H2 b = H1 b) ∧ ∀ (j : Nat) (a : Addr), as[j]? = some a → ∃ k v, es[n + j]? = some (k, v) ∧ TupF H2 a [kV k, v]
  | [], n, H1, I1, _, _, _ => ⟨H1, I1, Same.refl _, fun _ h => (nomatch h), fun _ _ => rfl, fun j a e => by simp at e⟩
  | a :: as, n, H1, I1, hpw, hf, hpr => by
    obtain ⟨hge, fp⟩ := hf a List.mem_cons_self
    obtain ⟨key, k, x, e1, e2, e3⟩ := hpr 0 a rfl
    obtain ⟨v, e4, e5⟩ : ∃ v, es[n + 0]? = some (k, v) ∧ RelV v x := by
      have l := kv.length
      cases q : es[n + 0]? with
      | none =>
        have h1 := List.getElem?_eq_none_iff.mp q
        have h2 := (List.getElem?_eq_some_iff.mp e1).1
        omega
      | some p =>
        obtain ⟨b, hb, r⟩ := L2.paired_get kv q
        rw [e1] at hb
        cases hb
        have rk : p.1 = k := r.1
        exact ⟨p.2, by rw [← rk], r.2⟩
    have hnone : H1 a = none := fp.1
    have I2 : Inv X pins σ (upd H1 a (.frz { cls := .type "tuple", data := .seq #[key, x] } (.tup [kV k, v]))) { s with heap := h', toks := tk } :=
      I1.take (h' := h') (t' := tk) (fun b ob _ q => q) fp ⟨e3, by show 2 ≤ sizeLine; decide, [key, x], .cons (relV_key e2) (.cons e5 .nil), _, e3, rfl, 0, rfl⟩
    obtain ⟨h1, hpw'⟩ := List.pairwise_cons.mp hpw
    have hna : a ∉ as := fun z => Nat.lt_irrefl _ (h1 a z)
    have hne : ∀ b ∈ as, b ≠ a := fun b hb z => hna (z ▸ hb)
    obtain ⟨H2, J, sm, n1, n2, n3⟩ := lay_pairs kv as (n + 1) _ I2 hpw' (fun b hb => ⟨(hf b (List.mem_cons_of_mem _ hb)).1, by
      obtain ⟨f0, f1, f2, f3, f4, f5⟩ := (hf b (List.mem_cons_of_mem _ hb)).2
      exact ⟨by rw [upd_ne (hne b hb)]; exact f0, f1, f2, f3, f4, f5⟩⟩) fun j b hj => by
        obtain ⟨key', k', x', q1, q2, q3⟩ := hpr (j + 1) b hj
        exact ⟨key', k', x', by rw [show n + 1 + j = n + (j + 1) by omega]; exact q1, q2, q3⟩
    refine ⟨H2, J, (same_upd hnone).trans sm, fun b hb => ?_, fun b hb => ?_, fun j b hj => ?_⟩
    · rcases List.mem_cons.mp hb with rfl | hb
      · exact hnone
      · have := n1 b hb
        rw [upd_ne (hne b hb)] at this
        exact this
    · rw [n2 b fun z => hb (List.mem_cons_of_mem _ z), upd_ne fun z => hb (by rw [z]; exact List.mem_cons_self)]
    · cases j with
      | zero =>
        rw [List.getElem?_cons_zero] at hj
        cases hj
        exact ⟨k, v, e4, _, sm _ _ upd_same, rfl⟩
      | succ j =>
        rw [List.getElem?_cons_succ] at hj
        obtain ⟨k', v', q1, q2⟩ := n3 j b hj
        exact ⟨k', v', by rw [show n + (j + 1) = n + 1 + j by omega]; exact q1, q2⟩
theorem items_dq {F F2 : Hp} : ∀ {as : List Addr} {es : List (Key × V)} {kvs : KVs} {n : Nat}, as.length = es.length → DKV K F es kvs → Same F F2 → (∀ (j : Nat) (a : Addr), as[j]? = some a → ∃ k v, es[j]? = some (k, v) ∧ TupF F2 a [kV k, v]) → DqAll K F2 (as.map V.ref) (itemsOf kvs)
  | [], _, _, _, hl, d, _, _ => by
    cases d with
    | nil => exact .nil
    | cons _ _ => simp at hl
  | a :: as, _, _, n, hl, d, s, h => by
    cases d with
    | nil => simp at hl
    | @cons p q es kvs d1 d2 =>
      obtain ⟨k, v, e1, e2⟩ := h 0 a rfl
      rw [List.getElem?_cons_zero] at e1
      cases e1
      refine .cons (.tup e2 (.cons ?_ (.cons (Dq.mono s d1.2) .nil))) (items_dq (n := n) (by simpa using hl) d2 s fun j b hj => h (j + 1) b hj)
      have : k = q.1 := d1.1
      rw [this]
      exact kD_dp q.1
def rItemsK : V → List V → Hp → VK → Prop := fun x xs H Q => ∃ (a : Addr) (es : List (Key × V)), x = .ref a ∧ xs = [] ∧ H a = some (.dK es) ∧ ∀ p, H p = none → Q (.ref p) (upd H p (L2.DX.itemsO p a))
theorem mt_itemsK : MtR X "dict.items" rItemsK := fun pins s σ H x xs v us Q I rx rxs ⟨a, es, ex, exs, ha, q⟩ => by
  subst ex exs
  cases rx
  cases rxs
  obtain ⟨_, hd, vs, _, o, ds, ep, ho, hx, hdat, _⟩ := dk_of I.hok ha
  refine DT.callItems (es := ds) (ep := ep) hd ⟨o, ho, hx, hdat⟩ ?_
  exact ⟨.ref _, _, I.laid (t' := s.toks) (fun b u e => Heap.get?_push_of_some _ e) (Nat.le_refl _) (L2.DX.itemsO_ok (Heap.get?_push_size _ rfl)), rfl, q _ (I.hok.fresh (Nat.le_refl _))⟩
/-- e.items(), seen -/
def tvOf (K : PySem.W.Frag) (g : MirM) : TE := fun σ H Q => ∃ S B ρ kvs, EnvOk K S B H σ ρ ∧ g ρ = some kvs ∧ ∀ p a es H', Same H H' → H' p = some (L2.DX.itemsO p a) → H' a = some (.dK es) → DKV K (hid S H') es kvs → Q (.ref p) H'
theorem vd_items {apos cpos : Pos} (h : PMD X e g) (hb : attributeBase e "items" X.env (eval e X.env) = eval e X.env := by rfl) (hline : (apos.endLine == cpos.line) = true := by rfl) : PE X (.Call (.Attribute e "items" apos) [] [] cpos) (tvOf X.K g) :=
  weak (pe_bm0 PySem.F.plainAttrs_dict PySem.F.slot_dict_items PySem.F.type_dict_items mt_itemsK h (hbase := hb) (hline := hline)) fun σ H Q ⟨S, B, ρ, kvs, E, e, k⟩ => ⟨S, B, ρ, kvs, E, e, fun a es H1 s1 h1 d1 => ⟨.inr (.inr (.inl ⟨rfl, .inl ⟨es, h1⟩⟩)), a, es, rfl, rfl, h1, fun p hp => by
    have ne : a ≠ p := ne_of_none h1 hp
    refine k p a es _ (s1.trans (same_upd hp)) upd_same (by rw [upd_ne ne]; exact h1) (d1.mono (same_hid (same_upd hp)))⟩⟩
def rItemsSort (K : PySem.W.Frag) : List V → Hp → VK → Prop := fun vs H Q => ∃ (p a : Addr) (es : List (Key × V)), vs = [V.ref p] ∧ H p = some (L2.DX.itemsO p a) ∧ H a = some (.dK es) ∧ ∃ (F : Hp) (kvs : KVs), (∀ b o, F b = some o → H b = some o) ∧ DKV K F es kvs ∧ sortOk (itemsOf kvs) = true ∧
  ∀ P out H1, Same H H1 → H1 P = none → (∀ F2, (∀ b o, F b = some o → F2 b = some o) → (∀ b o, H1 b = some o → H b = none → F2 b = some o) → DqAll K F2 out ((itemsOf kvs).mergeSort leD)) → Q (.ref P) (upd H1 P (.lst out))
theorem cr_itemsSort (hc : X.calm = true) (hu : X.A.units + 64 < cLine) : CallR X (.builtin "sorted") (rItemsSort X.K) := fun pins s σ H xs us Q I r ⟨p, a, es, ex, hp, ha, F, kvs, hF, dk, ok, k⟩ => by
  subst ex
  obtain rfl := Vals.ref1 r
  have view : s.heap.IsItemsView p a := (show ObjOk X.prog X.w H s.heap p (L2.DX.itemsO p a) from I.hok p _ hp).1
  obtain ⟨hz, _, vs, kv, hdo⟩ := dk_of I.hok ha
  obtain ⟨ep, hat⟩ := hdo.dictAt
  have lk : es.length = vs.length := Paired.length kv
  refine call_sortedC (R := fun H1 ws => Same H H1 ∧ ∀ F2, (∀ b o, F b = some o → F2 b = some o) → (∀ b o, H1 b = some o → H b = none → F2 b = some o) → DqAll X.K F2 ws (itemsOf kvs)) hu ok ?_ fun H1 ws ⟨sm, hw⟩ P out s2 hP I2 d2 => ⟨.ref P, _, I2, rfl, k P out H1 sm hP fun F2 f1 f2 => d2 F2 (hw F2 f1 f2)⟩
  refine PySem.W.kdx_collect (knd := mixKind X.prog X.w) (kvs := vs) (ep := ep) (I.ok.hd hc) view hat (by omega) fun h' tk as hk hl hG => ?_
  have I1 : Inv X pins σ H { s with heap := h', toks := tk } := I.kept (t' := tk) hk
  obtain ⟨H2, J, sm, n1, n2, n3⟩ := lay_pairs (s := s) kv as 0 H I1 hG.rise (fun b hb => by
    have hlt := hG.above b hb
    exact ⟨Nat.le_of_lt hlt, I.fpOk (Nat.le_of_lt hlt) (I.hok.fresh (Nat.le_of_lt hlt))⟩) fun j b hj => by
      obtain ⟨key, k', x, q1, q2, q3⟩ := hG.pairs j b hj
      exact ⟨key, k', x, by rw [Nat.zero_add]; exact q1, q2, q3⟩
  have both : ∀ F2, (∀ b o, F b = some o → F2 b = some o) → (∀ b o, H2 b = some o → H b = none → F2 b = some o) → DqAll X.K F2 (as.map V.ref) (itemsOf kvs) := fun F2 f1 f2 => items_dq (n := 0) (by omega) dk f1 fun j b hj => by
    obtain ⟨k', v', q1, o, q2, q3⟩ := n3 j b hj
    rw [Nat.zero_add] at q1
    exact ⟨k', v', q1, o, f2 b _ q2 (n1 b (List.mem_of_getElem? hj)), q3⟩
  exact ⟨H2, as.map V.ref, J, LiI.vals_refs as, both H2 (fun b o q => sm _ _ (hF b o q)) fun b o q _ => q, sm, both⟩
def mSItems (g : MirM) : Mir := fun ρ => (g ρ).bind fun kvs => if sortOk (itemsOf kvs) = true then some (.list ((itemsOf kvs).mergeSort leD)) else none
theorem pd_sitems {p apos cpos : Pos} (hg : Gl X "sorted") (hm : X.mg "sorted" = none) (hu : X.A.units + 64 < cLine) (h : PMD X e g) (hc : X.calm = true := by rfl) (hb : attributeBase e "items" X.env (eval e X.env) = eval e X.env := by rfl) (hline : (apos.endLine == cpos.line) = true := by rfl)
    (he : starEach [.Call (.Attribute e "items" apos) [] [] cpos] X.env = (false, eval (.Call (.Attribute e "items" apos) [] [] cpos) X.env) :: starEach [] X.env := by rfl) (hpl : (backTo pos (starEach [] X.env)).any (·.1) = false := by rfl) : PD X (.Call (.Name "sorted" p) [.Call (.Attribute e "items" apos) [] [] cpos] [] pos) (mSItems g) :=
  weak (pe_callB (cr_itemsSort hc hu) hg hm (by decide +kernel) (pa_cons (vd_items h hb hline) pa_nil he) (he := he) (hpl := hpl)) fun σ H Q ⟨S, B, ρ, d, E, e, k⟩ => by
    obtain ⟨kvs, e1, e2⟩ := bind_some e
    obtain ⟨c, rfl⟩ := ite_some e2
    refine ⟨S, B, ρ, kvs, E, e1, fun p a es H1 s1 h1 h2 d1 => ⟨p, a, es, rfl, h1, h2, hid S H1, kvs, fun b o q => (of_hid q).2, d1, c, fun P out H2 s2 hP d2 => ?_⟩⟩
    have E2 := (E.step s1).step s2
    obtain ⟨s3, n3⟩ := new_lst (K := X.K) (S := S) E2.sub hP (d2 (hid S H2) (fun b o q => same_hid s2 _ _ q) fun b o q1 q2 => hid_of (fun z => (E.step s1).sub b z q2) q1)
    exact k _ _ ((s1.trans s2).trans s3) n3
/-- list(e.items()) -/
def rItemsList (K : PySem.W.Frag) : List V → Hp → VK → Prop := fun vs H Q => ∃ (p a : Addr) (es : List (Key × V)), vs = [V.ref p] ∧ H p = some (L2.DX.itemsO p a) ∧ H a = some (.dK es) ∧ ∃ (F : Hp) (kvs : KVs), (∀ b o, F b = some o → H b = some o) ∧ DKV K F es kvs ∧
  ∀ P out H1, Same H H1 → H1 P = none → (∀ F2, (∀ b o, F b = some o → F2 b = some o) → (∀ b o, H1 b = some o → H b = none → F2 b = some o) → DqAll K F2 out (itemsOf kvs)) → Q (.ref P) (upd H1 P (.lst out))
theorem cr_itemsList (hc : X.calm = true) : CallR X (.type "list") (rItemsList X.K) := fun pins s σ H xs us Q I r ⟨p, a, es, ex, hp, ha, F, kvs, hF, dk, k⟩ => by
  subst ex
  obtain rfl := Vals.ref1 r
  have view : s.heap.IsItemsView p a := (show ObjOk X.prog X.w H s.heap p (L2.DX.itemsO p a) from I.hok p _ hp).1
  obtain ⟨hz, _, vs, kv, hdo⟩ := dk_of I.hok ha
  obtain ⟨ep, hat⟩ := hdo.dictAt
  have lk : es.length = vs.length := Paired.length kv
  refine PySem.W.kdx_call (knd := mixKind X.prog X.w) (kvs := vs) (ep := ep) (I.ok.hd hc) view hat (by omega) fun h' tk acc c as hk hS hl hG hacc => ?_
  have I1 : Inv X pins σ H { s with heap := h', toks := tk } := I.kept (t' := tk) hk
  obtain ⟨H2, J, sm, n1, n2, n3⟩ := lay_pairs (s := s) kv as 0 H I1 hG.rise (fun b hb => by
    have hlt := hG.above b hb
    exact ⟨Nat.le_of_lt hlt, I.fpOk (Nat.le_of_lt hlt) (I.hok.fresh (Nat.le_of_lt hlt))⟩) fun j b hj => by
      obtain ⟨key, k', x, q1, q2, q3⟩ := hG.pairs j b hj
      exact ⟨key, k', x, by rw [Nat.zero_add]; exact q1, q2, q3⟩
  have hSn : s.heap.objs.size ∉ as := fun z => Nat.lt_irrefl _ (hG.above _ z)
  have hP : H2 s.heap.objs.size = none := by rw [n2 _ hSn]; exact I.hok.fresh (Nat.le_refl _)
  refine ⟨.ref s.heap.objs.size, upd H2 s.heap.objs.size (.lst (as.map V.ref)), J.take (h' := h') (t' := tk) (fun b ob _ q => q) (I.fpOk (Nat.le_refl _) hP) ⟨by rw [List.length_map]; omega, as.map Value.ref, c, LiI.vals_refs as, ?_⟩, rfl, k _ _ H2 sm hP fun F2 f1 f2 => ?_⟩
  · rw [← hacc, Array.toArray_toList]
    exact hS
  · exact items_dq (n := 0) (by omega) dk f1 fun j b hj => by
      obtain ⟨k', v', q1, o, q2, q3⟩ := n3 j b hj
      rw [Nat.zero_add] at q1
      exact ⟨k', v', q1, o, f2 b _ q2 (n1 b (List.mem_of_getElem? hj)), q3⟩
def mItems (g : MirM) : Mir := fun ρ => (g ρ).map fun kvs => PyData.list (itemsOf kvs)
theorem pd_litems {p apos cpos : Pos} (hg : Gl X "list") (hm : X.mg "list" = none) (h : PMD X e g) (hc : X.calm = true := by rfl) (hb : attributeBase e "items" X.env (eval e X.env) = eval e X.env := by rfl) (hline : (apos.endLine == cpos.line) = true := by rfl)
    (he : starEach [.Call (.Attribute e "items" apos) [] [] cpos] X.env = (false, eval (.Call (.Attribute e "items" apos) [] [] cpos) X.env) :: starEach [] X.env := by rfl) (hpl : (backTo pos (starEach [] X.env)).any (·.1) = false := by rfl) : PD X (.Call (.Name "list" p) [.Call (.Attribute e "items" apos) [] [] cpos] [] pos) (mItems g) :=
  weak (pe_callTy (cr_itemsList hc) hg hm (by decide +kernel) (pa_cons (vd_items h hb hline) pa_nil he) (he := he) (hpl := hpl)) fun σ H Q ⟨S, B, ρ, d, E, e, k⟩ => by
    obtain ⟨kvs, e1, rfl⟩ := map_some e
    refine ⟨S, B, ρ, kvs, E, e1, fun p a es H1 s1 h1 h2 d1 => ⟨p, a, es, rfl, h1, h2, hid S H1, kvs, fun b o q => (of_hid q).2, d1, fun P out H2 s2 hP d2 => ?_⟩⟩
    have E2 := (E.step s1).step s2
    obtain ⟨s3, n3⟩ := new_lst (K := X.K) (S := S) E2.sub hP (d2 (hid S H2) (fun b o q => same_hid s2 _ _ q) fun b o q1 q2 => hid_of (fun z => (E.step s1).sub b z q2) q1)
    exact k _ _ ((s1.trans s2).trans s3) n3
end
end Pu

set_option Elab.async false
set_option linter.all false
set_option autoImplicit false
set_option maxRecDepth 100000
/-! statements that change a dict or a list of one's own -/
namespace Pu
open PySem PySem.Spec PyProof.Rows L2
section
variable {X : Cx} {K : PySem.W.Frag} {S T : Addr → Prop} {B : Base} {H H' : Hp} {σ : L2.St} {ρ : Rho}
theorem slot_ref {i : Nat} {x : Sl} (E : EnvOk K S B H σ ρ) (h : ρ[i]? = some x) (o : x.owned = true) : ∃ a, σ[i]? = some (some (.ref a)) ∧ S a ∧ B.hi a = none ∧ ∃ u, H a = some u := by
  have z := E.slot i x h
  cases w : σ[i]? with
  | none =>
    rw [w] at z
    cases x <;> first | (cases o; done) | exact z.elim
  | some ov =>
    rw [w] at z
    cases ov with
    | none => cases x <;> first | (cases o; done) | exact z.elim
    | some v =>
      cases x with
      | own ds =>
        obtain ⟨a, vs, rfl, h1, h2, h3, _⟩ := z
        exact ⟨a, rfl, h1, h2, _, h3⟩
      | dic kvs =>
        obtain ⟨a, vs, rfl, h1, h2, h3, _⟩ := z
        exact ⟨a, rfl, h1, h2, _, h3⟩
      | mu kvs =>
        obtain ⟨a, vs, rfl, h1, h2, h3, _, _⟩ := z
        exact ⟨a, rfl, h1, h2, _, h3⟩
      | no => cases o
      | dat _ => cases o
      | bor _ => cases o
      | dtab _ _ _ => cases o
theorem slot_kep {i : Nat} {x : Sl} {a : Addr} {u : HO} (E : EnvOk K S B H σ ρ) (h : ρ[i]? = some x) (o : x.owned = true) (ha : σ[i]? = some (some (.ref a))) (hu : H a = some u) : ¬ Kep u := by
  have q := E.slot i x h
  rw [ha] at q
  cases x with
  | no => cases o
  | dat _ => cases o
  | bor _ => cases o
  | dtab _ _ _ => cases o
  | own ds =>
    obtain ⟨b, vs, e1, _, _, e4, _⟩ := q
    cases e1
    rw [e4] at hu
    cases hu
    exact fun z => z
  | dic ds =>
    obtain ⟨b, vs, e1, _, _, e4, _⟩ := q
    cases e1
    rw [e4] at hu
    cases hu
    exact fun z => z
  | mu ds =>
    obtain ⟨b, vs, e1, _, _, e4, _, _⟩ := q
    cases e1
    rw [e4] at hu
    cases hu
    exact fun z => z
/-- a new object of one's own comes to a slot -/
theorem StOk.setNew {i : Nat} {p : Addr} {x : Sl} (E : StOk K S T B H σ ρ) (s : Same H H') (hp : H p = none) (hq : H' p ≠ none) (hx : SlOk K (plus S p) B H' (some (.ref p)) x) : StOk K (plus S p) T B H' (σ.set i (some (.ref p))) (ρ.set i x) := by
  have G := E.env.grow s hp hq
  have oth : ∀ {j : Nat} {y : Sl}, ρ[j]? = some y → y.owned = true → σ[j]? ≠ some (some (.ref p)) := fun {j y} h o z => by
    obtain ⟨a, h1, _, _, u, h2⟩ := slot_ref E.env h o
    rw [h1] at z
    cases z
    rw [hp] at h2
    cases h2
  refine ⟨⟨by rw [List.length_set, List.length_set]; exact E.env.len, G.sub, G.base, fun j y h => ?_, fun j l a y z hn hy oy hz oz => ?_, G.tab⟩, fun a ta => .inl (E.sup a ta), E.inn, fun a sa => ?_⟩
  · by_cases hj : i = j
    · subst hj
      have hl : i < ρ.length := by
        have := (List.getElem?_eq_some_iff.mp h).1
        rw [List.length_set] at this
        exact this
      rw [List.getElem?_set_self hl] at h
      cases h
      rw [set_getD (by rw [E.env.len]; exact hl)]
      exact hx
    · rw [List.getElem?_set_ne hj] at h ⊢
      exact G.slot j y h
  · by_cases hj : i = j
    · subst hj
      have hl : i < ρ.length := by
        have := (List.getElem?_eq_some_iff.mp hy).1
        rw [List.length_set] at this
        exact this
      rw [List.getElem?_set_self (by rw [E.env.len]; exact hl), List.getElem?_set_ne hn]
      rw [List.getElem?_set_ne hn] at hz
      intro e
      cases e
      exact oth hz oz
    · rw [List.getElem?_set_ne hj] at hy ⊢
      by_cases hl' : i = l
      · subst hl'
        have hl : i < ρ.length := by
          have := (List.getElem?_eq_some_iff.mp hz).1
          rw [List.length_set] at this
          exact this
        rw [List.getElem?_set_self (by rw [E.env.len]; exact hl)]
        intro e e2
        cases e2
        exact oth hy oy e
      · rw [List.getElem?_set_ne hl'] at hz ⊢
        exact E.env.apart j l a y z hn hy oy hz oz
  · rcases sa with sa | sa
    · exact E.lim a sa
    · rw [sa]
      exact .inr (E.env.base.free hp)
/-- the object of a slot of one's own changes -/
theorem StOk.change {i : Nat} {a : Addr} {x y : Sl} {u : HO} (E : StOk K S T B H σ ρ) (hx : ρ[i]? = some x) (ox : x.owned = true) (ha : σ[i]? = some (some (.ref a))) (off : ∀ b o, b ≠ a → H b = some o → H' b = some o) (at' : H' a = some u) (hy : SlOk K S B H' (some (.ref a)) y) (oy : y.owned = true) : StOk K S T B H' σ (ρ.set i y) := by
  obtain ⟨a', h1, hS, hB, v, hv⟩ := slot_ref E.env hx ox
  rw [ha] at h1
  cases h1
  have hl : i < ρ.length := (List.getElem?_eq_some_iff.mp hx).1
  have sh : Same (hid S H) (hid S H') := fun b o q => by
    obtain ⟨n1, n2⟩ := of_hid q
    exact hid_of n1 (off b o (fun z => n1 (by rw [z]; exact hS)) n2)
  have own : ∀ {j : Nat} {z : Sl}, (ρ.set i y)[j]? = some z → z.owned = true → ∃ z', ρ[j]? = some z' ∧ z'.owned = true := fun {j z} h o => by
    by_cases hj : i = j
    · subst hj
      exact ⟨x, hx, ox⟩
    · rw [List.getElem?_set_ne hj] at h
      exact ⟨z, h, o⟩
  refine ⟨⟨by rw [List.length_set]; exact E.env.len, fun b sb => ?_, fun b o q => ?_, fun j z h => ?_, fun j l b z z' hn hz oz hz' oz' => ?_, B.tabM _ _ E.env.tab fun b o q kp => off b o (fun z => slot_kep E.env hx ox ha (by rw [← z]; exact q) kp) q⟩, E.sup, E.inn, E.lim⟩
  · by_cases hb : b = a
    · rw [hb, at']
      exact fun z => nomatch z
    · cases q : H b with
      | none => exact absurd q (E.env.sub b sb)
      | some o =>
        rw [off b o hb q]
        exact fun z => nomatch z
  · have hb : b ≠ a := fun z => by
      rw [z, hB] at q
      cases q
    exact off b o hb (E.env.base b o q)
  · by_cases hj : i = j
    · subst hj
      rw [List.getElem?_set_self hl] at h
      cases h
      rw [ha]
      exact hy
    · rw [List.getElem?_set_ne hj] at h
      have q := E.env.slot j z h
      cases hσ : (σ[j]?.getD none) with
      | none =>
        rw [hσ] at q
        cases z <;> first | trivial | exact q
      | some w =>
        rw [hσ] at q
        have ne : ∀ {b : Addr}, w = .ref b → z.owned = true → b ≠ a := fun {b} e o e2 => by
          subst e e2
          have hj2 : σ[j]? = some (some (.ref b)) := by
            cases hw : σ[j]? with
            | none =>
              rw [hw] at hσ
              cases hσ
            | some ov =>
              rw [hw] at hσ
              exact congrArg some hσ
          exact E.env.apart i j b x z hj hx ox h o ha hj2
        cases z with
        | no => trivial
        | dat d => exact Dq.mono sh q
        | own ds =>
          obtain ⟨b, vs, e1, e2, e3, e4, e5⟩ := q
          exact ⟨b, vs, e1, e2, e3, off b _ (ne e1 rfl) e4, e5.mono sh⟩
        | dic kvs =>
          obtain ⟨b, vs, e1, e2, e3, e4, e5⟩ := q
          exact ⟨b, vs, e1, e2, e3, off b _ (ne e1 rfl) e4, e5.mono sh⟩
        | mu kvs =>
          obtain ⟨b, vs, e1, e2, e3, e4, e5, e6⟩ := q
          exact ⟨b, vs, e1, e2, e3, off b _ (ne e1 rfl) e4, e5.mono sh, e6⟩
        | dtab P q' d => exact ⟨Dq.mono sh q.1, q.2⟩
        | bor kvs =>
          obtain ⟨b, vs, e1, e2, e3⟩ := q
          exact ⟨b, vs, e1, e2, e3.mono sh⟩
  · obtain ⟨w, hw, ow⟩ := own hz oz
    obtain ⟨w', hw', ow'⟩ := own hz' oz'
    exact E.env.apart j l b w w' hn hw ow hw' ow'
end
section
variable {X : Cx} {K : PySem.W.Frag} {a b e : Expr} {f h : Mir} {g : MirM} {pos : Pos}
/-- name = a new dict -/
def sDic (i : Nat) (g : MirM) : MirS := fun ρ => (g ρ).map fun kvs => Out.nx (ρ.set i (.dic kvs))
theorem sd_dic {i : Nat} {x : Str} {pos' : Pos} (h : PND X e g) (hN : X.N.Nodup) (hi : X.N[i]? = some x := by rfl) (hx : Loc X.env.scope x := by first | exact .inl rfl | exact .inr rfl) (hs : swapsWith e (some (.Name x pos')) pos.line X.env = pure false := by rfl) (hf : X.fn x = true ∨ X.env.scope.names.lookup x = some .local := by first | exact .inl rfl | exact .inr rfl | assumption) :
    PSD X (.Assign [.Name x pos'] e pos) (sDic i g) := weakS (ps_set (i := i) hN hi hx h hs hf) fun Dn σ H ⟨T, B, ρ, o, ⟨S, E⟩, e, k⟩ => by
  obtain ⟨kvs, e1, rfl⟩ := map_some e
  exact ⟨S, B, ρ, kvs, E.env, e1, fun p es H' s hp hq d => k _ H' ⟨_, E.setNew s hp (by rw [hq]; exact fun z => nomatch z) ⟨p, es, rfl, .inr rfl, E.env.base.free hp, hq, d⟩⟩⟩
/-- d[k] = v -/
def sDPut (i : Nat) (f h : Mir) : MirS := fun ρ => (h ρ).bind fun v => (f ρ).bind fun x => (keyD x).bind fun k => match ρ[i]? with
  | some (.dic kvs) => if kvs.length < sizeLine then some (.nx (ρ.set i (.dic (putD kvs k v)))) else none
  | _ => none
theorem sd_dput (i : Nat) {x : Str} {px pos' : Pos} (hu : X.A.units + 1 < cLine) (hk : PD X b f) (hv : PD X e h) (hN : X.N[i]? = some x := by rfl) (hvis : Vis X.env.scope x := by first | exact Or.inl rfl | exact Or.inr (Or.inl rfl) | exact Or.inr (Or.inr rfl)) (hd : (x == ("__debug__" : Str)) = false := by decide)
    (hcd : (x == ("__classdict__" : Str)) = false := by decide) (hs : swapsWith e (some (.Subscript (.Name x px) b pos')) pos.line X.env = pure false := by rfl) : PSD X (.Assign [.Subscript (.Name x px) b pos'] e pos) (sDPut i f h) :=
  weakS (ps_dput hu (pe_var hN hvis hd hcd) hk hv hs) fun Dn σ H ⟨T, B, ρ, o, ⟨S, E⟩, e, k⟩ => by
    obtain ⟨v, e1, e2⟩ := bind_some e
    obtain ⟨y, e3, e4⟩ := bind_some e2
    obtain ⟨ky, e5, e6⟩ := bind_some e4
    cases q : ρ[i]? with
    | none =>
      rw [q] at e6
      cases e6
    | some sl =>
      rw [q] at e6
      cases sl <;> try (cases e6; done)
      rename_i kvs
      obtain ⟨c, rfl⟩ := ite_some e6
      refine ⟨S, B, ρ, v, E.env, e1, fun w H1 s1 p1 => ?_⟩
      have E1 := E.step s1
      obtain ⟨ad, h1, hS, hB, _, _⟩ := slot_ref E1.env q rfl
      refine ⟨.ref ad, h1, S, B, ρ, y, E1.env, e3, fun w2 H2 s2 p2 => ?_⟩
      have E2 := E1.step s2
      have z := E2.env.slot i _ q
      rw [h1] at z
      obtain ⟨ad', es, ea, _, _, hH, hdk⟩ := z
      cases ea
      obtain rfl := key_dp p2 e5
      refine ⟨ad, _, rfl, DPut.k hH (by rw [hdk.len]; exact c), k _ _ ⟨S, E2.change q rfl h1 (fun b o hb q => by rw [upd_ne hb]; exact q) upd_same ?_ rfl⟩⟩
      refine ⟨ad, _, rfl, hS, hB, upd_same, (hdk.put ky (Dq.mono (same_hid s2) p1)).mono fun b o q => ?_⟩
      obtain ⟨n1, n2⟩ := of_hid q
      exact hid_of n1 (by rw [upd_ne fun z => n1 (by rw [z]; exact hS)]; exact n2)
/-! ### a def that changes the dict handed to it -/
abbrev MirU := KVs → List D → Option KVs
def spMut (K : PySem.W.Frag) (n : Nat) (F : MirU) : Sp := fun vs H Q _ => ∃ S a es kvs ws xs kvs', vs = V.ref a :: ws ∧ Sub S H ∧ S a ∧ H a = some (.dK es) ∧ DKV K (hid S H) es kvs ∧ DqAll K (hid S H) ws xs ∧ xs.length = n ∧ F kvs xs = some kvs' ∧
  ∀ es' H', (∀ b o, b ≠ a → H b = some o → H' b = some o) → H' a = some (.dK es') → DKV K (hid S H') es' kvs' → Q .non H'
def OkM (P : Program) (w : World) (K : PySem.W.Frag) (mg : Str → Option Value) (base : Heap) (k : Nat) (x : Str) (n : Nat) (F : MirU) : Prop :=
  ∃ (a : Addr) (fd : FuncData) (ps : List Str), FnOk P w K mg base CX0 k a fd ps (spMut K n F) ∧ mg x = some (.ref a) ∧ PySem.W.keepIn K (.ref a) = true ∧ Binds K fd ps []
def sMut (i n : Nat) (F : MirU) (r : MirA) : MirS := fun ρ => match ρ[i]? with
  | some (.dic kvs) => (r ρ).bind fun xs => if xs.length = n then (F kvs xs).map fun kvs' => Out.nx (ρ.set i (.dic kvs')) else none
  | _ => none
theorem sd_mut (i : Nat) {F : MirU} {n k : Nat} {x y : Str} {p px : Pos} {es : List Expr} {r : MirA} {cpos : Pos} (hF : OkM X.prog X.w X.K X.mg X.base k x n F) (hr : Room k X.A) (ha : PAD X es r) (hN : X.N[i]? = some y := by rfl) (hvis : Vis X.env.scope y := by first | exact Or.inl rfl | exact Or.inr (Or.inl rfl) | exact Or.inr (Or.inr rfl)) (hd : (y == ("__debug__" : Str)) = false := by decide)
    (hcd : (y == ("__classdict__" : Str)) = false := by decide) (hg : Gl X x := by rfl) (hdb : (x == ("__debug__" : Str)) = false := by decide) (he : starEach (.Name y px :: es) X.env = (false, eval (.Name y px) X.env) :: starEach es X.env := by rfl) (hpl : (backTo cpos (starEach es X.env)).any (·.1) = false := by rfl)
    (hs : swapsWith (.Call (.Name x p) (.Name y px :: es) [] cpos) none pos.line X.env = pure false := by rfl) : PSD X (.Expr (.Call (.Name x p) (.Name y px :: es) [] cpos) pos) (sMut i n F r) := by
  obtain ⟨fa, fd, ps, h1, h2, h3, h4⟩ := hF
  refine weakS (ps_expr (pe_call h1 hr hg h2 h3 h4 .nil pass0 (pa_cons (pe_var hN hvis hd hcd) ha he) hdb he hpl) hs) fun Dn σ H ⟨T, B, ρ, o, ⟨S, E⟩, e, k⟩ => ?_
  unfold sMut at e
  cases q : ρ[i]? with
  | none =>
    rw [q] at e
    cases e
  | some sl =>
    rw [q] at e
    cases sl <;> try (cases e; done)
    rename_i kvs
    obtain ⟨xs, e1, e2⟩ := bind_some e
    by_cases cn : xs.length = n
    rotate_left
    · rw [if_neg cn] at e2
      cases e2
    rw [if_pos cn] at e2
    obtain ⟨kvs', e3, rfl⟩ := map_some e2
    obtain ⟨ad, hσ, hS, hB, _, _⟩ := slot_ref E.env q rfl
    refine ⟨.ref ad, hσ, S, B, ρ, xs, E.env, e1, fun vs H1 s1 p1 => ?_⟩
    have E1 := E.step s1
    have z := E1.env.slot i _ q
    rw [hσ] at z
    obtain ⟨ad', es1, ea, _, _, hH, hdk⟩ := z
    cases ea
    show spMut X.K n F ((V.ref ad :: vs) ++ []) H1 _ E0
    rw [List.append_nil]
    refine ⟨S, ad, es1, kvs, vs, xs, kvs', rfl, E1.env.sub, hS, hH, hdk, p1, cn, e3, fun es' H' off at' dk' => ?_⟩
    exact k _ _ ⟨S, E1.change q rfl hσ off at' ⟨ad, es', rfl, hS, hB, at', dk'⟩ rfl⟩
/-! ### arguments that are dicts -/
def xBor (i : Nat) (r : MirX) : MirX := fun ρ => (dVar i ρ).bind fun kvs => (r ρ).bind fun xs => some (.bor kvs :: xs)
theorem xl_bor {i : Nat} {r : MirX} {n : Nat} (h : XLen r n) : XLen (xBor i r) (n + 1) := fun ρ xs e => by
  obtain ⟨x, e1, e2⟩ := bind_some e
  obtain ⟨ys, e3, e4⟩ := bind_some e2
  cases e4
  rw [List.length_cons, h ρ ys e3]
theorem xd_bor (i : Nat) {x : Str} {es : List Expr} {r : MirX} {px : Pos} (hr : PXD X es r) (hN : X.N[i]? = some x := by rfl) (hv : Vis X.env.scope x := by first | exact Or.inl rfl | exact Or.inr (Or.inl rfl) | exact Or.inr (Or.inr rfl)) (hd : (x == ("__debug__" : Str)) = false := by decide)
    (hcd : (x == ("__classdict__" : Str)) = false := by decide) (hs : starEach (.Name x px :: es) X.env = (false, eval (.Name x px) X.env) :: starEach es X.env := by rfl) : PXD X (.Name x px :: es) (xBor i r) :=
  weakA (pa_cons (dr_var i hN hv hd hcd) hr hs) fun σ H Q ⟨S, B, ρ, ds, E, e, k⟩ => by
    obtain ⟨x, e1, e2⟩ := bind_some e
    obtain ⟨xs, e3, e4⟩ := bind_some e2
    cases e4
    exact ⟨S, B, ρ, x, E, e1, fun a es H1 s1 h1 d1 => ⟨S, B, ρ, xs, E.step s1, e3, fun vs H2 s2 p2 => k _ H2 (s1.trans s2) (.cons ⟨a, es, rfl, s2 _ _ h1, d1.mono (same_hid s2)⟩ p2)⟩⟩
/-! ### lists that grow -/
def sOwn (i : Nat) (f : MirL) : MirS := fun ρ => (f ρ).map fun ds => Out.nx (ρ.set i (.own ds))
theorem sd_own {i : Nat} {x : Str} {pos' : Pos} {f : MirL} (h : PLD X e f) (hN : X.N.Nodup) (hi : X.N[i]? = some x := by rfl) (hx : Loc X.env.scope x := by first | exact .inl rfl | exact .inr rfl) (hs : swapsWith e (some (.Name x pos')) pos.line X.env = pure false := by rfl) (hf : X.fn x = true ∨ X.env.scope.names.lookup x = some .local := by first | exact .inl rfl | exact .inr rfl | assumption) :
    PSD X (.Assign [.Name x pos'] e pos) (sOwn i f) := weakS (ps_set (i := i) hN hi hx h hs hf) fun Dn σ H ⟨T, B, ρ, o, ⟨S, E⟩, e, k⟩ => by
  obtain ⟨ds, e1, rfl⟩ := map_some e
  exact ⟨S, B, ρ, ds, E.env, e1, fun p vs H' s hp hq d => k _ H' ⟨_, E.setNew s hp (by rw [hq]; exact fun z => nomatch z) ⟨p, vs, rfl, .inr rfl, E.env.base.free hp, hq, d⟩⟩⟩
def lLst (r : MirA) : MirL := fun ρ => (r ρ).bind fun xs => if xs.length ≤ sizeLine then some xs else none
theorem ld_lst {es : List Expr} {r : MirA} (h : PAD X es r) : PLD X (.List es pos) (lLst r) := weak (pe_lst h) fun σ H Q ⟨S, B, ρ, d, E, e, k⟩ => by
  obtain ⟨xs, e1, e2⟩ := bind_some e
  obtain ⟨c, rfl⟩ := ite_some e2
  refine ⟨S, B, ρ, xs, E, e1, fun vs H1 s1 p1 => ⟨by rw [p1.length]; exact c, fun p hp => ?_⟩⟩
  refine k p vs _ (s1.trans (same_upd hp)) (s1.free hp) upd_same (p1.mono fun b o q => ?_)
  obtain ⟨n1, n2⟩ := of_hid q
  have hb : b ≠ p := ne_of_none n2 hp
  exact hid_of (fun z => z.elim n1 hb) (by rw [upd_ne hb]; exact n2)
/-- a list of one's own, read at its top -/
def lOwn (i : Nat) : Rho → Option (List D) := fun ρ => match ρ[i]? with
  | some (.own ds) => some ds
  | _ => none
theorem own_slot {S : Addr → Prop} {B : Base} {H : Hp} {σ : L2.St} {ρ : Rho} {i : Nat} {ds : List D} (E : EnvOk K S B H σ ρ) (h : ρ[i]? = some (.own ds)) : ∃ a vs, σ[i]? = some (some (.ref a)) ∧ S a ∧ B.hi a = none ∧ H a = some (.lst vs) ∧ DqAll K (hid S H) vs ds := by
  obtain ⟨a, h1, _⟩ := slot_ref E h rfl
  have z := E.slot i _ h
  rw [h1] at z
  obtain ⟨a', vs, ea, e2, e3, e4, e5⟩ := z
  cases ea
  exact ⟨a, vs, h1, e2, e3, e4, e5⟩
/-- x.append(e) -/
def sAppend (i : Nat) (f : Mir) : MirS := fun ρ => (lOwn i ρ).bind fun ds => (f ρ).bind fun d => if ds.length < sizeLine then some (.nx (ρ.set i (.own (ds ++ [d])))) else none
theorem sd_append (i : Nat) {x : Str} {px apos cpos : Pos} {f : Mir} (he : PD X e f) (hN : X.N[i]? = some x := by rfl) (hvis : Vis X.env.scope x := by first | exact Or.inl rfl | exact Or.inr (Or.inl rfl) | exact Or.inr (Or.inr rfl)) (hd : (x == ("__debug__" : Str)) = false := by decide)
    (hcd : (x == ("__classdict__" : Str)) = false := by decide) (hst : starEach [e] X.env = (false, eval e X.env) :: starEach [] X.env := by rfl)
    (hs : swapsWith (.Call (.Attribute (.Name x px) "append" apos) [e] [] cpos) none pos.line X.env = pure false := by rfl)
    (hb : attributeBase (.Name x px) "append" X.env (eval (.Name x px) X.env) = eval (.Name x px) X.env := by rfl) (hline : (apos.endLine == cpos.line) = true := by rfl)
    (hfew : ((backTo cpos (starEach [e] X.env)).all (fun x => !x.1) && (backToKw cpos (keywordEach [] X.env)).all (fun x => x.1.isSome) && decide (([e] : List Expr).length + ([] : List Keyword).length + (if ([] : List Keyword).isEmpty then 0 else 1) < 30)) = true := by rfl) (hplain : (backTo cpos (starEach ([] : List Expr) X.env)).any (·.1) = false := by rfl) :
    PSD X (.Expr (.Call (.Attribute (.Name x px) "append" apos) [e] [] cpos) pos) (sAppend i f) := by
  refine weakS (ps_expr (pe_bm PySem.F.plainAttrs_list PySem.F.slot_list_append PySem.F.type_list_append mt_append (pe_var hN hvis hd hcd) (pa_cons he pa_nil hst) (hbase := hb) (hfew := hfew) (hline := hline) (hs := hst) (hplain := hplain)) hs) fun Dn σ H ⟨T, B, ρ, o, ⟨S, E⟩, e, k⟩ => ?_
  obtain ⟨ds, e1, e2⟩ := bind_some e
  obtain ⟨d, e3, e4⟩ := bind_some e2
  obtain ⟨c, rfl⟩ := ite_some e4
  unfold lOwn at e1
  cases q : ρ[i]? with
  | none =>
    rw [q] at e1
    cases e1
  | some sl =>
    rw [q] at e1
    cases sl <;> try (cases e1; done)
    cases e1
    obtain ⟨a, vs, h1, h2, h3, h4, h5⟩ := own_slot E.env q
    refine ⟨.ref a, h1, .inl ⟨rfl, _, SqL.of h4⟩, S, B, ρ, d, E.env, e3, fun v H1 s1 p1 => ?_⟩
    have E1 := E.step s1
    refine ⟨a, vs, v, rfl, rfl, s1 _ _ h4, by rw [h5.length]; exact c, ?_⟩
    refine k _ _ ⟨S, E1.change q rfl h1 (fun b o hb q => by rw [upd_ne hb]; exact q) upd_same ⟨a, _, rfl, h2, h3, upd_same, ((h5.mono (same_hid s1)).snoc p1).mono fun b o q => ?_⟩ rfl⟩
    obtain ⟨n1, n2⟩ := of_hid q
    exact hid_of n1 (by rw [upd_ne fun z => n1 (by rw [z]; exact h2)]; exact n2)
/-- x.extend([..]) -/
def sExtend (i : Nat) (f : MirL) : MirS := fun ρ => (lOwn i ρ).bind fun ds => (f ρ).bind fun es => if ds.length + es.length ≤ sizeLine then some (.nx (ρ.set i (.own (ds ++ es)))) else none
theorem sd_extend (i : Nat) {x : Str} {px apos cpos : Pos} {f : MirL} (he : PLD X e f) (hN : X.N[i]? = some x := by rfl) (hvis : Vis X.env.scope x := by first | exact Or.inl rfl | exact Or.inr (Or.inl rfl) | exact Or.inr (Or.inr rfl)) (hd : (x == ("__debug__" : Str)) = false := by decide)
    (hcd : (x == ("__classdict__" : Str)) = false := by decide) (hst : starEach [e] X.env = (false, eval e X.env) :: starEach [] X.env := by rfl)
    (hs : swapsWith (.Call (.Attribute (.Name x px) "extend" apos) [e] [] cpos) none pos.line X.env = pure false := by rfl)
    (hb : attributeBase (.Name x px) "extend" X.env (eval (.Name x px) X.env) = eval (.Name x px) X.env := by rfl) (hline : (apos.endLine == cpos.line) = true := by rfl)
    (hfew : ((backTo cpos (starEach [e] X.env)).all (fun x => !x.1) && (backToKw cpos (keywordEach [] X.env)).all (fun x => x.1.isSome) && decide (([e] : List Expr).length + ([] : List Keyword).length + (if ([] : List Keyword).isEmpty then 0 else 1) < 30)) = true := by rfl) (hplain : (backTo cpos (starEach ([] : List Expr) X.env)).any (·.1) = false := by rfl) :
    PSD X (.Expr (.Call (.Attribute (.Name x px) "extend" apos) [e] [] cpos) pos) (sExtend i f) := by
  refine weakS (ps_expr (pe_bm PySem.F.plainAttrs_list PySem.F.slot_list_extend PySem.F.type_list_extend mt_extend (pe_var hN hvis hd hcd) (pa_cons he pa_nil hst) (hbase := hb) (hfew := hfew) (hline := hline) (hs := hst) (hplain := hplain)) hs) fun Dn σ H ⟨T, B, ρ, o, ⟨S, E⟩, e, k⟩ => ?_
  obtain ⟨ds, e1, e2⟩ := bind_some e
  obtain ⟨es, e3, e4⟩ := bind_some e2
  obtain ⟨c, rfl⟩ := ite_some e4
  unfold lOwn at e1
  cases q : ρ[i]? with
  | none =>
    rw [q] at e1
    cases e1
  | some sl =>
    rw [q] at e1
    cases sl <;> try (cases e1; done)
    cases e1
    obtain ⟨a, vs, h1, h2, h3, h4, h5⟩ := own_slot E.env q
    refine ⟨.ref a, h1, .inl ⟨rfl, _, SqL.of h4⟩, S, B, ρ, es, E.env, e3, fun p ws H1 s1 hp hq p1 => ?_⟩
    have E1 := E.step s1
    refine ⟨a, p, vs, ws, rfl, rfl, s1 _ _ h4, hq, by rw [h5.length, p1.length]; exact c, ?_⟩
    refine k _ _ ⟨S, E1.change q rfl h1 (fun b o hb q => by rw [upd_ne hb]; exact q) upd_same ⟨a, _, rfl, h2, h3, upd_same, ((h5.mono (same_hid s1)).append (p1.mono (hid_le H1 fun _ z => .inl z))).mono fun b o q => ?_⟩ rfl⟩
    obtain ⟨n1, n2⟩ := of_hid q
    exact hid_of n1 (by rw [upd_ne fun z => n1 (by rw [z]; exact h2)]; exact n2)
/-- return x, a list of one's own -/
def sRetOwn (i : Nat) : MirS := fun ρ => (lOwn i ρ).map fun ds => Out.rt (.list ds)
theorem sd_retOwn (i : Nat) {x : Str} {px : Pos} (hN : X.N[i]? = some x := by rfl) (hvis : Vis X.env.scope x := by first | exact Or.inl rfl | exact Or.inr (Or.inl rfl) | exact Or.inr (Or.inr rfl)) (hd : (x == ("__debug__" : Str)) = false := by decide)
    (hcd : (x == ("__classdict__" : Str)) = false := by decide) : PSD X (.Return (some (.Name x px)) pos) (sRetOwn i) := weakS (ps_ret (pe_var hN hvis hd hcd)) fun Dn σ H ⟨T, B, ρ, o, ⟨S, E⟩, e, k⟩ => by
  obtain ⟨ds, e1, rfl⟩ := map_some e
  unfold lOwn at e1
  cases q : ρ[i]? with
  | none =>
    rw [q] at e1
    cases e1
  | some sl =>
    rw [q] at e1
    cases sl <;> try (cases e1; done)
    cases e1
    obtain ⟨a, vs, h1, h2, h3, h4, h5⟩ := own_slot E.env q
    exact ⟨.ref a, h1, k _ H E.env.base (.lst (.inl (.inl (hid_of (fun z => E.inn a z h3) h4))) (h5.mono (hid_le H E.sup)))⟩
end
end Pu

set_option Elab.async false
set_option linter.all false
set_option autoImplicit false
set_option maxRecDepth 100000
/-! a def that changes the dict handed to it: its statements, and the def -/
namespace Pu
open PySem PySem.Spec PyProof.Rows L2
section
variable {X : Cx} {K : PySem.W.Frag} {S T : Addr → Prop} {B : Base} {H H' : Hp} {σ : L2.St} {ρ : Rho}
theorem mu_slot {i : Nat} {kvs : KVs} (E : EnvOk K S B H σ ρ) (h : ρ[i]? = some (.mu kvs)) : ∃ es, σ[i]? = some (some (.ref B.pin)) ∧ S B.pin ∧ B.hi B.pin = none ∧ H B.pin = some (.dK es) ∧ DKV K (hid S H) es kvs := by
  obtain ⟨a', h1, _⟩ := slot_ref E h rfl
  have z := E.slot i _ h
  rw [h1] at z
  obtain ⟨a2, es, ea, e2, e3, e4, e5, e6⟩ := z
  cases ea
  rw [e6] at h1 e2 e3 e4
  exact ⟨es, h1, e2, e3, e4, e5⟩
theorem StOk.muSet {i : Nat} {kvs kvs' : KVs} {es' : List (Key × V)} (E : StOk K S T B H σ ρ) (h : ρ[i]? = some (.mu kvs)) (d : DKV K (hid S H) es' kvs') : StOk K S T B (upd H B.pin (.dK es')) σ (ρ.set i (.mu kvs')) := by
  obtain ⟨es, h1, h2, h3, h4, h5⟩ := mu_slot E.env h
  refine E.change h rfl h1 (fun b o hb q => by rw [upd_ne hb]; exact q) upd_same ?_ rfl
  refine ⟨B.pin, _, rfl, h2, h3, upd_same, d.mono fun b o q => ?_, rfl⟩
  obtain ⟨n1, n2⟩ := of_hid q
  exact hid_of n1 (by rw [upd_ne fun z => n1 (by rw [z]; exact h2)]; exact n2)
theorem hid_upd {a : Addr} {o : HO} (h2 : S a) : Same (hid S H) (hid S (upd H a o)) := fun b o q => by
  obtain ⟨n1, n2⟩ := of_hid q
  exact hid_of n1 (by rw [upd_ne fun z => n1 (by rw [z]; exact h2)]; exact n2)
def muOf (i : Nat) (ρ : Rho) : Option KVs := match ρ[i]? with
  | some (.mu kvs) => some kvs
  | _ => none
theorem of_muOf {i : Nat} {p : KVs} (h : muOf i ρ = some p) : ρ[i]? = some (.mu p) := by
  unfold muOf at h
  split at h
  · cases h
    assumption
  · cases h
end
section
variable {X : Cx} {K : PySem.W.Frag} {a b c e : Expr} {f g h : Mir} {pos : Pos}
/-- d[k] = v -/
def sMPut (i : Nat) (f h : Mir) : MirS := fun ρ => (h ρ).bind fun v => (f ρ).bind fun x => (keyD x).bind fun k => (muOf i ρ).bind fun p => if p.length < sizeLine then some (.nx (ρ.set i (.mu (putD p k v)))) else none
theorem sd_mput (i : Nat) {x : Str} {px pos' : Pos} (hu : X.A.units + 1 < cLine) (hk : PD X b f) (hv : PD X e h) (hN : X.N[i]? = some x := by rfl) (hvis : Vis X.env.scope x := by first | exact Or.inl rfl | exact Or.inr (Or.inl rfl) | exact Or.inr (Or.inr rfl)) (hd : (x == ("__debug__" : Str)) = false := by decide)
    (hcd : (x == ("__classdict__" : Str)) = false := by decide) (hs : swapsWith e (some (.Subscript (.Name x px) b pos')) pos.line X.env = pure false := by rfl) : PSD X (.Assign [.Subscript (.Name x px) b pos'] e pos) (sMPut i f h) :=
  weakS (ps_dput hu (pe_var hN hvis hd hcd) hk hv hs) fun Dn σ H ⟨T, B, ρ, o, ⟨S, E⟩, e, k⟩ => by
    obtain ⟨v, e1, e2⟩ := bind_some e
    obtain ⟨y, e3, e4⟩ := bind_some e2
    obtain ⟨ky, e5, e6⟩ := bind_some e4
    obtain ⟨p, e7, e8⟩ := bind_some e6
    have q := of_muOf e7
    obtain ⟨c, rfl⟩ := ite_some e8
    refine ⟨S, B, ρ, v, E.env, e1, fun w H1 s1 p1 => ?_⟩
    have E1 := E.step s1
    obtain ⟨es, h1, _⟩ := mu_slot E1.env q
    refine ⟨.ref B.pin, h1, S, B, ρ, y, E1.env, e3, fun w2 H2 s2 p2 => ?_⟩
    have E2 := E1.step s2
    obtain ⟨es, _, hS, hB, hH, hdk⟩ := mu_slot E2.env q
    obtain rfl := key_dp p2 e5
    exact ⟨B.pin, _, rfl, DPut.k hH (by rw [hdk.len]; exact c), k _ _ ⟨S, E2.muSet q (hdk.put ky (Dq.mono (same_hid s2) p1))⟩⟩
/-- d.pop(k, x) alone -/
def sMPop2 (i : Nat) (f h : Mir) : MirS := fun ρ => (f ρ).bind fun x => (h ρ).bind fun _ => (keyD x).bind fun k => (muOf i ρ).map fun p => .nx (ρ.set i (.mu (dropD p k)))
theorem dropD_none {kvs : KVs} {k : Key} (h : valD kvs k = none) : dropD kvs k = kvs := by
  unfold valD at h
  rw [Option.map_eq_none_iff, List.find?_eq_none] at h
  unfold dropD
  rw [List.filter_eq_self]
  intro x hx
  have := h x hx
  simpa using this
theorem dropK_none {es : List (Key × V)} {k : Key} (h : valV es k = none) : dropK es k = es := by
  unfold valV at h
  rw [Option.map_eq_none_iff, List.find?_eq_none] at h
  unfold dropK
  rw [List.filter_eq_self]
  intro x hx
  have := h x hx
  simpa using this
theorem set_self {ρ : Rho} {i : Nat} {x : Sl} (h : ρ[i]? = some x) : ρ.set i x = ρ := by
  obtain ⟨hl, rfl⟩ := List.getElem?_eq_some_iff.mp h
  exact List.set_getElem_self hl
theorem sd_mpop2 (i : Nat) {x : Str} {px apos cpos : Pos} (hk : PD X b f) (hx : PD X c h) (hN : X.N[i]? = some x := by rfl) (hvis : Vis X.env.scope x := by first | exact Or.inl rfl | exact Or.inr (Or.inl rfl) | exact Or.inr (Or.inr rfl)) (hd : (x == ("__debug__" : Str)) = false := by decide)
    (hcd : (x == ("__classdict__" : Str)) = false := by decide) (m : M2 X (.Name x px) "pop" apos b c cpos := by exact ⟨rfl, rfl, rfl, rfl⟩)
    (hs : swapsWith (.Call (.Attribute (.Name x px) "pop" apos) [b, c] [] cpos) none pos.line X.env = pure false := by rfl) : PSD X (.Expr (.Call (.Attribute (.Name x px) "pop" apos) [b, c] [] cpos) pos) (sMPop2 i f h) :=
  weakS (ps_expr (pe_dpop2 (pe_var hN hvis hd hcd) hk hx m) hs) fun Dn σ H ⟨T, B, ρ, o, ⟨S, E⟩, e, k⟩ => by
    obtain ⟨v, e1, e2⟩ := bind_some e
    obtain ⟨y, e3, e4⟩ := bind_some e2
    obtain ⟨ky, e5, e6⟩ := bind_some e4
    obtain ⟨p, e7, rfl⟩ := map_some e6
    have q := of_muOf e7
    obtain ⟨es, h1, hS, hB, hH, hdk⟩ := mu_slot E.env q
    refine ⟨.ref B.pin, h1, B.pin, rfl, .inl ⟨es, .inl hH⟩, S, B, ρ, v, E.env, e1, fun w H1 s1 p1 => ?_⟩
    have E1 := E.step s1
    refine ⟨S, B, ρ, y, E1.env, e3, fun w2 H2 s2 p2 => ?_⟩
    have E2 := E1.step s2
    obtain ⟨es, _, hS, hB, hH, hdk⟩ := mu_slot E2.env q
    obtain rfl := key_dp p1 e5
    refine ⟨es, ky, hH, rfl, fun v hv => k _ _ ⟨S, E2.muSet q (hdk.drop ky)⟩, fun hv => ?_⟩
    have hv' : valD p ky = none := by
      rcases hdk.val ky with ⟨_, z⟩ | ⟨v, d, z, _⟩
      · exact z
      · rw [hv] at z
        cases z
    refine k _ _ ⟨S, ?_⟩
    rw [dropD_none hv', set_self q]
    exact E2
/-- x = d.pop(k) -/
def sMPop1 (j i : Nat) (f : Mir) : MirS := fun ρ => (f ρ).bind fun x => (keyD x).bind fun k => (muOf i ρ).bind fun p => (valD p k).map fun d => .nx ((ρ.set i (.mu (dropD p k))).set j (.dat d))
theorem sd_mpop1 (j i : Nat) {x y : Str} {py px apos cpos : Pos} (hk : PD X b f) (hNd : X.N.Nodup) (hN : X.N[i]? = some x := by rfl) (hvis : Vis X.env.scope x := by first | exact Or.inl rfl | exact Or.inr (Or.inl rfl) | exact Or.inr (Or.inr rfl)) (hd : (x == ("__debug__" : Str)) = false := by decide)
    (hcd : (x == ("__classdict__" : Str)) = false := by decide) (m : M1 X (.Name x px) "pop" apos b cpos := by exact ⟨rfl, rfl, rfl, rfl⟩)
    (hi : X.N[j]? = some y := by rfl) (hx : Loc X.env.scope y := by first | exact .inl rfl | exact .inr rfl) (hs : swapsWith (.Call (.Attribute (.Name x px) "pop" apos) [b] [] cpos) (some (.Name y py)) pos.line X.env = pure false := by rfl) (hf : X.fn y = true ∨ X.env.scope.names.lookup y = some .local := by first | exact .inl rfl | exact .inr rfl | assumption) :
    PSD X (.Assign [.Name y py] (.Call (.Attribute (.Name x px) "pop" apos) [b] [] cpos) pos) (sMPop1 j i f) :=
  weakS (ps_set (i := j) hNd hi hx (pe_dpop1 (pe_var hN hvis hd hcd) hk m) hs hf) fun Dn σ H ⟨T, B, ρ, o, ⟨S, E⟩, e, k⟩ => by
    obtain ⟨v, e1, e2⟩ := bind_some e
    obtain ⟨ky, e5, e6⟩ := bind_some e2
    obtain ⟨p, e7, e8⟩ := bind_some e6
    obtain ⟨d, e9, rfl⟩ := map_some e8
    have q := of_muOf e7
    obtain ⟨es, h1, hS, hB, hH, hdk⟩ := mu_slot E.env q
    refine ⟨.ref B.pin, h1, B.pin, rfl, .inl ⟨es, .inl hH⟩, S, B, ρ, v, E.env, e1, fun w H1 s1 p1 => ?_⟩
    have E1 := E.step s1
    obtain ⟨es, _, hS, hB, hH, hdk⟩ := mu_slot E1.env q
    obtain rfl := key_dp p1 e5
    rcases hdk.val ky with ⟨_, z⟩ | ⟨v, d', z1, z2, z3⟩
    · rw [z] at e9
      cases e9
    · rw [z2] at e9
      cases e9
      exact ⟨es, ky, v, hH, rfl, z1, k _ _ ⟨S, (E1.muSet q (hdk.drop ky)).setD (Dq.mono (hid_upd hS) z3)⟩⟩
/-- d[k] = (a + d.pop(j)) % c -/
def sMJoin (i : Nat) (f g : Mir) (fb : Mir) (n : Int) : MirS := fun ρ => (g ρ).bind fun x => (fb ρ).bind fun y => (keyD y).bind fun j => (muOf i ρ).bind fun p => (valD p j).bind fun w => match x, w with
  | .int s, .int t => (f (ρ.set i (.mu (dropD p j)))).bind fun z => (keyD z).bind fun k => if 0 < n ∧ (dropD p j).length < sizeLine then some (.nx ((ρ.set i (.mu (dropD p j))).set i (.mu (putD (dropD p j) k (.int ((s + t) % n)))))) else none
  | _, _ => none
theorem sd_mjoin (i : Nat) {x cn : Str} {n : Int} {t : Tok} {fb : Mir} {px pc px2 apos cpos pm pa pos' : Pos} (hu : X.A.units + 1 < cLine) (hk : PD X a f) (hg : PD X c g) (hb : PD X b fb) (hmc : X.mg cn = some (.int n t)) (hgl : Gl X cn := by rfl) (hN : X.N[i]? = some x := by rfl) (hvis : Vis X.env.scope x := by first | exact Or.inl rfl | exact Or.inr (Or.inl rfl) | exact Or.inr (Or.inr rfl)) (hd : (x == ("__debug__" : Str)) = false := by decide)
    (hcd : (x == ("__classdict__" : Str)) = false := by decide) (hdc : (cn == ("__debug__" : Str)) = false := by decide) (m : M1 X (.Name x px2) "pop" apos b cpos := by exact ⟨rfl, rfl, rfl, rfl⟩)
    (hs : swapsWith (.BinOp (.BinOp c .Add (.Call (.Attribute (.Name x px2) "pop" apos) [b] [] cpos) pa) .Mod (.Name cn pc) pm) (some (.Subscript (.Name x px) a pos')) pos.line X.env = pure false := by rfl) :
    PSD X (.Assign [.Subscript (.Name x px) a pos'] (.BinOp (.BinOp c .Add (.Call (.Attribute (.Name x px2) "pop" apos) [b] [] cpos) pa) .Mod (.Name cn pc) pm) pos) (sMJoin i f g fb n) :=
  weakS (ps_dput hu (pe_var hN hvis hd hcd) hk (pe_op op_mod (pe_op op_add hg (pe_dpop1 (pe_var hN hvis hd hcd) hb m)) (pe_glob (v := .int n) hgl hmc ⟨t, rfl⟩ hdc)) hs) fun Dn σ H ⟨T, B, ρ, o, ⟨S, E⟩, e, k⟩ => by
    obtain ⟨v, e1, e⟩ := bind_some e
    obtain ⟨y, e2, e⟩ := bind_some e
    obtain ⟨j, e3, e⟩ := bind_some e
    obtain ⟨p, e4, e⟩ := bind_some e
    obtain ⟨w, hv, e⟩ := bind_some e
    have q := of_muOf e4
    cases v <;> try (cases e; done)
    cases w <;> try (cases e; done)
    obtain ⟨z, e5, e⟩ := bind_some e
    obtain ⟨ky, e6, e⟩ := bind_some e
    obtain ⟨cc, rfl⟩ := ite_some e
    refine ⟨S, B, ρ, _, E.env, e1, fun w H1 s1 p1 => ?_⟩
    have E1 := E.step s1
    obtain ⟨es, h1, hS, hB, hH, hdk⟩ := mu_slot E1.env q
    refine ⟨.ref B.pin, h1, B.pin, rfl, .inl ⟨es, .inl hH⟩, S, B, ρ, y, E1.env, e2, fun w2 H2 s2 p2 => ?_⟩
    have E2 := E1.step s2
    obtain ⟨es, _, hS, hB, hH, hdk⟩ := mu_slot E2.env q
    obtain rfl := key_dp p2 e3
    rcases hdk.val j with ⟨_, u⟩ | ⟨v, d', z1, z2, z3⟩
    · rw [u] at hv
      cases hv
    · rw [z2] at hv
      cases hv
      cases z3
      cases p1
      refine ⟨es, j, _, hH, rfl, z1, _, _, rfl, rfl, ?_⟩
      refine ⟨_, n, rfl, rfl, cc.1, ?_⟩
      have E3 := E2.muSet q (hdk.drop j)
      have hl : i < ρ.length := (List.getElem?_eq_some_iff.mp q).1
      have q3 : (ρ.set i (.mu (dropD p j)))[i]? = some (.mu (dropD p j)) := List.getElem?_set_self hl
      obtain ⟨es3, h3, _⟩ := mu_slot E3.env q3
      refine ⟨.ref B.pin, h3, S, B, _, z, E3.env, e5, fun w3 H3 s3 p3 => ?_⟩
      have E4 := E3.step s3
      obtain ⟨es4, h4, hS4, hB4, hH4, hdk4⟩ := mu_slot E4.env q3
      obtain rfl := key_dp p3 e6
      exact ⟨B.pin, _, rfl, DPut.k hH4 (by rw [hdk4.len]; exact cc.2), k _ _ ⟨S, E4.muSet q3 (hdk4.put ky (.int _))⟩⟩
end
/-! ### the def -/
def runM (n : Nat) (F : MirS) : MirU := fun kvs ds => match F (startR n (.mu kvs :: ds.map .dat)) with
  | some (.nx ρ') => muOf 0 ρ'
  | _ => none
section
variable {K : PySem.W.Frag} {S : Addr → Prop} {H : Hp}
open Classical in
noncomputable def less (H : Hp) (a : Addr) : Hp := hid (fun b => b = a) H
theorem start_mu {N : List Str} {a : Addr} {es : List (Key × V)} {kvs : KVs} {vs : List V} {ds : List D} (hs : Sub S H) (hS : S a) (hH : H a = some (.dK es)) (hd : DKV K (hid S H) es kvs) (h : DqAll K (hid S H) vs ds) :
    StOk K S (fun b => S b ∧ b ≠ a) ⟨less H a, less H a, Same.refl _, a, fun _ => True, fun _ _ _ _ => trivial⟩ H (L2.start N (.ref a :: vs)) (startR N.length (.mu kvs :: ds.map .dat)) := by
  have hl := h.length
  have la : less H a a = none := by
    cases q : less H a a with
    | none => rfl
    | some o => exact absurd rfl (of_hid q).1
  refine ⟨⟨?_, hs, hid_same _ _, fun i x e => ?_, fun i j b x y hn hx ox hy oy => ?_, trivial⟩, fun _ z => z.1, fun b z => ?_, fun b z => ?_⟩
  · unfold L2.start startR
    simp [hl]
  · unfold startR at e
    unfold L2.start
    cases i with
    | zero =>
      cases e
      exact ⟨a, es, rfl, hS, la, hH, hd, rfl⟩
    | succ i =>
      have e : (ds.map Sl.dat ++ List.replicate (N.length - (Sl.mu kvs :: ds.map Sl.dat).length) Sl.no)[i]? = some x := e
      show SlOk K S _ H ((vs.map some ++ List.replicate (N.length - (V.ref a :: vs).length) none)[i]?.getD none) x
      by_cases hi : i < ds.length
      · rw [List.getElem?_append_left (by rw [List.length_map]; exact hi), List.getElem?_map] at e
        obtain ⟨d, hd', rfl⟩ := map_some e
        obtain ⟨v, hv, q⟩ := h.get hd'
        rw [List.getElem?_append_left (by rw [List.length_map, hl]; exact hi), List.getElem?_map, hv]
        exact q
      · rw [List.getElem?_append_right (by rw [List.length_map]; omega)] at e
        obtain ⟨_, e⟩ := List.getElem?_eq_some_iff.mp e
        rw [List.getElem_replicate] at e
        subst e
        generalize (Option.getD _ none : Option V) = z
        cases z <;> trivial
  · have own0 : ∀ {i : Nat} {x : Sl}, (startR N.length (.mu kvs :: ds.map .dat))[i]? = some x → x.owned = true → i = 0 := fun {i x} e o => by
      cases i with
      | zero => rfl
      | succ i =>
        have e : (ds.map Sl.dat ++ List.replicate (N.length - (Sl.mu kvs :: ds.map Sl.dat).length) Sl.no)[i]? = some x := e
        have hm := List.mem_of_getElem? e
        rcases List.mem_append.mp hm with z | z
        · obtain ⟨d, _, rfl⟩ := List.mem_map.mp z
          cases o
        · rw [List.eq_of_mem_replicate z] at o
          cases o
    exact absurd ((own0 hx ox).trans (own0 hy oy).symm) hn
  · cases q : H b with
    | none => exact absurd q (hs b z.1)
    | some o =>
      show less H a b ≠ none
      rw [show less H a b = some o from hid_of (S := fun c => c = a) (fun w => z.2 w) q]
      exact fun w => nomatch w
  · by_cases hb : b = a
    · rw [hb]
      exact .inr la
    · exact .inl ⟨z, hb⟩
end
theorem okM {P : Program} {w : World} {K : PySem.W.Frag} {mg : Str → Option Value} {base : Heap} {x : Str} {st : Stmt} {N ps : List Str} {k n : Nat} {F : MirS} (Fn : Def K mg x st ps) (Sc : FnScope N ps (defScope st)) (hps : ps.length = n + 1)
    (hbody : ∀ (fa : Addr) (cdv : Value) (A : Around) (outer : List Env) (s : Shared) (H : Hp) (E : XK), Room k (A.deeper (envOfC x (defScope st) s.heap.objs.size fa cdv)) → PSsD (cxOf CX0 P w K mg base N x (defScope st) fa cdv A outer s H E).nox (defBody st) F) :
    OkM P w K mg base (k + 1) x n (runM N.length F) := by
  obtain ⟨fa, fd, h1, h2, h3⟩ := Fn
  refine ⟨fa, fd, ps, h1.ok Sc (fun vs H Q E ⟨S, a, es, kvs, ws, xs, kvs', e, _, _, _, _, d, hn, _⟩ => by rw [e, List.length_cons, d.length, hn, hps]) fun cdv A outer s H vs Q E hr ⟨S, a, es, kvs, ws, xs, kvs', e, hs, hS, hH, hd, d, hn, e2, q⟩ => ⟨_, hbody fa cdv A outer s H E hr, ?_⟩, h2, h1.kp, h3⟩
  subst e
  have E0 := start_mu (N := N) hs hS hH hd d
  unfold runM at e2
  cases o : F (startR N.length (.mu kvs :: xs.map .dat)) with
  | none =>
    rw [o] at e2
    cases e2
  | some r =>
    rw [o] at e2
    cases r with
    | nx ρ' =>
      refine ⟨_, _, _, _, ⟨S, E0⟩, o, fun σ' H' ⟨S', E'⟩ => ?_⟩
      obtain ⟨es', _, hS', _, hH', hd'⟩ := mu_slot E'.env (of_muOf e2)
      refine q es' H' (fun b o hb hq => E'.env.base b o (hid_of (S := fun c => c = a) hb hq)) hH' (hd'.mono (hid_le H' fun b hb => ?_))
      by_cases hba : b = a
      · rw [hba]
        exact hS'
      · exact E'.sup b ⟨hb, hba⟩
    | rt _ => cases e2
    | bk _ => cases e2
    | ct _ => cases e2
end Pu

set_option Elab.async false
set_option linter.all false
set_option autoImplicit false
set_option maxRecDepth 100000
/-! more built-ins: sum, max, all, isinstance; join, split, zfill -/
namespace Pu
open PySem PySem.Spec PyProof.Rows L2
def intD : D → Option Int
  | .int i => some i
  | _ => none
def boolD : D → Option Bool
  | .bool i => some i
  | _ => none
def strD : D → Option Str
  | .str i => some i
  | _ => none
/-- all of one kind -/
def allD {α : Type} (f : D → Option α) : List D → Option (List α)
  | [] => some []
  | d :: ds => (f d).bind fun a => (allD f ds).map fun as => a :: as
@[simp] theorem allD_map {α : Type} {f : D → Option α} {g : α → D} (h : ∀ a, f (g a) = some a) : ∀ l : List α, allD f (l.map g) = some l
  | [] => rfl
  | a :: l => by
    rw [List.map_cons, allD, h, allD_map h l]
    rfl
section
variable {X : Cx} {K : PySem.W.Frag} {a b c e : Expr} {f g : Mir} {pos : Pos}
theorem allD_dq {α : Type} {fd : D → Option α} {gv : α → V} {H : Hp} (h : ∀ (v : V) (d : D) (a : α), Dq K H v d → fd d = some a → v = gv a) : ∀ {vs : List V} {ds : List D} {as : List α}, DqAll K H vs ds → allD fd ds = some as → vs = as.map gv
  | _, _, _, .nil, e => by cases e; rfl
  | _, _, _, .cons q r, e => by
    obtain ⟨a, e1, e2⟩ := bind_some e
    obtain ⟨as, e3, rfl⟩ := map_some e2
    rw [List.map_cons, h _ _ _ q e1, allD_dq h r e3]
theorem int_dq {H : Hp} (v : V) (d : D) (i : Int) (h : Dq K H v d) (e : intD d = some i) : v = V.int i := by
  cases h <;> first | (cases e; done) | (cases e; rfl)
theorem bool_dq {H : Hp} (v : V) (d : D) (i : Bool) (h : Dq K H v d) (e : boolD d = some i) : v = V.bl i := by
  cases h <;> first | (cases e; done) | (cases e; rfl)
theorem str_dq {H : Hp} (v : V) (d : D) (i : Str) (h : Dq K H v d) (e : strD d = some i) : v = V.str i := by
  cases h <;> first | (cases e; done) | (cases e; rfl)
/-- sum -/
def oSum : List D → Option D
  | [.list xs] => (allD intD xs).map fun ns => PyData.int ns.sum
  | _ => none
theorem ok_sum : Cok K (rSum K) oSum := fun S H vs xs d Q hs p e k => by
  unfold oSum at e
  split at e
  · obtain ⟨ns, e1, rfl⟩ := map_some e
    obtain ⟨v, rfl, q⟩ := one_of p
    obtain ⟨a, ws, rfl, z1, z2⟩ := Dq.sqL q
    obtain rfl := allD_dq int_dq z2 e1
    exact ⟨a, ns, rfl, z1, k _ H (Same.refl H) (.int _)⟩
  · cases e
theorem pd_sum {ra : MirA} {p : Pos} (hg : Gl X "sum") (hm : X.mg "sum" = none) (ha : PAD X [e] ra) (hc : X.calm = true := by rfl) (he : starEach [e] X.env = (false, eval e X.env) :: starEach [] X.env := by rfl) (hpl : (backTo pos (starEach [] X.env)).any (·.1) = false := by rfl) : PD X (.Call (.Name "sum" p) [e] [] pos) (mA oSum ra) :=
  pd_callB (cr_sum hc) ok_sum hg hm (by decide +kernel) ha (he := he) (hpl := hpl)
/-- all -/
def oAll : List D → Option D
  | [.list xs] => (allD boolD xs).map fun ns => PyData.bool (ns.all id)
  | _ => none
theorem ok_all : Cok K (rAll K) oAll := fun S H vs xs d Q hs p e k => by
  unfold oAll at e
  split at e
  · obtain ⟨ns, e1, rfl⟩ := map_some e
    obtain ⟨v, rfl, q⟩ := one_of p
    obtain ⟨a, ws, rfl, z1, z2⟩ := Dq.sqL q
    obtain rfl := allD_dq bool_dq z2 e1
    exact ⟨a, ns, rfl, z1, k _ H (Same.refl H) (.bl _)⟩
  · cases e
theorem pd_all {ra : MirA} {p : Pos} (hg : Gl X "all") (hm : X.mg "all" = none) (ha : PAD X [e] ra) (hc : X.calm = true := by rfl) (he : starEach [e] X.env = (false, eval e X.env) :: starEach [] X.env := by rfl) (hpl : (backTo pos (starEach [] X.env)).any (·.1) = false := by rfl) : PD X (.Call (.Name "all" p) [e] [] pos) (mA oAll ra) :=
  pd_callB (cr_all hc) ok_all hg hm (by decide +kernel) ha (he := he) (hpl := hpl)
/-- max of a list -/
def maxI : List Int → Int
  | [] => 0
  | n :: ns => ns.foldl max n
theorem foldl_max : ∀ (ns : List Int) (n : Int), (ns.foldl max n = n ∨ ns.foldl max n ∈ ns) ∧ n ≤ ns.foldl max n ∧ ∀ y ∈ ns, y ≤ ns.foldl max n
  | [], n => ⟨.inl rfl, Int.le_refl _, fun _ h => nomatch h⟩
  | m :: ns, n => by
    obtain ⟨h1, h2, h3⟩ := foldl_max ns (max n m)
    rw [List.foldl_cons]
    refine ⟨?_, by omega, fun y hy => ?_⟩
    · rcases h1 with h1 | h1
      · rcases (by omega : max n m = n ∨ max n m = m) with z | z
        · exact .inl (h1.trans z)
        · exact .inr (List.mem_cons.mpr (.inl (h1.trans z)))
      · exact .inr (List.mem_cons_of_mem _ h1)
    · rcases List.mem_cons.mp hy with rfl | hy
      · omega
      · exact h3 y hy
theorem maxI_is {ns : List Int} (h : 0 < ns.length) : maxI ns ∈ ns ∧ ∀ y ∈ ns, y ≤ maxI ns := by
  cases ns with
  | nil => cases h
  | cons n ns =>
    obtain ⟨h1, h2, h3⟩ := foldl_max ns n
    refine ⟨?_, fun y hy => ?_⟩
    · rcases h1 with h1 | h1
      · exact List.mem_cons.mpr (.inl h1)
      · exact List.mem_cons_of_mem _ h1
    · rcases List.mem_cons.mp hy with rfl | hy
      · exact h2
      · exact h3 y hy
def oMax1 : List D → Option D
  | [.list xs] => (allD intD xs).bind fun ns => if 0 < ns.length then some (PyData.int (maxI ns)) else none
  | _ => none
theorem ok_max1 : Cok K (rMax K) oMax1 := fun S H vs xs d Q hs p e k => by
  unfold oMax1 at e
  split at e
  · obtain ⟨ns, e1, e2⟩ := bind_some e
    obtain ⟨hl, rfl⟩ := ite_some e2
    obtain ⟨v, rfl, q⟩ := one_of p
    obtain ⟨a, ws, rfl, z1, z2⟩ := Dq.sqL q
    obtain rfl := allD_dq int_dq z2 e1
    refine ⟨a, ns, rfl, z1, hl, fun m h1 h2 => ?_⟩
    have := maxI_is hl
    have : m = maxI ns := by
      have a1 := h2 _ this.1
      have a2 := this.2 _ h1
      omega
    subst this
    exact k _ H (Same.refl H) (.int _)
  · cases e
theorem pd_max1 {ra : MirA} {p : Pos} (hg : Gl X "max") (hm : X.mg "max" = none) (ha : PAD X [e] ra) (hc : X.calm = true := by rfl) (he : starEach [e] X.env = (false, eval e X.env) :: starEach [] X.env := by rfl) (hpl : (backTo pos (starEach [] X.env)).any (·.1) = false := by rfl) : PD X (.Call (.Name "max" p) [e] [] pos) (mA oMax1 ra) :=
  pd_callB (cr_max hc) ok_max1 hg hm (by decide +kernel) ha (he := he) (hpl := hpl)
def oMax2 : List D → Option D
  | [.int i, .int j] => some (.int (if j > i then j else i))
  | _ => none
theorem ok_max2 : Cok K (fun xs H Q => ∃ i j, xs = [V.int i, V.int j] ∧ Q (.int (if j > i then j else i)) H) oMax2 := fun S H vs xs d Q hs p e k => by
  unfold oMax2 at e
  split at e
  · cases e
    obtain ⟨v, w, rfl, q1, q2⟩ := two_of p
    cases q1
    cases q2
    exact ⟨_, _, rfl, k _ H (Same.refl H) (.int _)⟩
  · cases e
theorem pd_max2 {ra : MirA} {p : Pos} (hg : Gl X "max") (hm : X.mg "max" = none) (ha : PAD X [e, b] ra) (hc : X.calm = true := by rfl) (he : starEach [e, b] X.env = (false, eval e X.env) :: starEach [b] X.env := by rfl) (hpl : (backTo pos (starEach [b] X.env)).any (·.1) = false := by rfl) : PD X (.Call (.Name "max" p) [e, b] [] pos) (mA oMax2 ra) :=
  pd_callB (call_max2 hc) ok_max2 hg hm (by decide +kernel) ha (he := he) (hpl := hpl)
/-! isinstance -/
def tyD : D → String
  | .none => "NoneType"
  | .bool _ => "bool"
  | .int _ => "int"
  | .str _ => "str"
  | .list _ => "list"
  | .tuple _ => "tuple"
  | .dict _ => "dict"
theorem ty_dq {S : Addr → Prop} {H : Hp} {v : V} {d : D} (h : Dq K (hid S H) v d) : TyX K H v (.type (tyD d)) := by
  cases h with
  | non => exact .base .non
  | bl b => exact .base (.bl b)
  | int i => exact .base (.int i)
  | str x => exact .base (.str x)
  | lst q _ =>
    rcases (hid_same S H).seq q with (q | ⟨o, q⟩) | ⟨o, its, n, q, c, _⟩
    · exact .base (.lst q)
    · exact .base (.frz q)
    · exact .kList q c
  | tup q _ =>
    obtain ⟨o, q, _⟩ := q
    exact .fTuple (of_hid q).2
def oIsi (T : String) (d : D) : Option D := (kitB (tyD d) T).map PyData.bool
theorem pd_isi {T : String} {x : Str} {p px : Pos} (hg : Gl X "isinstance") (hm : X.mg "isinstance" = none) (hgt : Gl X x) (hmt : X.mg x = none) (hv : bootBuiltins x = some (.type T)) (ha : PD X e f) (hn : x ≠ "__name__" := by decide) (hdb : (x == ("__debug__" : Str)) = false := by decide)
    (hs1 : starEach [e, .Name x px] X.env = (false, eval e X.env) :: starEach [.Name x px] X.env := by rfl) (hs2 : starEach [.Name x px] X.env = (false, eval (.Name x px) X.env) :: starEach [] X.env := by rfl) (hpl : (backTo pos (starEach [.Name x px] X.env)).any (·.1) = false := by rfl) :
    PD X (.Call (.Name "isinstance" p) [e, .Name x px] [] pos) (m1 (oIsi T) f) :=
  weak (pe_callB call_isi hg hm (by decide +kernel) (pa_cons ha (pa_cons (pe_bltn (v := .ty T) hgt hmt hv rfl hn hdb) pa_nil hs2) hs1) (he := hs1) (hpl := hpl)) fun σ H Q ⟨S, B, ρ, d, E, e, k⟩ => by
    obtain ⟨x, e1, e2⟩ := m1_some e
    obtain ⟨b, e3, rfl⟩ := map_some e2
    refine ⟨S, B, ρ, x, E, e1, fun v H1 s1 p1 => ⟨v, .ty T, _, _, b, rfl, .ty T, ty_dq p1, kit_ty e3, k _ H1 s1 (.bl b)⟩⟩
theorem pd_isi_str {p px : Pos} (hg : Gl X "isinstance") (hm : X.mg "isinstance" = none) (hgt : Gl X "str") (hmt : X.mg "str" = none) (ha : PD X e f) (hs1 : starEach [e, .Name "str" px] X.env = (false, eval e X.env) :: starEach [.Name "str" px] X.env := by rfl) (hs2 : starEach [.Name "str" px] X.env = (false, eval (.Name "str" px) X.env) :: starEach [] X.env := by rfl) (hpl : (backTo pos (starEach [.Name "str" px] X.env)).any (·.1) = false := by rfl) : PD X (.Call (.Name "isinstance" p) [e, .Name "str" px] [] pos) (m1 (oIsi "str") f) := pd_isi hg hm hgt hmt (by decide +kernel) ha (hs1 := hs1) (hs2 := hs2) (hpl := hpl)
theorem pd_isi_int {p px : Pos} (hg : Gl X "isinstance") (hm : X.mg "isinstance" = none) (hgt : Gl X "int") (hmt : X.mg "int" = none) (ha : PD X e f) (hs1 : starEach [e, .Name "int" px] X.env = (false, eval e X.env) :: starEach [.Name "int" px] X.env := by rfl) (hs2 : starEach [.Name "int" px] X.env = (false, eval (.Name "int" px) X.env) :: starEach [] X.env := by rfl) (hpl : (backTo pos (starEach [.Name "int" px] X.env)).any (·.1) = false := by rfl) : PD X (.Call (.Name "isinstance" p) [e, .Name "int" px] [] pos) (m1 (oIsi "int") f) := pd_isi hg hm hgt hmt (by decide +kernel) ha (hs1 := hs1) (hs2 := hs2) (hpl := hpl)
theorem pd_isi_bool {p px : Pos} (hg : Gl X "isinstance") (hm : X.mg "isinstance" = none) (hgt : Gl X "bool") (hmt : X.mg "bool" = none) (ha : PD X e f) (hs1 : starEach [e, .Name "bool" px] X.env = (false, eval e X.env) :: starEach [.Name "bool" px] X.env := by rfl) (hs2 : starEach [.Name "bool" px] X.env = (false, eval (.Name "bool" px) X.env) :: starEach [] X.env := by rfl) (hpl : (backTo pos (starEach [.Name "bool" px] X.env)).any (·.1) = false := by rfl) : PD X (.Call (.Name "isinstance" p) [e, .Name "bool" px] [] pos) (m1 (oIsi "bool") f) := pd_isi hg hm hgt hmt (by decide +kernel) ha (hs1 := hs1) (hs2 := hs2) (hpl := hpl)
theorem pd_isi_tuple {p px : Pos} (hg : Gl X "isinstance") (hm : X.mg "isinstance" = none) (hgt : Gl X "tuple") (hmt : X.mg "tuple" = none) (ha : PD X e f) (hs1 : starEach [e, .Name "tuple" px] X.env = (false, eval e X.env) :: starEach [.Name "tuple" px] X.env := by rfl) (hs2 : starEach [.Name "tuple" px] X.env = (false, eval (.Name "tuple" px) X.env) :: starEach [] X.env := by rfl) (hpl : (backTo pos (starEach [.Name "tuple" px] X.env)).any (·.1) = false := by rfl) : PD X (.Call (.Name "isinstance" p) [e, .Name "tuple" px] [] pos) (m1 (oIsi "tuple") f) := pd_isi hg hm hgt hmt (by decide +kernel) ha (hs1 := hs1) (hs2 := hs2) (hpl := hpl)
/-! texts' methods -/
def oJoin (x y : D) : Option D := match x, y with
  | .str a, .list ys => (allD strD ys).bind fun zs => if (zs.map (·.length)).sum + zs.length * a.length ≤ 16777216 then some (.str (Txt.join a zs)) else none
  | .str a, .tuple ys => (allD strD ys).bind fun zs => if (zs.map (·.length)).sum + zs.length * a.length ≤ 16777216 then some (.str (Txt.join a zs)) else none
  | _, _ => none
theorem pd_join {apos cpos : Pos} (ho : PD X a f) (he : PD X b g) (hs : starEach [b] X.env = [(false, eval b X.env)] := by rfl) (hbase : attributeBase a "join" X.env (eval a X.env) = eval a X.env := by rfl) (hline : (apos.endLine == cpos.line) = true := by rfl) : PD X (.Call (.Attribute a "join" apos) [b] [] cpos) (m2 oJoin f g) :=
  weak (pe_join ho he hs hbase hline) fun σ H Q ⟨S, B, ρ, d, E, e, k⟩ => by
    obtain ⟨x, y, e1, e2, e3⟩ := m2_some e
    refine ⟨S, B, ρ, x, E, e1, fun v H1 s1 p1 => ?_⟩
    unfold oJoin at e3
    split at e3
    · obtain ⟨zs, e4, e5⟩ := bind_some e3
      obtain ⟨hz, rfl⟩ := ite_some e5
      cases p1
      refine ⟨⟨_, rfl⟩, S, B, ρ, _, E.step s1, e2, fun w H2 s2 p2 => ?_⟩
      obtain ⟨q, ws, rfl, z1, z2⟩ := Dq.sqL p2
      obtain rfl := allD_dq str_dq z2 e4
      exact ⟨_, q, zs, rfl, rfl, .inl z1, hz, k _ H2 (s1.trans s2) (.str _)⟩
    · obtain ⟨zs, e4, e5⟩ := bind_some e3
      obtain ⟨hz, rfl⟩ := ite_some e5
      cases p1
      refine ⟨⟨_, rfl⟩, S, B, ρ, _, E.step s1, e2, fun w H2 s2 p2 => ?_⟩
      obtain ⟨q, ws, rfl, z1, z2⟩ := Dq.sqT p2
      obtain rfl := allD_dq str_dq z2 e4
      exact ⟨_, q, zs, rfl, rfl, .inr z1, hz, k _ H2 (s1.trans s2) (.str _)⟩
    · cases e3
theorem dq_strs {F : Hp} : ∀ ns : List Str, DqAll K F (ns.map V.str) (ns.map PyData.str)
  | [] => .nil
  | n :: ns => .cons (.str n) (dq_strs ns)
def oSplit (x y : D) : Option D := match x, y with
  | .str a, .str b => if (b.length == 0) = false ∧ a.length + 2 ≤ sizeLine then some (.list ((Txt.split a b).map PyData.str)) else none
  | _, _ => none
theorem pd_split {apos cpos : Pos} (ho : PD X a f) (he : PD X b g) (hs : starEach [b] X.env = [(false, eval b X.env)] := by rfl) (hbase : attributeBase a "split" X.env (eval a X.env) = eval a X.env := by rfl) (hline : (apos.endLine == cpos.line) = true := by rfl) : PD X (.Call (.Attribute a "split" apos) [b] [] cpos) (m2 oSplit f g) :=
  weak (pe_split ho he hs hbase hline) fun σ H Q ⟨S, B, ρ, d, E, e, k⟩ => by
    obtain ⟨x, y, e1, e2, e3⟩ := m2_some e
    refine ⟨S, B, ρ, x, E, e1, fun v H1 s1 p1 => ?_⟩
    unfold oSplit at e3
    split at e3
    · obtain ⟨hz, rfl⟩ := ite_some e3
      cases p1
      refine ⟨⟨_, rfl⟩, S, B, ρ, _, E.step s1, e2, fun w H2 s2 p2 => ?_⟩
      cases p2
      refine ⟨_, _, rfl, rfl, hz.1, hz.2, fun p hp => ?_⟩
      have E2 := (E.step s1).step s2
      refine k _ _ ((s1.trans s2).trans (same_upd hp)) (.lst (.inl (.inl (hid_of (E2.new hp) upd_same))) (dq_strs _))
    · cases e3
def oZfill (x y : D) : Option D := match x, y with
  | .str a, .int i => if PadOk i = true then some (.str (Txt.zfill a i)) else none
  | _, _ => none
theorem pd_zfill {apos cpos : Pos} (ho : PD X a f) (he : PD X b g) (hs : starEach [b] X.env = [(false, eval b X.env)] := by rfl) (hbase : attributeBase a "zfill" X.env (eval a X.env) = eval a X.env := by rfl) (hline : (apos.endLine == cpos.line) = true := by rfl) : PD X (.Call (.Attribute a "zfill" apos) [b] [] cpos) (m2 oZfill f g) :=
  weak (pe_m1 PySem.F.slot_str_zfill PySem.F.type_str_zfill mt_zfill ho he hs hbase hline) fun σ H Q ⟨S, B, ρ, d, E, e, k⟩ => by
    obtain ⟨x, y, e1, e2, e3⟩ := m2_some e
    refine ⟨S, B, ρ, x, E, e1, fun v H1 s1 p1 => ?_⟩
    unfold oZfill at e3
    split at e3
    · obtain ⟨hz, rfl⟩ := ite_some e3
      cases p1
      refine ⟨⟨_, rfl⟩, S, B, ρ, _, E.step s1, e2, fun w H2 s2 p2 => ?_⟩
      cases p2
      exact ⟨_, _, rfl, rfl, hz, k _ H2 (s1.trans s2) (.str _)⟩
    · cases e3
end
end Pu

set_option Elab.async false
set_option linter.all false
set_option autoImplicit false
set_option maxRecDepth 100000
/-! set(a list of ints), sorted -/
namespace Pu
open PySem PySem.Spec PyProof.Rows L2
section
variable {P : Program} {w : World} {A : Around} {E : Value → Shared → Prop} {s : Shared}
def noneYet (w : World) : Obj := { cls := .type "set", dict := none, data := .set #[] 0 (.fresh 0 0 (!w.params.followText "set-order")) }
set_option maxHeartbeats 3200000 in
theorem set_of_list {q : Addr} {its : Array Value} (zs : List Int) {Q : Value → Shared → Prop} (calm : A.handled = none) (isl : s.heap.IsList q its) (zi : IntsAre its.toList zs) (room : zs.length + 1 < scanBound)
    (fin : ∀ (h' : Heap) (tk c : Nat), SetR w h' s.heap.objs.size (fun j => decide (j ∈ zs)) c → c ≤ zs.length → (∀ b o, s.heap.get? b = some o → h'.get? b = some o) → Q (.ref s.heap.objs.size) { s with heap := h', toks := tk }) :
    wpAny (model P w) A (call (.type "set") [.ref q]) Q E s := by
  have size_is : its.size = zs.length := (Array.length_toList (xs := its)).symm.trans (IntsAre.length zi)
  obtain ⟨mc, mt, m0⟩ := F.called_set.mro
  have m1 := F.called_set.made
  have m2 := F.called_set.sub
  have m3 := F.called_set.notType
  have m4 := F.called_set.canCreate
  have m5 := F.typeCall_set_1 (.ref q)
  refine wpAny_call (codeAny_of_tree ?_)
  show wpAny _ _ (callAny (.type "set") _) _ _ _
  refine wpAny_pure ⟨Code.quiet_builtin _ (by decide +kernel), codeAny_builtin F.entry_type_call ?_⟩
  rw [Around.under_plain (weight_type_call_type "set" [.ref q] []) rfl]
  repeat (any_goals (first | assumption | wp_step))
  refine codeAny_mono (code_set_led1 (.ref q) (E := E) (Q₁ := fun v s1 => v = .ref s.heap.objs.size ∧ s1 = { s with heap := s.heap.push (noneYet w) }) ⟨rfl, rfl⟩) fun r s1 hr => ?_
  cases r with
  | error e => exact hr
  | ok fl =>
    cases fl with
    | ret obj =>
      obtain ⟨rfl, rfl⟩ := hr
      have here : (s.heap.push (noneYet w)).get? s.heap.objs.size = some (noneYet w) := Heap.get?_push_size _ rfl
      have isS : Shared.TypeIs { s with heap := s.heap.push (noneYet w) } (.ref s.heap.objs.size) "set" := ⟨_, here, rfl⟩
      have i1 := F.called_set.init.lookup
      have i2 := F.called_set.init.bind (.ref s.heap.objs.size)
      repeat (any_goals (first | assumption | wp_step))
      refine codeAny_mono (codeAny_call_builtin (R := wants (fun v s2 => v = .none ∧ ∃ h' tk c, s2 = { s with heap := h', toks := tk } ∧ SetR w h' s.heap.objs.size (fun j => decide (j ∈ zs)) c ∧ c ≤ zs.length ∧ (∀ b o, s.heap.get? b = some o → h'.get? b = some o)) E) F.called_set.init.plain F.entry_set_init (check_set_init_1 isS ?_)) fun r2 s2 hr2 => ?_
      · obtain ⟨ob, at_q, cls_q, en, dat_q⟩ := isl
        obtain ⟨k1, k2, k3, k4⟩ := ob
        simp only at cls_q dat_q
        subst cls_q dat_q
        have at_q' : (s.heap.push (noneYet w)).get? q = some { cls := .type "list", dict := k2, data := .seq its en, slots := k4 } := Heap.get?_push_of_some _ at_q
        have n1 := F.sub_list_set
        have n2 := F.sub_list_frozenset
        have n3 : (Value.type "list" == Value.type "dict") = false := by decide
        have isl1 : (s.heap.push (noneYet w)).IsList q its := ⟨_, at_q', rfl, en, rfl⟩
        unfold Builtin.«set.__init__» noKeywords Builtin.Frozenset.updateFrom
        generalize ePI : pyIter = PI
        wp_walk
        subst ePI
        refine wpAny_pyIter_list isl1 ?_
        refine wpAny_bind (wpAny_runValue ?_)
        have q_lt : q < s.heap.objs.size := Heap.lt_size at_q
        have calm3 : A.in1.in1.in1.handled = none := by simp [calm]
        have ne_q : q ≠ (s.heap.push (noneYet w)).objs.size := by
          rw [Heap.size_push]
          exact Nat.ne_of_lt (Nat.lt_succ_of_lt q_lt)
        have out_S : s.heap.objs.size ∉ [(s.heap.push (noneYet w)).objs.size, q] := by
          rw [Heap.size_push]
          intro m
          rcases List.mem_cons.mp m with m | m
          · exact Nat.ne_of_lt (Nat.lt_succ_self _) m
          · exact Nat.ne_of_gt q_lt (List.mem_singleton.mp m)
        have vals : ∀ (i : Nat) (v : Value), its[i]? = some v → ∃ k t, zs[i]? = some k ∧ v = .int k t := fun i v hv => by
          have hi : i < zs.length := size_is ▸ (Array.getElem?_eq_some_iff.mp hv).1
          obtain ⟨t, e⟩ := PyProof.Rows.IntsAre.int_at zi i v (by rw [Array.getElem?_toList]; exact hv)
          refine ⟨zs[i], t, List.getElem?_eq_getElem hi, ?_⟩
          rw [e, List.getD_eq_getElem?_getD, List.getElem?_eq_getElem hi] <;> rfl
        refine set_update_ints ((Walks.list calm3 _ q ne_q its).toS) s.heap.objs.size out_S zs size_is room vals (its.size - 0) 0 _ (by omega) (Nat.zero_le _) ⟨⟨_, Heap.get?_push_size _ rfl, rfl, rfl⟩, (isl1.push _)⟩ ⟨0, Nat.le_refl 0, setR_new_at (Heap.get?_push_of_some _ here)⟩ fun s' c' mv hc' hS' => ?_
        obtain ⟨h', g2, d', tk', os'⟩ := s'
        have eg : g2 = s.gens := mv.gens
        have ed : d' = s.drawn := mv.drawn
        have eo : os' = s.os := mv.os
        subst eg ed eo
        show wpAny _ _ _ _ _ _
        refine wpAny_pure ?_
        show wpAny _ _ (ret Value.none) _ _ _
        rw [size_is] at hc'
        refine wpAny_pure ⟨rfl, h', tk', c', rfl, hS', hc', fun b o e => ?_⟩
        have b_lt : b < s.heap.objs.size := Heap.lt_size e
        refine mv.heap b o (fun m => ?_) (Heap.get?_push_of_some _ (Heap.get?_push_of_some _ e))
        rcases List.mem_cons.mp m with m | m
        · exact Nat.ne_of_lt b_lt m
        · have e2 := List.mem_singleton.mp m
          rw [Heap.size_push] at e2
          exact Nat.ne_of_lt (Nat.lt_succ_of_lt b_lt) e2
      · cases r2 with
        | error e => exact hr2
        | ok fl2 =>
          cases fl2 with
          | ret r =>
            obtain ⟨rfl, h', tk, c', rfl, a1, a2, a3⟩ := hr2
            repeat (any_goals (first | assumption | wp_step))
            exact fin _ _ _ a1 a2 a3
          | _ => exact hr2.elim
    | _ => exact hr.elim
end
end Pu

set_option Elab.async false
set_option linter.all false
set_option autoImplicit false
set_option maxRecDepth 100000
namespace Pu
open PySem PySem.Spec PyProof.Rows L2
section
variable {X : Cx} {K : PySem.W.Frag} {e : Expr} {f g : Mir} {pos : Pos}
/-- set(a list of ints) -/
def rSetL (K : PySem.W.Frag) (w : World) : List V → Hp → VK → Prop := fun xs H Q => ∃ (l : Addr) (ns : List Int), xs = [V.ref l] ∧ SqL K H l (ns.map V.int) ∧ ns.length ≤ 1000 ∧ ∀ a c, H a = none → c ≤ ns.length → Q (.ref a) (upd H a (SetO w a (fun j => decide (j ∈ ns)) c))
theorem cr_setL (hc : X.calm = true) : CallR X (.type "set") (rSetL X.K X.w) := fun pins s σ H xs us Q I r ⟨l, ns, ex, hl, hn, q⟩ => by
  subst ex
  obtain rfl := Vals.ref1 r
  obtain ⟨its, rv, pl, hz⟩ := I.list hl
  refine set_of_list ns (I.ok.hd hc) (show s.heap.IsList l its.toArray from pl.isList) (ints_of_vals rv) (by unfold scanBound; omega) fun h' tk c R hcn k => ?_
  exact ⟨.ref s.heap.objs.size, _, I.laid (t' := tk) k (Nat.le_refl _) (setO_new R), rfl, q _ c (I.hok.fresh (Nat.le_refl _)) hcn⟩
/-- rising, each once -/
def insI (x : Int) : List Int → List Int
  | [] => [x]
  | y :: l => if x < y then x :: y :: l else if x = y then y :: l else y :: insI x l
def ssetI (l : List Int) : List Int := l.foldr insI []
theorem mem_insI (x z : Int) : ∀ l : List Int, z ∈ insI x l ↔ z = x ∨ z ∈ l
  | [] => by simp [insI]
  | y :: l => by
    unfold insI
    split
    · simp
    · split
      · rename_i h
        subst h
        simp
      · rw [List.mem_cons, mem_insI x z l, List.mem_cons]
        constructor
        · rintro (h | h | h)
          · exact .inr (.inl h)
          · exact .inl h
          · exact .inr (.inr h)
        · rintro (h | h | h)
          · exact .inr (.inl h)
          · exact .inl h
          · exact .inr (.inr h)
theorem insI_rise (x : Int) : ∀ {l : List Int}, l.Pairwise (· < ·) → (insI x l).Pairwise (· < ·)
  | [], _ => by simp [insI]
  | y :: l, h => by
    have h' := List.pairwise_cons.mp h
    unfold insI
    split
    · rename_i hxy
      exact List.pairwise_cons.mpr ⟨fun z hz => by
        rcases List.mem_cons.mp hz with rfl | hz
        · exact hxy
        · exact Int.lt_trans hxy (h'.1 z hz), h⟩
    · split
      · exact h
      · rename_i h1 h2
        refine List.pairwise_cons.mpr ⟨fun z hz => ?_, insI_rise x h'.2⟩
        rcases (mem_insI x z l).mp hz with rfl | hz
        · omega
        · exact h'.1 z hz
theorem mem_ssetI (z : Int) : ∀ l : List Int, z ∈ ssetI l ↔ z ∈ l
  | [] => Iff.rfl
  | x :: l => by
    show z ∈ insI x (ssetI l) ↔ _
    rw [mem_insI, mem_ssetI z l, List.mem_cons]
theorem ssetI_rise : ∀ l : List Int, (ssetI l).Pairwise (· < ·)
  | [] => List.Pairwise.nil
  | x :: l => insI_rise x (ssetI_rise l)
theorem rise_ext : ∀ {l m : List Int}, l.Pairwise (· < ·) → m.Pairwise (· < ·) → (∀ z, z ∈ l ↔ z ∈ m) → l = m
  | [], [], _, _, _ => rfl
  | [], y :: m, _, _, h => absurd ((h y).mpr List.mem_cons_self) (by simp)
  | x :: l, [], _, _, h => absurd ((h x).mp List.mem_cons_self) (by simp)
  | x :: l, y :: m, hl, hm, h => by
    have hl' := List.pairwise_cons.mp hl
    have hm' := List.pairwise_cons.mp hm
    have e : x = y := by
      have a1 := (h x).mp List.mem_cons_self
      have a2 := (h y).mpr List.mem_cons_self
      rcases List.mem_cons.mp a1 with e | a1
      · exact e
      · rcases List.mem_cons.mp a2 with e | a2
        · exact e.symm
        · have := hl'.1 y a2
          have := hm'.1 x a1
          omega
    subst e
    congr 1
    refine rise_ext hl'.2 hm'.2 fun z => ?_
    have hz := h z
    rw [List.mem_cons, List.mem_cons] at hz
    constructor
    · intro w
      rcases hz.mp (.inr w) with e | e
      · have := hl'.1 z w
        omega
      · exact e
    · intro w
      rcases hz.mpr (.inr w) with e | e
      · have := hm'.1 z w
        omega
      · exact e
/-- sorted(set(xs)) -/
def oSSet (x : D) : Option D := match x with
  | .list xs => (allD intD xs).bind fun ns => if ns.length < 64 then some (.list ((ssetI ns).map PyData.int)) else none
  | _ => none
theorem dq_intL {F : Hp} : ∀ ns : List Int, DqAll K F (ns.map V.int) (ns.map PyData.int)
  | [] => .nil
  | n :: ns => .cons (.int n) (dq_intL ns)
theorem pd_sset {p1 p2 c2 : Pos} (hg : Gl X "sorted") (hm : X.mg "sorted" = none) (hg2 : Gl X "set") (hm2 : X.mg "set" = none) (ha : PD X e f) (hc : X.calm = true := by rfl)
    (hs1 : starEach [e] X.env = (false, eval e X.env) :: starEach [] X.env := by rfl) (hp1 : (backTo c2 (starEach [] X.env)).any (·.1) = false := by rfl)
    (hs2 : starEach [.Call (.Name "set" p2) [e] [] c2] X.env = (false, eval (.Call (.Name "set" p2) [e] [] c2) X.env) :: starEach [] X.env := by rfl) (hp2 : (backTo pos (starEach [] X.env)).any (·.1) = false := by rfl) :
    PD X (.Call (.Name "sorted" p1) [.Call (.Name "set" p2) [e] [] c2] [] pos) (m1 oSSet f) :=
  weak (pe_callB (cr_sortedSet hc) hg hm (by decide +kernel) (pa_cons (pe_callTy (cr_setL hc) hg2 hm2 (by decide +kernel) (pa_cons ha pa_nil hs1) (he := hs1) (hpl := hp1)) pa_nil hs2) (he := hs2) (hpl := hp2)) fun σ H Q ⟨S, B, ρ, d, E, e, k⟩ => by
    obtain ⟨x, e1, e2⟩ := m1_some e
    unfold oSSet at e2
    split at e2
    · obtain ⟨ns, e3, e4⟩ := bind_some e2
      obtain ⟨hl, rfl⟩ := ite_some e4
      refine ⟨S, B, ρ, _, E, e1, fun v H1 s1 p1 => ?_⟩
      obtain ⟨a, ws, rfl, z1, z2⟩ := Dq.sqL p1
      obtain rfl := allD_dq int_dq z2 e3
      refine ⟨a, ns, rfl, z1, by omega, fun q c hq hcn => ⟨q, _, c, rfl, upd_same, by omega, fun out p hr hmm hlen hp => ?_⟩⟩
      have eo : out = ssetI ns := rise_ext hr (ssetI_rise ns) fun z => by
        rw [hmm z, mem_ssetI, decide_eq_true_eq]
      subst eo
      have E1 := E.step s1
      have s2 : Same H1 (upd H1 q (SetO X.w q (fun j => decide (j ∈ ns)) c)) := same_upd hq
      have E2 := E1.step s2
      exact k _ _ ((s1.trans s2).trans (same_upd hp)) (.lst (.inl (.inl (hid_of (E2.new hp) upd_same))) (dq_intL _))
    · cases e2
end
end Pu

set_option Elab.async false
set_option linter.all false
set_option autoImplicit false
set_option maxRecDepth 100000
/-! while; lists of one's own, read; two lists put together -/
namespace Pu
open PySem PySem.Spec PyProof.Rows L2
section
variable {X : Cx} {K : PySem.W.Frag} {a b e : Expr} {f g h : Mir} {pos : Pos} {F G : MirS}
def sWhile : Nat → Mir → MirS → MirS
  | 0, _, _, _ => none
  | n + 1, c, F, ρ => match c ρ with
    | some (.bool true) => (F ρ).bind fun
      | .nx ρ' => sWhile n c F ρ'
      | .ct ρ' => sWhile n c F ρ'
      | .bk ρ' => some (.nx ρ')
      | .rt d => some (.rt d)
    | some (.bool false) => some (.nx ρ)
    | _ => none
theorem sd_while (n : Nat) {c : Expr} {body : List Stmt} (hp : PassesOwn (model X.prog X.w) X.A X.env X.xe) (hc : PTD X c f) (hb : PSsD X body F) : PSD X (.While c body [] pos) (sWhile n f F) := weakS (ps_while hp hc hb) fun Dn σ H ⟨T, B, ρ, o, E, e, k⟩ => by
  refine ⟨fun m σ H => ∃ ρ', StE X.K T B H σ ρ' ∧ sWhile m f F ρ' = some o, ⟨n, ρ, E, e⟩, fun m σ H ⟨ρ1, ⟨S, E1⟩, e1⟩ => ?_⟩
  cases m with
  | zero => cases e1
  | succ m =>
    unfold sWhile at e1
    cases q : f ρ1 with
    | none =>
      rw [q] at e1
      cases e1
    | some x =>
      rw [q] at e1
      cases x <;> try (cases e1; done)
      rename_i bb
      cases bb
      · cases e1
        exact ⟨S, B, ρ1, false, E1.env, q, fun H1 s1 => iteF (k _ _ ⟨S, E1.step s1⟩)⟩
      · obtain ⟨o1, e2, e3⟩ := bind_some e1
        refine ⟨S, B, ρ1, true, E1.env, q, fun H1 s1 => iteT ⟨fun σ' H' => ∃ ρ', StE X.K T B H' σ' ρ' ∧ sWhile m f F ρ' = some o, fun σ' H' z => ⟨m, Nat.lt_succ_self m, z⟩, ?_⟩⟩
        refine ⟨T, B, ρ1, o1, ⟨S, E1.step s1⟩, e2, ?_⟩
        cases o1 with
        | nx ρ' => exact fun σ' H' E' => ⟨ρ', E', e3⟩
        | ct ρ' => exact fun σ' H' E' => ⟨ρ', E', e3⟩
        | bk ρ' =>
          cases e3
          exact k
        | rt d =>
          cases e3
          exact k
/-! ### a list of one's own, read -/
def toOwn (K : PySem.W.Frag) (i : Nat) : TE := fun σ H Q => ∃ S B ρ ds, EnvOk K S B H σ ρ ∧ lOwn i ρ = some ds ∧ ∀ p vs, H p = some (.lst vs) → DqAll K (hid S H) vs ds → Q (.ref p) H
theorem pe_ownL (i : Nat) {x : Str} (hN : X.N[i]? = some x := by rfl) (hvis : Vis X.env.scope x := by first | exact Or.inl rfl | exact Or.inr (Or.inl rfl) | exact Or.inr (Or.inr rfl)) (hd : (x == ("__debug__" : Str)) = false := by decide)
    (hcd : (x == ("__classdict__" : Str)) = false := by decide) : PE X (.Name x pos) (toOwn X.K i) := weak (pe_var hN hvis hd hcd) fun σ H Q ⟨S, B, ρ, ds, E, e, k⟩ => by
  unfold lOwn at e
  cases q : ρ[i]? with
  | none =>
    rw [q] at e
    cases e
  | some sl =>
    rw [q] at e
    cases sl <;> try (cases e; done)
    cases e
    obtain ⟨a, vs, h1, h2, h3, h4, h5⟩ := own_slot E q
    exact ⟨.ref a, h1, k a vs h4 h5⟩
/-- tuple(x) -/
def mTupOwn (i : Nat) : Mir := fun ρ => (lOwn i ρ).map PyData.tuple
theorem pd_tupOwn (i : Nat) {x : Str} {p px : Pos} (hg : Gl X "tuple") (hm : X.mg "tuple" = none) (hN : X.N[i]? = some x := by rfl) (hvis : Vis X.env.scope x := by first | exact Or.inl rfl | exact Or.inr (Or.inl rfl) | exact Or.inr (Or.inr rfl)) (hd : (x == ("__debug__" : Str)) = false := by decide)
    (hcd : (x == ("__classdict__" : Str)) = false := by decide) (hs1 : starEach [.Name x px] X.env = (false, eval (.Name x px) X.env) :: starEach [] X.env := by rfl) (hp1 : (backTo pos (starEach [] X.env)).any (·.1) = false := by rfl) :
    PD X (.Call (.Name "tuple" p) [.Name x px] [] pos) (mTupOwn i) :=
  weak (pe_callTy call_tupF hg hm (by decide +kernel) (pa_cons (pe_ownL i hN hvis hd hcd) pa_nil hs1) (he := hs1) (hpl := hp1)) fun σ H Q ⟨S, B, ρ, d, E, e, k⟩ => by
    obtain ⟨ds, e1, rfl⟩ := map_some e
    refine ⟨S, B, ρ, ds, E, e1, fun p vs h1 h2 => ⟨p, vs, rfl, .inl ⟨.inl (.inl h1), fun l o hl ho => ?_⟩⟩⟩
    exact k _ _ (same_upd hl) (.tup ⟨o, hid_of (E.new hl) upd_same, ho⟩ (h2.mono (same_hid (same_upd hl))))
/-- len(x) -/
def mLenOwn (i : Nat) : Mir := fun ρ => (lOwn i ρ).map fun ds => PyData.int ds.length
theorem pd_lenOwn (i : Nat) {x : Str} {p px : Pos} (hg : Gl X "len") (hm : X.mg "len" = none) (hN : X.N[i]? = some x := by rfl) (hvis : Vis X.env.scope x := by first | exact Or.inl rfl | exact Or.inr (Or.inl rfl) | exact Or.inr (Or.inr rfl)) (hd : (x == ("__debug__" : Str)) = false := by decide)
    (hcd : (x == ("__classdict__" : Str)) = false := by decide) (hs1 : starEach [.Name x px] X.env = (false, eval (.Name x px) X.env) :: starEach [] X.env := by rfl) (hp1 : (backTo pos (starEach [] X.env)).any (·.1) = false := by rfl) :
    PD X (.Call (.Name "len" p) [.Name x px] [] pos) (mLenOwn i) :=
  weak (pe_callB call_len_seq hg hm PySem.boot_len (pa_cons (pe_ownL i hN hvis hd hcd) pa_nil hs1) (he := hs1) (hpl := hp1)) fun σ H Q ⟨S, B, ρ, d, E, e, k⟩ => by
    obtain ⟨ds, e1, rfl⟩ := map_some e
    refine ⟨S, B, ρ, ds, E, e1, fun p vs h1 h2 => ⟨p, vs, rfl, .inl (.inl (.inl h1)), ?_⟩⟩
    rw [h2.length]
    exact k _ H (Same.refl H) (.int _)
/-- x[e] -/
def mIxOwn (i : Nat) (f : Mir) : Mir := fun ρ => (lOwn i ρ).bind fun ds => (f ρ).bind fun x => match x with
  | .int j => atI ds j
  | _ => none
/-- a + b, a new list -/
def lAdd (f g : Mir) : MirL := fun ρ => (f ρ).bind fun x => (g ρ).bind fun y => match x, y with
  | .list xs, .list ys => if xs.length + ys.length ≤ sizeLine then some (xs ++ ys) else none
  | _, _ => none
theorem ld_add (ha : PD X a f) (hb : PD X b g) : PLD X (.BinOp a .Add b pos) (lAdd f g) := weak (pe_op op_catL ha hb) fun σ H Q ⟨S, B, ρ, ds, E, e, k⟩ => by
  obtain ⟨x, e1, e2⟩ := bind_some e
  obtain ⟨y, e3, e4⟩ := bind_some e2
  split at e4
  · obtain ⟨hl, rfl⟩ := ite_some e4
    refine ⟨S, B, ρ, _, E, e1, fun v H1 s1 p1 => ⟨S, B, ρ, _, E.step s1, e3, fun w H2 s2 p2 => ?_⟩⟩
    obtain ⟨l, vs, rfl, z1, z2⟩ := Dq.sqL (Dq.mono (same_hid s2) p1)
    obtain ⟨m, ws, rfl, y1, y2⟩ := Dq.sqL p2
    refine ⟨l, m, vs, ws, rfl, rfl, z1, y1, by rw [z2.length, y2.length]; exact hl, fun p hp => ?_⟩
    refine k p _ _ ((s1.trans s2).trans (same_upd hp)) ((s1.trans s2).free hp) upd_same ((z2.append y2).mono fun c o q => ?_)
    obtain ⟨n1, n2⟩ := of_hid q
    have hb : c ≠ p := ne_of_none n2 hp
    exact hid_of (fun z => z.elim n1 hb) (by rw [upd_ne hb]; exact n2)
  · cases e4
end
end Pu

set_option Elab.async false
set_option linter.all false
set_option autoImplicit false
set_option maxRecDepth 100000
/-! maps: rows of pairs, by their keys -/
namespace Pu
open PySem PySem.Spec PyProof.Rows L2
abbrev Mp (α : Type) := List (Str × α)
section
variable {α : Type}
def val (m : Mp α) (k : Str) : Option α := (m.find? fun p => decide (p.1 = k)).map (·.2)
def put (m : Mp α) (k : Str) (v : α) : Mp α := if m.any (fun p => decide (p.1 = k)) = true then m.map (fun p => if p.1 = k then (p.1, v) else p) else m ++ [(k, v)]
def del (m : Mp α) (k : Str) : Mp α := m.filter fun p => decide (p.1 ≠ k)
def Nd (m : Mp α) : Prop := (m.map (·.1)).Nodup
theorem val_nil {k : Str} : val ([] : Mp α) k = none := rfl
theorem val_cons {p : Str × α} {m : Mp α} {k : Str} : val (p :: m) k = if p.1 = k then some p.2 else val m k := by
  unfold val
  by_cases h : p.1 = k
  · rw [List.find?_cons_of_pos (by simpa using h), if_pos h]
    rfl
  · rw [List.find?_cons_of_neg (by simpa using h), if_neg h]
theorem val_any (k : Str) : ∀ m : Mp α, (m.any fun p => decide (p.1 = k)) = (val m k).isSome
  | [] => rfl
  | p :: m => by
    rw [List.any_cons, val_cons, val_any k m]
    by_cases h : p.1 = k <;> simp [h]
theorem val_map_put (k j : Str) (y : α) : ∀ m : Mp α, val (m.map fun p => if p.1 = k then (p.1, y) else p) j = (val m j).map fun x => if j = k then y else x
  | [] => rfl
  | p :: m => by
    rw [List.map_cons, val_cons, val_cons, val_map_put k j y m]
    by_cases h : p.1 = k
    · rw [if_pos h]
      by_cases h2 : p.1 = j
      · have : j = k := h2.symm.trans h
        rw [if_pos h2, if_pos h2]
        simp [this]
      · rw [if_neg h2, if_neg h2]
    · rw [if_neg h]
      by_cases h2 : p.1 = j
      · have : ¬ j = k := fun z => h (h2.trans z)
        rw [if_pos h2, if_pos h2]
        simp [this]
      · rw [if_neg h2, if_neg h2]
theorem val_append {m n : Mp α} {k : Str} : val (m ++ n) k = (val m k).orElse fun _ => val n k := by
  induction m with
  | nil => rfl
  | cons p m ih =>
    rw [List.cons_append, val_cons, val_cons, ih]
    by_cases h : p.1 = k <;> simp [h]
theorem val_put (m : Mp α) (k j : Str) (y : α) : val (put m k y) j = if j = k then some y else val m j := by
  unfold put
  rw [val_any]
  cases h : val m k with
  | none =>
    rw [if_neg (by simp), val_append, val_cons, val_nil]
    by_cases h2 : j = k
    · rw [h2, h]
      simp
    · have h3 : ¬ k = j := fun z => h2 z.symm
      simp only [if_neg h3, if_neg h2]
      cases val m j <;> rfl
  | some x =>
    rw [if_pos (by simp), val_map_put]
    by_cases h2 : j = k
    · rw [h2, h]
      simp
    · simp [h2]
theorem val_del (m : Mp α) (k j : Str) : val (del m k) j = if j = k then none else val m j := by
  induction m with
  | nil =>
    show none = _
    by_cases h : j = k <;> simp [h, val_nil]
  | cons p m ih =>
    unfold del at ih ⊢
    by_cases h : p.1 = k
    · rw [List.filter_cons_of_neg (by simpa using h), ih, val_cons]
      by_cases h2 : j = k
      · simp [h2]
      · have : ¬ p.1 = j := fun z => h2 (z.symm.trans h)
        simp [h2, this]
    · rw [List.filter_cons_of_pos (by simpa using h), val_cons, ih, val_cons]
      by_cases h2 : p.1 = j
      · have : ¬ j = k := fun z => h (h2.trans z)
        simp [h2, this]
      · simp [h2]
theorem mem_of_val {m : Mp α} {k : Str} {v : α} (h : val m k = some v) : (k, v) ∈ m := by
  unfold val at h
  rw [Option.map_eq_some_iff] at h
  obtain ⟨p, h1, rfl⟩ := h
  have h2 := List.find?_some h1
  have : p.1 = k := by simpa using h2
  subst this
  exact List.mem_of_find?_eq_some h1
theorem val_none_iff {m : Mp α} {k : Str} : val m k = none ↔ k ∉ m.map (·.1) := by
  unfold val
  rw [Option.map_eq_none_iff, List.find?_eq_none]
  constructor
  · intro h z
    obtain ⟨p, h1, h2⟩ := List.mem_map.mp z
    exact h p h1 (by simpa using h2)
  · intro h p hp z
    exact h (List.mem_map.mpr ⟨p, hp, by simpa using z⟩)
theorem nd_cons {p : Str × α} {m : Mp α} : Nd (p :: m) ↔ val m p.1 = none ∧ Nd m := by
  unfold Nd
  rw [List.map_cons, List.nodup_cons, val_none_iff]
theorem val_of_mem {m : Mp α} (nd : Nd m) {k : Str} {v : α} (h : (k, v) ∈ m) : val m k = some v := by
  induction m with
  | nil => cases h
  | cons p m ih =>
    rw [nd_cons] at nd
    rw [val_cons]
    rcases List.mem_cons.mp h with rfl | h
    · simp
    · have := ih nd.2 h
      by_cases h2 : p.1 = k
      · rw [h2] at nd
        rw [nd.1] at this
        cases this
      · rw [if_neg h2, this]
theorem put_keys {m : Mp α} {k : Str} {v : α} : (put m k v).map (·.1) = if (val m k).isSome = true then m.map (·.1) else m.map (·.1) ++ [k] := by
  unfold put
  rw [val_any]
  by_cases h : (val m k).isSome = true
  · rw [if_pos h, if_pos h, List.map_map]
    refine List.map_congr_left fun p _ => ?_
    show (if p.1 = k then (p.1, v) else p).1 = p.1
    by_cases e : p.1 = k <;> simp [e]
  · rw [if_neg h, if_neg h, List.map_append]
    rfl
theorem nd_put {m : Mp α} {k : Str} {v : α} (h : Nd m) : Nd (put m k v) := by
  unfold Nd at h ⊢
  rw [put_keys]
  by_cases e : (val m k).isSome = true
  · rw [if_pos e]
    exact h
  · rw [if_neg e]
    rw [Option.not_isSome_iff_eq_none, val_none_iff] at e
    rw [List.nodup_append]
    refine ⟨h, by simp, fun a ha b hb => ?_⟩
    rw [List.mem_singleton] at hb
    rintro rfl
    exact e (hb ▸ ha)
theorem nd_del {m : Mp α} {k : Str} (h : Nd m) : Nd (del m k) := List.Nodup.sublist (List.Sublist.map _ List.filter_sublist) h
theorem put_len {m : Mp α} {k : Str} {v : α} : (put m k v).length ≤ m.length + 1 := by
  unfold put
  by_cases e : m.any (fun p => decide (p.1 = k)) = true
  · rw [if_pos e, List.length_map]
    omega
  · rw [if_neg e, List.length_append]
    simp
theorem del_len {m : Mp α} {k : Str} : (del m k).length ≤ m.length := List.length_filter_le _ _
/-! rising -/
theorem str_ext {x y : Str} (h : x.cps.toList = y.cps.toList) : x = y := PySem.W.str_of_cps h
theorem ltS_irrefl (x : Str) : ltS x x = false := by
  unfold ltS
  simp
theorem ltS_trans {x y z : Str} (h : ltS x y = true) (h' : ltS y z = true) : ltS x z = true := by
  unfold ltS at *
  simp only [decide_eq_true_eq] at *
  exact List.lt_trans h h'
theorem ltS_tri {x y : Str} (h : x ≠ y) : ltS x y = true ∨ ltS y x = true := by
  unfold ltS
  simp only [decide_eq_true_eq]
  rcases Classical.em (x.cps.toList < y.cps.toList) with z | z
  · exact .inl z
  · rcases Classical.em (y.cps.toList < x.cps.toList) with w | w
    · exact .inr w
    · exact absurd (str_ext (List.le_antisymm (List.not_lt.mp w) (List.not_lt.mp z))) h
theorem ltS_ne {x y : Str} (h : ltS x y = true) : x ≠ y := by
  rintro rfl
  rw [ltS_irrefl] at h
  cases h
theorem ltS_asymm {x y : Str} (h : ltS x y = true) : ltS y x = false := by
  cases e : ltS y x with
  | false => rfl
  | true => exact absurd (ltS_trans h e) (by rw [ltS_irrefl]; simp)
def Rise (m : Mp α) : Prop := m.Pairwise fun p q => ltS p.1 q.1 = true
theorem Rise.nd {m : Mp α} (h : Rise m) : Nd m := by
  unfold Nd List.Nodup
  rw [List.pairwise_map]
  exact h.imp fun z => ltS_ne z
theorem Rise.ext : ∀ {m n : Mp α}, Rise m → Rise n → (∀ k, val m k = val n k) → m = n
  | [], [], _, _, _ => rfl
  | [], q :: n, _, _, h => by
    have := h q.1
    rw [val_nil, val_cons, if_pos rfl] at this
    cases this
  | p :: m, [], _, _, h => by
    have := h p.1
    rw [val_nil, val_cons, if_pos rfl] at this
    cases this
  | p :: m, q :: n, hm, hn, h => by
    have hm' := List.pairwise_cons.mp hm
    have hn' := List.pairwise_cons.mp hn
    have low : ∀ {p q : Str × α} {m n : Mp α}, (∀ a ∈ m, ltS p.1 a.1 = true) → (∀ k, val (p :: m) k = val (q :: n) k) → p.1 ≠ q.1 → ltS p.1 q.1 = true := fun {p q m n} hp h hne => by
      have := h q.1
      rw [val_cons, if_neg hne, val_cons, if_pos rfl] at this
      exact hp _ (mem_of_val this)
    have e1 : p.1 = q.1 := by
      apply Classical.byContradiction
      intro hne
      have a := low hm'.1 h hne
      have b := low hn'.1 (fun k => (h k).symm) (fun z => hne z.symm)
      rw [ltS_asymm a] at b
      cases b
    have e2 : p = q := by
      have := h p.1
      rw [val_cons, if_pos rfl, val_cons, if_pos e1.symm] at this
      exact Prod.ext e1 (Option.some.inj this)
    subst e2
    congr 1
    refine Rise.ext hm'.2 hn'.2 fun k => ?_
    have := h k
    rw [val_cons, val_cons] at this
    by_cases hk : p.1 = k
    · subst hk
      have z1 : val m p.1 = none := by
        rw [val_none_iff]
        intro z
        obtain ⟨a, ha, hb⟩ := List.mem_map.mp z
        exact ltS_ne (hm'.1 a ha) hb.symm
      have z2 : val n p.1 = none := by
        rw [val_none_iff]
        intro z
        obtain ⟨a, ha, hb⟩ := List.mem_map.mp z
        exact ltS_ne (hn'.1 a ha) hb.symm
      rw [z1, z2]
    · rw [if_neg hk, if_neg hk] at this
      exact this
/-! sorting by keys -/
def leK (p q : Str × α) : Bool := leS p.1 q.1
theorem leS_iff {x y : Str} : leS x y = true ↔ ltS y x = false := by
  unfold leS ltS
  cases decide (y.cps.toList < x.cps.toList) <;> simp
theorem leK_total : PySem.W.TotalLe (leK (α := α)) where
  trans a b c h1 h2 := by
    unfold leK at *
    rw [leS_iff] at *
    cases e : ltS c.1 a.1 with
    | false => rfl
    | true =>
      by_cases z : b.1 = a.1
      · rw [z] at h2
        rw [h2] at e
        cases e
      · rcases ltS_tri z with w | w
        · rw [w] at h1
          cases h1
        · have := ltS_trans e w
          rw [this] at h2
          cases h2
  total a b := by
    unfold leK
    rw [leS_iff, leS_iff]
    cases e : ltS b.1 a.1 with
    | false => exact .inl rfl
    | true => exact .inr (ltS_asymm e)
def srt (m : Mp α) : Mp α := m.mergeSort leK
theorem srt_perm (m : Mp α) : (srt m).Perm m := List.mergeSort_perm m _
theorem srt_len (m : Mp α) : (srt m).length = m.length := (srt_perm m).length_eq
theorem srt_nd {m : Mp α} (h : Nd m) : Nd (srt m) := ((srt_perm m).map (fun p : Str × α => p.1)).nodup_iff.mpr h
theorem srt_rise {m : Mp α} (h : Nd m) : Rise (srt m) := by
  have a := PySem.W.sort_pairwise (leK_total (α := α)) m
  have b : (srt m).Pairwise fun p q => p.1 ≠ q.1 := by
    have := srt_nd h
    unfold Nd List.Nodup at this
    rw [List.pairwise_map] at this
    exact this
  refine (a.and b).imp fun {p q} z => ?_
  unfold leK at z
  rw [leS_iff] at z
  rcases ltS_tri z.2 with w | w
  · exact w
  · rw [w] at z
    cases z.1
theorem perm_val {m n : Mp α} (h : m.Perm n) (nd : Nd m) (k : Str) : val m k = val n k := by
  have nd' : Nd n := (h.map (fun p : Str × α => p.1)).nodup_iff.mp nd
  cases e : val m k with
  | none =>
    symm
    rw [val_none_iff] at e ⊢
    exact fun z => e ((h.map (fun p : Str × α => p.1)).mem_iff.mpr z)
  | some v => exact (val_of_mem nd' (h.mem_iff.mp (mem_of_val e))).symm
theorem srt_val {m : Mp α} (h : Nd m) (k : Str) : val (srt m) k = val m k := perm_val (srt_perm m) (srt_nd h) k
theorem srt_self {m : Mp α} (h : Rise m) : srt m = m := Rise.ext (srt_rise h.nd) h fun k => srt_val h.nd k
theorem len_of_val {m n : Mp α} (hm : Nd m) (hn : Nd n) (h : ∀ k, val m k = val n k) : m.length = n.length := by
  rw [← srt_len m, ← srt_len n, Rise.ext (srt_rise hm) (srt_rise hn) fun k => by rw [srt_val hm, srt_val hn, h k]]
end
end Pu

set_option Elab.async false
set_option linter.all false
set_option autoImplicit false
set_option maxRecDepth 100000
/-! maps as data -/
namespace Pu
open PySem PySem.Spec PyProof.Rows L2
section
variable {α : Type} {em : α → D}
structure EmOk (em : α → D) : Prop where
  alike : ∀ x y, PySem.W.alike (em x) (em y) = true
  depth : ∀ x, (em x).depth ≤ 40
  flat : ∀ x, flatV2 (em x) = true
  self : ∀ x, PyData.eqv (em x) (em x) = true
theorem emI : EmOk (PyData.int) := ⟨fun _ _ => by simp [PySem.W.alike], fun _ => by simp [PyData.depth], fun _ => rfl, fun _ => by simp [PyData.eqv]⟩
theorem emS : EmOk (PyData.str) := ⟨fun _ _ => by simp [PySem.W.alike], fun _ => by simp [PyData.depth], fun _ => rfl, fun _ => by simp [PyData.eqv]⟩
def kvM (em : α → D) (m : Mp α) : KVs := m.map fun p => (.inr p.1, em p.2)
def prD (em : α → D) (p : Str × α) : D := .tuple [.str p.1, em p.2]
def itM (em : α → D) (m : Mp α) : List D := m.map (prD em)
theorem kvM_len {m : Mp α} : (kvM em m).length = m.length := List.length_map _
theorem itM_len {m : Mp α} : (itM em m).length = m.length := List.length_map _
theorem key_dec (a b : Str) : decide ((Sum.inr a : Key) = Sum.inr b) = decide (a = b) := by
  by_cases h : a = b
  · simp [h]
  · have : ¬ ((Sum.inr a : Key) = Sum.inr b) := fun z => h (Sum.inr.inj z)
    rw [decide_eq_false h, decide_eq_false this]
theorem valD_kv (k : Str) : ∀ m : Mp α, valD (kvM em m) (.inr k) = (val m k).map em
  | [] => rfl
  | p :: m => by
    have ih := valD_kv k m
    rw [val_cons]
    show ((((Sum.inr p.1 : Key), em p.2) :: kvM em m).find? fun kv => decide (kv.1 = .inr k)).map (·.2) = _
    by_cases h : p.1 = k
    · rw [List.find?_cons_of_pos (by simp [h]), if_pos h]
      rfl
    · rw [List.find?_cons_of_neg (by rw [key_dec]; simpa using h), if_neg h]
      exact ih
theorem any_kv (k : Str) : ∀ m : Mp α, ((kvM em m).any fun kv => decide (kv.1 = (.inr k : Key))) = m.any fun p => decide (p.1 = k)
  | [] => rfl
  | p :: m => by
    show (decide ((.inr p.1 : Key) = .inr k) || (kvM em m).any _) = _
    rw [any_kv k m, key_dec]
    rfl
theorem putD_kv (m : Mp α) (k : Str) (v : α) : putD (kvM em m) (.inr k) (em v) = kvM em (put m k v) := by
  unfold putD put
  rw [any_kv]
  by_cases h : m.any (fun p => decide (p.1 = k)) = true
  · rw [if_pos h, if_pos h]
    unfold kvM
    rw [List.map_map, List.map_map]
    refine List.map_congr_left fun p _ => ?_
    show (if (Sum.inr p.1 : Key) = .inr k then ((Sum.inr p.1 : Key), em v) else (.inr p.1, em p.2)) = ((.inr (if p.1 = k then (p.1, v) else p).1 : Key), em (if p.1 = k then (p.1, v) else p).2)
    by_cases e : p.1 = k
    · rw [if_pos (by rw [e]), if_pos e]
    · rw [if_neg (fun z => e (Sum.inr.inj z)), if_neg e]
  · rw [if_neg h, if_neg h]
    unfold kvM
    rw [List.map_append]
    rfl
theorem dropD_kv (m : Mp α) (k : Str) : dropD (kvM em m) (.inr k) = kvM em (del m k) := by
  unfold dropD del kvM
  rw [List.filter_map]
  congr 1
  refine List.filter_congr fun p _ => ?_
  show decide (¬ ((Sum.inr p.1 : Key) = .inr k)) = _
  rw [decide_not, key_dec, ← decide_not]
theorem pairsD_it : ∀ m : Mp α, pairsD (itM em m) = some (kvM em m)
  | [] => rfl
  | p :: m => by
    show ((keyD (.str p.1)).bind fun k => (pairsD (itM em m)).map fun rs => (k, em p.2) :: rs) = _
    rw [pairsD_it m]
    rfl
def putAll (m n : Mp α) : Mp α := n.foldl (fun acc p => put acc p.1 p.2) m
theorem mergeD_kv : ∀ (n m : Mp α), mergeD (kvM em m) (kvM em n) = kvM em (putAll m n)
  | [], _ => rfl
  | p :: n, m => by
    show mergeD (putD (kvM em m) (.inr p.1) (em p.2)) (kvM em n) = kvM em (putAll (put m p.1 p.2) n)
    rw [putD_kv, mergeD_kv n]
theorem nd_putAll : ∀ (n m : Mp α), Nd m → Nd (putAll m n)
  | [], _, h => h
  | p :: n, m, h => nd_putAll n (put m p.1 p.2) (nd_put h)
theorem val_putAll : ∀ (n m : Mp α), Nd n → ∀ k, val (putAll m n) k = (val n k).orElse fun _ => val m k
  | [], _, _, k => rfl
  | p :: n, m, h, k => by
    rw [nd_cons] at h
    show val (putAll (put m p.1 p.2) n) k = _
    rw [val_putAll n _ h.2, val_put, val_cons]
    by_cases e : p.1 = k
    · subst e
      rw [h.1]
      simp
    · have e' : ¬ k = p.1 := fun z => e z.symm
      rw [if_neg e, if_neg e']
theorem put_new {m : Mp α} {k : Str} {v : α} (h : val m k = none) : put m k v = m ++ [(k, v)] := by
  unfold put
  rw [val_any, h]
  rfl
theorem putAll_new : ∀ (n m : Mp α), Nd (m ++ n) → putAll m n = m ++ n
  | [], m, _ => (List.append_nil m).symm
  | p :: n, m, h => by
    show putAll (put m p.1 p.2) n = _
    have hv : val m p.1 = none := by
      rw [val_none_iff]
      intro z
      unfold Nd at h
      rw [List.map_append, List.nodup_append] at h
      exact h.2.2 _ z _ (by rw [List.map_cons]; exact List.mem_cons_self) rfl
    have e : m ++ p :: n = (m ++ [p]) ++ n := by simp
    rw [put_new hv, e]
    rw [e] at h
    exact putAll_new n _ h
theorem putAll_nil {m : Mp α} (h : Nd m) : putAll [] m = m := putAll_new m [] h
theorem dict_kv {m : Mp α} (h : Nd m) : mergeD [] (kvM em m) = kvM em m := by
  show mergeD (kvM em []) (kvM em m) = _
  rw [mergeD_kv, putAll_nil h]
theorem itemsOf_kv (m : Mp α) : itemsOf (kvM em m) = itM em m := by
  unfold itemsOf kvM itM
  rw [List.map_map]
  rfl
theorem leD_it {h : EmOk em} {p q : Str × α} (ne : p.1 ≠ q.1) : leD (prD em p) (prD em q) = leK p q := by
  show (!PySem.W.dataLt (.tuple [.str q.1, em q.2]) (.tuple [.str p.1, em p.2])) = leS p.1 q.1
  rw [PySem.W.dataLt_pair (by simp [PySem.W.alike]) (h.alike _ _)]
  rw [if_neg (by simp only [PyData.eqv, beq_iff_eq]; exact fun z => ne z.symm), PySem.W.dataLt_str]
  rfl
theorem leD_total : PySem.W.TotalLe leD := by
  unfold leD PySem.W.dataLe
  exact PySem.W.sortLe_total _ _ _
theorem depth_pr (h : EmOk em) (p : Str × α) : (prD em p).depth ≤ 43 := by
  have := h.depth p.2
  unfold prD
  simp only [PyData.depth, PyData.depthAll]
  omega
theorem sortOk_it (h : EmOk em) {m : Mp α} (hl : m.length ≤ sizeLine) : sortOk (itM em m) = true := by
  unfold sortOk
  simp only [Bool.and_eq_true, Bool.or_eq_true, List.all_eq_true, decide_eq_true_eq]
  refine ⟨⟨⟨fun d hd d' hd' => ?_, .inl fun d hd => ?_⟩, fun d hd => ?_⟩, by rw [itM_len]; exact hl⟩
  · obtain ⟨p, _, rfl⟩ := List.mem_map.mp hd
    obtain ⟨q, _, rfl⟩ := List.mem_map.mp hd'
    unfold prD
    simp [PySem.W.alike, PySem.W.alikeAll, h.alike]
  · obtain ⟨p, _, rfl⟩ := List.mem_map.mp hd
    rfl
  · obtain ⟨p, _, rfl⟩ := List.mem_map.mp hd
    have := depth_pr h p
    omega
theorem sort_it (h : EmOk em) {m : Mp α} (nd : Nd m) : (itM em m).mergeSort leD = itM em (srt m) := by
  unfold itM srt
  symm
  have key : (m.mergeSort (fun p q => leD (prD em p) (prD em q))).map (prD em) = (m.map (prD em)).mergeSort leD := PySem.W.sort_maps (prD em) fun a _ b _ => rfl
  rw [← key]
  congr 1
  refine PySem.W.sort_congr fun a ha b hb => ?_
  by_cases e : a.1 = b.1
  · have : a = b := by
      have h1 := val_of_mem nd (k := a.1) (v := a.2) ha
      have h2 := val_of_mem nd (k := b.1) (v := b.2) hb
      rw [e, h2] at h1
      exact Prod.ext e (Option.some.inj h1).symm
    subst this
    rw [leK_total.refl, leD_total.refl]
  · exact (leD_it (h := h) e).symm
theorem mSItems_kv (h : EmOk em) {g : MirM} {ρ : Rho} {m : Mp α} (e : g ρ = some (kvM em m)) (nd : Nd m) (hl : m.length ≤ sizeLine) : mSItems g ρ = some (.list (itM em (srt m))) := by
  unfold mSItems
  rw [e]
  show (if sortOk (itemsOf (kvM em m)) = true then _ else _) = _
  rw [itemsOf_kv, if_pos (sortOk_it h hl), sort_it h nd]
theorem mDEq_kv (h : EmOk em) {g g' : MirM} {ρ : Rho} {m n : Mp α} (neg : Bool) (e : g ρ = some (kvM em m)) (e' : g' ρ = some (kvM em n)) (nm : Nd m) (nn : Nd n) (hv : ∀ k, val m k = val n k) : mDEq neg g g' ρ = some (.bool (!neg)) := by
  unfold mDEq
  rw [e, e']
  refine if_pos ⟨by rw [kvM_len, kvM_len, len_of_val nm nn hv], ?_⟩
  rw [List.all_eq_true]
  intro p hp
  obtain ⟨q, hq, rfl⟩ := List.mem_map.mp hp
  have hq' := val_of_mem nm (k := q.1) (v := q.2) hq
  show (flatV2 (em q.2) && match valD (kvM em n) (.inr q.1) with | some d => flatV2 d && PyData.eqv (em q.2) d | none => false) = true
  rw [valD_kv, ← hv, hq', h.flat]
  show (true && (flatV2 (em q.2) && PyData.eqv (em q.2) (em q.2))) = true
  rw [h.flat, h.self]
  rfl
theorem dPairs_it {f : Mir} {ρ : Rho} {m : Mp α} (e : f ρ = some (.tuple (itM em m)) ∨ f ρ = some (.list (itM em m))) (nd : Nd m) : dPairs f ρ = some (kvM em m) := by
  unfold dPairs
  rcases e with e | e <;> rw [e]
  · show (pairsD (itM em m)).map _ = _
    rw [pairsD_it]
    exact congrArg some (dict_kv nd)
  · show (pairsD (itM em m)).map _ = _
    rw [pairsD_it]
    exact congrArg some (dict_kv nd)
theorem dPairs_all {f : Mir} {ρ : Rho} {m : Mp α} (e : f ρ = some (.tuple (itM em m)) ∨ f ρ = some (.list (itM em m))) : dPairs f ρ = some (kvM em (putAll [] m)) := by
  unfold dPairs
  rcases e with e | e <;> rw [e]
  · show (pairsD (itM em m)).map _ = _
    rw [pairsD_it]
    exact congrArg some (mergeD_kv m [])
  · show (pairsD (itM em m)).map _ = _
    rw [pairsD_it]
    exact congrArg some (mergeD_kv m [])
end
end Pu

set_option Elab.async false
set_option linter.all false
set_option autoImplicit false
set_option maxRecDepth 100000
/-! how mirrors are run -/
namespace Pu
open PySem PySem.Spec PyProof.Rows L2
@[simp] theorem sizeLine_is : sizeLine = 16777216 := rfl
theorem ofS_inj {a b : String} (h : Str.ofString a = Str.ofString b) : a = b := by
  rw [Str.ofString_eq_toList, Str.ofString_eq_toList] at h
  have h1 : (a.toList.map Char.toNat).toArray = (b.toList.map Char.toNat).toArray := congrArg Str.cps h
  have h2 : a.toList.map Char.toNat = b.toList.map Char.toNat := by simpa using h1
  have inj : ∀ c d : Char, c.toNat = d.toNat → c = d := fun c d e => Char.ext (UInt32.toNat_inj.mp e)
  have h3 : a.toList = b.toList := (List.map_inj_right inj).mp h2
  exact String.toList_inj.mp h3
@[simp] theorem ofS_iff {a b : String} : (Str.ofString a = Str.ofString b) = (a = b) := propext ⟨ofS_inj, fun h => by rw [h]⟩
@[simp] theorem beqS (a b : Str) : (a == b) = decide (a = b) := by
  rw [Bool.eq_iff_iff]
  simp
theorem ofS_beq {a b : String} : (Str.ofString a == Str.ofString b) = decide (a = b) := by
  by_cases h : a = b
  · simp [h]
  · have : ¬ Str.ofString a = Str.ofString b := fun z => h (ofS_inj z)
    simp [h]
section
variable {ρ : Rho} {f g h : Mir} {d : D} {i : Nat} {F G : MirS} {r : MirA} {q : MirX}
@[simp] theorem v_C : mC d ρ = some d := rfl
@[simp] theorem v_yes : mYes ρ = some (.bool true) := rfl
@[simp] theorem v_m1 {m : D → Option D} : m1 m f ρ = (f ρ).bind m := rfl
@[simp] theorem v_m2 {m : D → D → Option D} : m2 m f g ρ = (f ρ).bind fun x => (g ρ).bind fun y => m x y := rfl
@[simp] theorem v_mA {m : List D → Option D} : mA m r ρ = (r ρ).bind m := rfl
@[simp] theorem v_aNil : aNil ρ = some [] := rfl
@[simp] theorem v_aCons : aCons f r ρ = (f ρ).bind fun x => (r ρ).bind fun xs => some (x :: xs) := rfl
@[simp] theorem v_xNil : xNil ρ = some [] := rfl
@[simp] theorem v_xDat : xDat f q ρ = (f ρ).bind fun x => (q ρ).bind fun xs => some (.dat x :: xs) := rfl
@[simp] theorem v_xBor : xBor i q ρ = (dVar i ρ).bind fun kvs => (q ρ).bind fun xs => some (.bor kvs :: xs) := rfl
@[simp] theorem v_call {F : MirF} : mCall F q ρ = (q ρ).bind F := rfl
@[simp] theorem v_tup : mTup r ρ = (r ρ).bind fun xs => if xs.length ≤ sizeLine then some (.tuple xs) else none := rfl
@[simp] theorem v_lst : mLst r ρ = (r ρ).bind fun xs => if xs.length ≤ sizeLine then some (.list xs) else none := rfl
@[simp] theorem v_lLst : lLst r ρ = (r ρ).bind fun xs => if xs.length ≤ sizeLine then some xs else none := rfl
@[simp] theorem v_mL {l : MirL} : mL l ρ = (l ρ).map PyData.list := rfl
@[simp] theorem v_var0 {d : D} {ρ : Rho} : mVar 0 (.dat d :: ρ) = some d := rfl
@[simp] theorem v_varS {s : Sl} {ρ : Rho} {n : Nat} : mVar (n + 1) (s :: ρ) = mVar n ρ := rfl
@[simp] theorem v_dVar0 {d : KVs} {ρ : Rho} : dVar 0 (.dic d :: ρ) = some d := rfl
@[simp] theorem v_dVarM {d : KVs} {ρ : Rho} : dVar 0 (.mu d :: ρ) = some d := rfl
@[simp] theorem v_dVarB {d : KVs} {ρ : Rho} : dVar 0 (.bor d :: ρ) = some d := rfl
@[simp] theorem v_dVarS {s : Sl} {ρ : Rho} {n : Nat} : dVar (n + 1) (s :: ρ) = dVar n ρ := rfl
@[simp] theorem v_muOf0 {d : KVs} {ρ : Rho} : muOf 0 (.mu d :: ρ) = some d := rfl
@[simp] theorem v_sNil : sNil ρ = some (.nx ρ) := rfl
@[simp] theorem v_sSet : sSet i f ρ = (f ρ).map fun d => Out.nx (ρ.set i (.dat d)) := rfl
@[simp] theorem v_sRet : sRet f ρ = (f ρ).map Out.rt := rfl
@[simp] theorem v_sExpr : sExpr f ρ = (f ρ).map fun _ => Out.nx ρ := rfl
@[simp] theorem v_sAsg {m : MirG} : sAsg f m ρ = (f ρ).bind fun d => (m d ρ).map Out.nx := rfl
@[simp] theorem v_sDic {g : MirM} : sDic i g ρ = (g ρ).map fun kvs => Out.nx (ρ.set i (.dic kvs)) := rfl
@[simp] theorem v_sFor {fi : MirI} {m : MirG} : sFor fi m F ρ = (fi ρ).bind fun ds => sLoop m F ds ρ := rfl
@[simp] theorem v_iD : iD f ρ = (f ρ).bind itemsD := rfl
@[simp] theorem v_gN {d : D} : gN i d ρ = some (ρ.set i (.dat d)) := rfl
@[simp] theorem v_gT {is : List Nat} {ds : List D} : gT is (.tuple ds) ρ = gNs is ds ρ := rfl
@[simp] theorem v_gNs0 : gNs [] [] ρ = some ρ := rfl
@[simp] theorem v_gNsS {i : Nat} {is : List Nat} {d : D} {ds : List D} : gNs (i :: is) (d :: ds) ρ = gNs is ds (ρ.set i (.dat d)) := rfl
theorem v_seq : sSeq F G ρ = (F ρ).bind fun | .nx ρ' => G ρ' | o => some o := rfl
@[simp] theorem v_seqN {ρ' : Rho} (e : F ρ = some (.nx ρ')) : sSeq F G ρ = G ρ' := by rw [v_seq, e]; rfl
@[simp] theorem v_seqR (e : F ρ = some (.rt d)) : sSeq F G ρ = some (.rt d) := by rw [v_seq, e]; rfl
@[simp] theorem v_sIf {b : Bool} (e : f ρ = some (.bool b)) : sIf f F G ρ = if b = true then F ρ else G ρ := by
  unfold sIf
  rw [e]
  cases b <;> rfl
@[simp] theorem v_and {b : Bool} (e : f ρ = some (.bool b)) : mAnd f g ρ = if b = true then g ρ else some (.bool false) := by
  unfold mAnd
  rw [e]
  cases b <;> rfl
@[simp] theorem v_or {b : Bool} (e : f ρ = some (.bool b)) : mOr f g ρ = if b = true then some (.bool true) else g ρ := by
  unfold mOr
  rw [e]
  cases b <;> rfl
@[simp] theorem v_not {b : Bool} : oNot (.bool b) = some (.bool (!b)) := rfl
@[simp] theorem v_wipe0 : wipeR ρ [] = ρ := rfl
@[simp] theorem v_wipeS {v : Nat} {vs : List Nat} : wipeR ρ (v :: vs) = (wipeR ρ vs).set v .no := rfl
@[simp] theorem v_loop0 {m : MirG} : sLoop m F [] ρ = some (.nx ρ) := rfl
theorem v_loopS {m : MirG} {x : D} {xs : List D} {ρ1 ρ2 : Rho} (e1 : m x ρ = some ρ1) (e2 : F ρ1 = some (.nx ρ2)) : sLoop m F (x :: xs) ρ = sLoop m F xs ρ2 := by
  show ((m x ρ).bind _) = _
  rw [e1]
  show ((F ρ1).bind _) = _
  rw [e2]
  rfl
theorem v_loopR {m : MirG} {x : D} {xs : List D} {ρ1 : Rho} (e1 : m x ρ = some ρ1) (e2 : F ρ1 = some (.rt d)) : sLoop m F (x :: xs) ρ = some (.rt d) := by
  show ((m x ρ).bind _) = _
  rw [e1]
  show ((F ρ1).bind _) = _
  rw [e2]
  rfl
@[simp] theorem v_lLc {vs : List Nat} {fi : MirI} {m : MirG} {tt te : Mir} : lLc vs fi m tt te ρ = (fi ρ).bind fun ds => if ds.length < sizeLine then lcGo m tt te (wipeR ρ vs) ds else none := rfl
@[simp] theorem v_lc0 {m : MirG} {tt te : Mir} : lcGo m tt te ρ [] = some [] := rfl
/-- a comprehension without a test -/
theorem lc_map {m : MirG} {te : Mir} {k : D → D} : ∀ {ds : List D}, (∀ d ∈ ds, ∃ ρ1, m d ρ = some ρ1 ∧ te ρ1 = some (k d)) → lcGo m mYes te ρ ds = some (ds.map k)
  | [], _ => rfl
  | d :: ds, hh => by
    obtain ⟨ρ1, e1, e2⟩ := hh d List.mem_cons_self
    have ih := lc_map (ds := ds) fun d' hd => hh d' (List.mem_cons_of_mem _ hd)
    show ((m d ρ).bind _) = _
    rw [e1]
    show ((te ρ1).bind _) = _
    rw [e2, ih]
    rfl
/-- a comprehension with a test -/
theorem lc_filter {m : MirG} {tt te : Mir} {k : D → D} {c : D → Bool} : ∀ {ds : List D}, (∀ d ∈ ds, ∃ ρ1, m d ρ = some ρ1 ∧ tt ρ1 = some (.bool (c d)) ∧ (c d = true → te ρ1 = some (k d))) → lcGo m tt te ρ ds = some ((ds.filter c).map k)
  | [], _ => rfl
  | d :: ds, hh => by
    obtain ⟨ρ1, e1, e2, e3⟩ := hh d List.mem_cons_self
    have ih := lc_filter (ds := ds) fun d' hd => hh d' (List.mem_cons_of_mem _ hd)
    show ((m d ρ).bind _) = _
    rw [e1]
    show (match tt ρ1 with | some (.bool true) => _ | some (.bool false) => _ | _ => _) = _
    rw [e2]
    cases hc : c d with
    | true =>
      rw [List.filter_cons_of_pos hc]
      show ((te ρ1).bind _) = _
      rw [e3 hc, ih]
      rfl
    | false =>
      rw [List.filter_cons_of_neg (by rw [hc]; simp)]
      exact ih
/-- comprehensions over typed rows -/
theorem lc_mapT {τ : Type} (e : τ → D) (k : τ → D) {m : MirG} {te : Mir} : ∀ (l : List τ), (∀ t ∈ l, ∃ ρ1, m (e t) ρ = some ρ1 ∧ te ρ1 = some (k t)) → lcGo m mYes te ρ (l.map e) = some (l.map k)
  | [], _ => rfl
  | t :: l, hh => by
    obtain ⟨ρ1, e1, e2⟩ := hh t List.mem_cons_self
    have ih := lc_mapT e k l fun d' hd => hh d' (List.mem_cons_of_mem _ hd)
    show ((m (e t) ρ).bind _) = _
    rw [e1]
    show ((te ρ1).bind _) = _
    rw [e2, ih]
    rfl
theorem lc_filterT {τ : Type} (e : τ → D) (k : τ → D) (c : τ → Bool) {m : MirG} {tt te : Mir} : ∀ (l : List τ), (∀ t ∈ l, ∃ ρ1, m (e t) ρ = some ρ1 ∧ tt ρ1 = some (.bool (c t)) ∧ (c t = true → te ρ1 = some (k t))) → lcGo m tt te ρ (l.map e) = some ((l.filter c).map k)
  | [], _ => rfl
  | t :: l, hh => by
    obtain ⟨ρ1, e1, e2, e3⟩ := hh t List.mem_cons_self
    have ih := lc_filterT e k c l fun d' hd => hh d' (List.mem_cons_of_mem _ hd)
    show ((m (e t) ρ).bind _) = _
    rw [e1]
    show (match tt ρ1 with | some (.bool true) => _ | some (.bool false) => _ | _ => _) = _
    rw [e2]
    cases hc : c t with
    | true =>
      rw [List.filter_cons_of_pos hc]
      show ((te ρ1).bind _) = _
      rw [e3 hc, ih]
      rfl
    | false =>
      rw [List.filter_cons_of_neg (by rw [hc]; simp)]
      exact ih
/-- a def's run -/
theorem run_rt {n : Nat} {xs : List Sl} (e : F (startR n xs) = some (.rt d)) : runB n F xs = some d := by
  unfold runB
  rw [e]
theorem run_nx {n : Nat} {xs : List Sl} {ρ' : Rho} (e : F (startR n xs) = some (.nx ρ')) : runB n F xs = some .none := by
  unfold runB
  rw [e]
end
@[simp] theorem oAdd_i (a b : Int) : oAdd (.int a) (.int b) = some (.int (a + b)) := rfl
@[simp] theorem oAdd_s {a b : Str} (h : a.length + b.length ≤ 16777216) : oAdd (.str a) (.str b) = some (.str (a ++ b)) := by
  have : addS (.str a) (.str b) = some (.str (a ++ b)) := if_pos h
  unfold oAdd
  rw [this]
  rfl
@[simp] theorem oAdd_t {a b : List D} (h : a.length + b.length ≤ 16777216) : oAdd (.tuple a) (.tuple b) = some (.tuple (a ++ b)) := by
  have : addT (.tuple a) (.tuple b) = some (.tuple (a ++ b)) := if_pos h
  unfold oAdd
  rw [this]
  rfl
@[simp] theorem oAdd_l {a b : List D} (h : a.length + b.length ≤ 16777216) : oAdd (.list a) (.list b) = some (.list (a ++ b)) := by
  have : addL (.list a) (.list b) = some (.list (a ++ b)) := if_pos h
  unfold oAdd
  rw [this]
  rfl
@[simp] theorem oSub_i (a b : Int) : oSub (.int a) (.int b) = some (.int (a - b)) := rfl
theorem oMul_i {a b : Int} (h : CMul a b) : oMul (.int a) (.int b) = some (.int (a * b)) := by
  have : mulI (.int a) (.int b) = some (.int (a * b)) := if_pos h
  unfold oMul
  rw [this]
  rfl
@[simp] theorem oMul_r {a b : Int} (h : -18446744073709551616 < b) (h' : b < 18446744073709551616) : oMul (.int a) (.int b) = some (.int (a * b)) := oMul_i (.inr ⟨by simpa using h, by simpa using h'⟩)
@[simp] theorem oMul_l {a b : Int} (h : -18446744073709551616 < a) (h' : a < 18446744073709551616) : oMul (.int a) (.int b) = some (.int (a * b)) := oMul_i (.inl ⟨by simpa using h, by simpa using h'⟩)
@[simp] theorem oMod_i {a b : Int} (h : 0 < b) : oMod (.int a) (.int b) = some (.int (a % b)) := if_pos h
@[simp] theorem oDiv_i {a b : Int} (h : 0 < b) (h' : b < 1073741824) : oDiv (.int a) (.int b) = some (.int (a / b)) := if_pos ⟨h, h'⟩
@[simp] theorem oNeg_i (a : Int) : oNeg (.int a) = some (.int (-a)) := rfl
@[simp] theorem oLt_i (a b : Int) : oLt (.int a) (.int b) = some (.bool (decide (a < b))) := rfl
@[simp] theorem oLe_i (a b : Int) : oLe (.int a) (.int b) = some (.bool (decide (a ≤ b))) := rfl
@[simp] theorem oGt_i (a b : Int) : oGt (.int a) (.int b) = some (.bool (decide (b < a))) := rfl
@[simp] theorem oGe_i (a b : Int) : oGe (.int a) (.int b) = some (.bool (decide (b ≤ a))) := rfl
@[simp] theorem oLt_s (a b : Str) : oLt (.str a) (.str b) = some (.bool (ltS a b)) := rfl
@[simp] theorem oLe_s (a b : Str) : oLe (.str a) (.str b) = some (.bool (leS a b)) := rfl
@[simp] theorem oEq_i (a b : Int) : oEq (.int a) (.int b) = some (.bool (a == b)) := by
  unfold oEq
  rw [if_pos (by simp [PyData.depth]), PyData.eqv]
@[simp] theorem oNe_i (a b : Int) : oNe (.int a) (.int b) = some (.bool (!(a == b))) := by
  unfold oNe
  rw [if_pos (by simp [PyData.depth]), PyData.eqv]
@[simp] theorem oEq_s (a b : Str) : oEq (.str a) (.str b) = some (.bool (a == b)) := by
  unfold oEq
  rw [if_pos (by simp [PyData.depth]), PyData.eqv]
@[simp] theorem oNe_s (a b : Str) : oNe (.str a) (.str b) = some (.bool (!(a == b))) := by
  unfold oNe
  rw [if_pos (by simp [PyData.depth]), PyData.eqv]
@[simp] theorem oLen_l (xs : List D) : oLen [.list xs] = some (.int xs.length) := rfl
@[simp] theorem oLen_t (xs : List D) : oLen [.tuple xs] = some (.int xs.length) := rfl
@[simp] theorem oTuple_l (xs : List D) : oTuple [.list xs] = some (.tuple xs) := rfl
@[simp] theorem oTuple_t (xs : List D) : oTuple [.tuple xs] = some (.tuple xs) := rfl
@[simp] theorem oList_l (xs : List D) : oList [.list xs] = some (.list xs) := rfl
@[simp] theorem oList_t (xs : List D) : oList [.tuple xs] = some (.list xs) := rfl
@[simp] theorem items_l (xs : List D) : itemsD (.list xs) = some xs := rfl
@[simp] theorem items_t (xs : List D) : itemsD (.tuple xs) = some xs := rfl
@[simp] theorem keyD_s (x : Str) : keyD (.str x) = some (.inr x) := rfl
@[simp] theorem oIx_t (xs : List D) (i : Int) : oIx (.tuple xs) (.int i) = atI xs i := rfl
@[simp] theorem oIx_l (xs : List D) (i : Int) : oIx (.list xs) (.int i) = atI xs i := rfl
theorem atI_nat {α : Type} (xs : List α) (k : Nat) : atI xs (k : Int) = xs[k]? := by
  unfold atI ixN
  rw [if_pos (by omega)]
  by_cases h : (k : Int) < xs.length
  · rw [if_pos h]
    rfl
  · rw [if_neg h]
    rw [List.getElem?_eq_none (by omega)]
    rfl
theorem atI_of {α : Type} {xs : List α} {i : Int} (h : 0 ≤ i) : atI xs i = xs[i.toNat]? := by
  obtain ⟨n, rfl⟩ := Int.eq_ofNat_of_zero_le h
  rw [atI_nat]
  rfl
@[simp] theorem atI_0 {α : Type} {xs : List α} : atI xs 0 = xs[0]? := atI_nat xs 0
@[simp] theorem atI_1 {α : Type} {xs : List α} : atI xs 1 = xs[1]? := atI_nat xs 1
@[simp] theorem atI_2 {α : Type} {xs : List α} : atI xs 2 = xs[2]? := atI_nat xs 2
/-! ranges -/
theorem ilim_is : ilim = 4611686018427387904 := rfl
theorem iR1_i {r : MirA} {ρ : Rho} {j : Int} (e : r ρ = some [.int j]) (h1 : -4611686018427387904 ≤ j) (h2 : j < 4611686018427387904) : iR1 r ρ = some (rgD 0 j.toNat) := by
  unfold iR1
  rw [e]
  exact if_pos ⟨by rw [ilim_is]; exact h1, by rw [ilim_is]; exact h2⟩
theorem iR2_i {r : MirA} {ρ : Rho} {i j : Int} (e : r ρ = some [.int i, .int j]) (h1 : -4611686018427387904 ≤ i) (h2 : i < 4611686018427387904) (h3 : -4611686018427387904 ≤ j) (h4 : j < 4611686018427387904) : iR2 r ρ = some (rgD i (j - i).toNat) := by
  unfold iR2
  rw [e]
  exact if_pos ⟨by rw [ilim_is]; exact h1, by rw [ilim_is]; exact h2, by rw [ilim_is]; exact h3, by rw [ilim_is]; exact h4⟩
theorem v_sPar {i j : Nat} {a b : Mir} {ρ : Rho} {x y : D} (h1 : a ρ = some x) (h2 : b ρ = some y) : sPar i j (aCons a (aCons b aNil)) ρ = some (.nx ((ρ.set i (.dat x)).set j (.dat y))) := by
  unfold sPar
  rw [v_aCons, v_aCons, h1, h2]
  rfl
/-! comprehensions, as lists and tuples -/
section
variable {ρ : Rho} {vs : List Nat} {fi : MirI} {m : MirG} {tt te : Mir} {ds out : List D}
theorem v_listLc (hi : fi ρ = some ds) (hl : ds.length < 16777216) (hg : lcGo m tt te (wipeR ρ vs) ds = some out) : mL (lLc vs fi m tt te) ρ = some (.list out) := by
  rw [v_mL, v_lLc, hi]
  show Option.map PyData.list (if ds.length < sizeLine then _ else _) = _
  rw [if_pos (show ds.length < sizeLine from hl), hg]
  rfl
theorem v_tupLc (hi : fi ρ = some ds) (hl : ds.length < 16777216) (hg : lcGo m tt te (wipeR ρ vs) ds = some out) : mA oTuple (aCons (mL (lLc vs fi m tt te)) aNil) ρ = some (.tuple out) := by
  rw [v_mA, v_aCons, v_listLc hi hl hg]
  rfl
end
/-! alike data -/
theorem ne_self {d : D} (h : d.depth ≤ 60) (e : PyData.eqv d d = true) : oNe d d = some (.bool false) := by
  unfold oNe
  rw [if_pos h, e]
  rfl
theorem eq_self {d : D} (h : d.depth ≤ 60) (e : PyData.eqv d d = true) : oEq d d = some (.bool true) := by
  unfold oEq
  rw [if_pos h, e]
end Pu

set_option Elab.async false
set_option linter.all false
set_option autoImplicit false
set_option maxRecDepth 100000
set_option maxHeartbeats 1000000
namespace Pu
open PySem PySem.Spec PyProof.Rows L2
def B_do : MirS :=
  (sSeq (sAsg (mSl (mVar 1) oNone (oSome (mC (.int 2)))) (gT [2, 3]))
    (sIf (m2 oEq (mVar 2) (mC (.str "add")))
      (sMPut 0 (mVar 3) (mDGet2 (dVar 0) (mVar 3) (m2 oIx (mVar 1) (mC (.int 2)))))
      (sIf (m2 oEq (mVar 2) (mC (.str "drop")))
      (sMPop2 0 (mVar 3) (mC .none))
      (sIf (mAnd (m2 oEq (mVar 2) (mC (.str "times"))) (mDIn false (mVar 3) (dVar 0)))
      (sMPut 0 (mVar 3) (m2 oMod (m2 oMul (mDGet (dVar 0) (mVar 3)) (m2 oIx (mVar 1) (mC (.int 2)))) (mC (.int 1000))))
      (sIf (mAnd (m2 oEq (mVar 2) (mC (.str "call"))) (mDIn false (mVar 3) (dVar 0)))
      (sSeq (sMPop1 4 0 (mVar 3))
    (sMPut 0 (m2 oIx (mVar 1) (mC (.int 2))) (mVar 4)))
      (sIf (mAnd (m2 oEq (mVar 2) (mC (.str "join"))) (mDIn false (m2 oIx (mVar 1) (mC (.int 2))) (dVar 0)))
      (sMJoin 0 (mVar 3) (mDGet2 (dVar 0) (mVar 3) (mC (.int 0))) (m2 oIx (mVar 1) (mC (.int 2))) 1000)
      sNil))))))
def U_do : MirU := runM 5 B_do

def B_led : MirS :=
  (sSeq (sDic 2 (dPairs (mVar 0)))
    (sSeq (sFor (iD (mVar 1)) (gN 3)
      (sMut 2 1 U_do (aCons (mVar 3) aNil)))
    (sRet (mA oTuple (aCons (mSItems (dVar 2)) aNil)))))
def F_led : MirF := runB 4 B_led

def B_led_over : MirS :=
  (sSeq (sFor (iD (mSl (mVar 2) (oSome (m2 oSub (mVar 1) (mC (.int 1)))) oNone)) (gN 3)
      (sSet 0 (mCall (F_led) (xDat (mVar 0) (xDat (mVar 3) xNil)))))
    (sRet (mVar 0)))
def F_led_over : MirF := runB 4 B_led_over

def B_keys_behind : MirS :=
  (sRet (mA oTuple (aCons (mL (lLc [2, 3] (iD (mCall (F_led) (xDat (mA oTuple (aCons (mL (lLc [2] (iD (mVar 0)) (gN 2) mYes (mTup (aCons (mVar 2) (aCons (mC (.int 0)) aNil))))) aNil)) (xDat (mVar 1) xNil)))) (gT [2, 3]) mYes (mVar 2))) aNil)))
def F_keys_behind : MirF := runB 4 B_keys_behind

def B_law_cell_at : MirS :=
  (sSeq (sIf (m2 oLt (mVar 1) (mA oLen (aCons (mVar 0) aNil)))
      (sRet (m2 oIx (mVar 0) (mVar 1)))
      sNil)
    (sRet (mC (.int 0))))
def F_law_cell_at : MirF := runB 2 B_law_cell_at

def B_law_mixed : MirS :=
  (sSeq (sSet 2 (m2 oMod (m2 oMul (m2 oAdd (m2 oAdd (mCall (F_law_cell_at) (xDat (mVar 0) (xDat (mVar 1) xNil))) (m2 oMul (mC (.int 7919)) (mVar 1))) (mC (.int 1))) (mC (.int 48271))) (mC (.int 2147483647))))
    (sRet (m2 oMod (m2 oAdd (m2 oAdd (m2 oMul (mVar 2) (mVar 2)) (m2 oMul (mC (.int 7)) (mVar 2))) (mVar 1)) (mC (.int 2147483629)))))
def F_law_mixed : MirF := runB 3 B_law_mixed

def B_law_drawn : MirS :=
  (sSeq (sSet 2 (m2 oMod (m2 oMul (m2 oAdd (m2 oAdd (mVar 0) (m2 oMul (mC (.int 104729)) (mVar 1))) (mC (.int 17))) (mC (.int 69621))) (mC (.int 2147483647))))
    (sRet (m2 oMod (m2 oAdd (m2 oAdd (m2 oMul (mVar 2) (mVar 2)) (m2 oMul (mC (.int 3)) (mVar 2))) (mVar 1)) (mC (.int 2147483629)))))
def F_law_drawn : MirF := runB 3 B_law_drawn

def B_law_book : MirS :=
  (sSeq (sSet 1 (mTup aNil))
    (sSeq (sFor (iEn (aCons (mTup (aCons (mC (.str "a")) (aCons (mC (.str "b")) (aCons (mC (.str "coin")) (aCons (mC (.str "end")) (aCons (mC (.str "x")) aNil)))))) aNil)) (gT [2, 3])
      (sSeq (sSet 4 (m2 oDiv (mCall (F_law_drawn) (xDat (mVar 0) (xDat (m2 oAdd (mC (.int 60)) (mVar 2)) xNil))) (mC (.int 4))))
    (sIf (m2 oGt (m2 oMod (mVar 4) (mC (.int 3))) (mC (.int 0)))
      (sSet 1 (m2 oAdd (mVar 1) (mTup (aCons (mTup (aCons (mVar 3) (aCons (m2 oMod (m2 oDiv (mVar 4) (mC (.int 4))) (m2 oIx (mTup (aCons (mC (.int 1000)) (aCons (mC (.int 4)) aNil))) (m2 oMod (m2 oDiv (mVar 4) (mC (.int 16))) (mC (.int 2))))) aNil))) aNil))))
      sNil)))
    (sRet (mVar 1))))
def F_law_book : MirF := runB 5 B_law_book

def B_law_deed : MirS :=
  (sSeq (sSet 1 (mTup (aCons (mC (.str "a")) (aCons (mC (.str "b")) (aCons (mC (.str "coin")) (aCons (mC (.str "end")) (aCons (mC (.str "x")) (aCons (mC (.str "new")) aNil))))))))
    (sSeq (sSet 2 (m2 oIx (mVar 1) (m2 oMod (m2 oDiv (mVar 0) (mC (.int 8))) (mC (.int 6)))))
    (sSeq (sSet 3 (m2 oIx (mVar 1) (m2 oMod (m2 oDiv (mVar 0) (mC (.int 64))) (mC (.int 6)))))
    (sSeq (sSet 4 (m2 oMod (mVar 0) (mC (.int 5))))
    (sSeq (sIf (m2 oEq (mVar 4) (mC (.int 0)))
      (sRet (mTup (aCons (mC (.str "add")) (aCons (mVar 2) (aCons (m2 oMod (m2 oDiv (mVar 0) (mC (.int 512))) (mC (.int 1000))) aNil)))))
      sNil)
    (sSeq (sIf (m2 oEq (mVar 4) (mC (.int 1)))
      (sRet (mTup (aCons (mC (.str "drop")) (aCons (mVar 2) aNil))))
      sNil)
    (sSeq (sIf (m2 oEq (mVar 4) (mC (.int 2)))
      (sRet (mTup (aCons (mC (.str "times")) (aCons (mVar 2) (aCons (m2 oMod (m2 oDiv (mVar 0) (mC (.int 512))) (mC (.int 10))) aNil)))))
      sNil)
    (sSeq (sIf (mAnd (m2 oEq (mVar 4) (mC (.int 3))) (m2 oNe (mVar 2) (mVar 3)))
      (sRet (mTup (aCons (mC (.str "join")) (aCons (mVar 2) (aCons (mVar 3) aNil)))))
      sNil)
    (sRet (mTup (aCons (mC (.str "call")) (aCons (mVar 2) (aCons (mVar 3) aNil)))))))))))))
def F_law_deed : MirF := runB 5 B_law_deed

def B_law_deeds : MirS :=
  (sRet (mA oTuple (aCons (mL (lLc [2] (iR1 (aCons (m2 oMod (mVar 0) (m2 oAdd (mVar 1) (mC (.int 1)))) aNil)) (gN 2) mYes (mCall (F_law_deed) (xDat (m2 oDiv (mCall (F_law_drawn) (xDat (mVar 0) (xDat (mVar 2) xNil))) (mC (.int 4))) xNil)))) aNil)))
def F_law_deeds : MirF := runB 3 B_law_deeds

def B_law_ways : MirS :=
  (sRet (mA oTuple (aCons (mL (lLc [1] (iR1 (aCons (m2 oMod (mVar 0) (mC (.int 5))) aNil)) (gN 1) mYes (mCall (F_law_deeds) (xDat (m2 oDiv (mCall (F_law_drawn) (xDat (mVar 0) (xDat (m2 oAdd (mC (.int 30)) (mVar 1)) xNil))) (mC (.int 4))) (xDat (mC (.int 4)) xNil))))) aNil)))
def F_law_ways : MirF := runB 2 B_law_ways

end Pu

set_option Elab.async false
set_option linter.all false
set_option autoImplicit false
set_option maxRecDepth 100000
/-! deeds -/
namespace Pu
open PySem PySem.Spec PyProof.Rows L2
inductive Deed where
  | add (k : Str) (n : Int)
  | drop (k : Str)
  | times (k : Str) (n : Int)
  | call (k j : Str)
  | join (k j : Str)
def Deed.d : Deed → D
  | .add k n => .tuple [.str "add", .str k, .int n]
  | .drop k => .tuple [.str "drop", .str k]
  | .times k n => .tuple [.str "times", .str k, .int n]
  | .call k j => .tuple [.str "call", .str k, .str j]
  | .join k j => .tuple [.str "join", .str k, .str j]
def Deed.ok : Deed → Prop
  | .times _ n => 0 ≤ n ∧ n < 1000
  | _ => True
def doM (m : Mp Int) : Deed → Mp Int
  | .add k n => put m k ((val m k).getD n)
  | .drop k => del m k
  | .times k n => match val m k with
    | some v => put m k (v * n % 1000)
    | none => m
  | .call k j => match val m k with
    | some v => put (del m k) j v
    | none => m
  | .join k j => match val m j with
    | some v => put (del m j) k (((val m k).getD 0 + v) % 1000)
    | none => m
theorem nd_do {m : Mp Int} (h : Nd m) (d : Deed) : Nd (doM m d) := by
  cases d <;> simp only [doM]
  · exact nd_put h
  · exact nd_del h
  · split
    · exact nd_put h
    · exact h
  · split
    · exact nd_put (nd_del h)
    · exact h
  · split
    · exact nd_put (nd_del h)
    · exact h
theorem len_do {m : Mp Int} (d : Deed) : (doM m d).length ≤ m.length + 1 := by
  cases d <;> simp only [doM]
  · exact put_len
  · exact Nat.le_succ_of_le del_len
  · split
    · exact put_len
    · omega
  · rename_i k j
    split
    · exact Nat.le_trans put_len (Nat.succ_le_succ del_len)
    · omega
  · rename_i k j
    split
    · exact Nat.le_trans put_len (Nat.succ_le_succ del_len)
    · omega
theorem gets_do {m : Mp Int} (d : Deed) (hl : m.length < 16777216) (ok : d.ok) : U_do (kvM .int m) [d.d] = some (kvM .int (doM m d)) := by
  have e2 : HT.sIx 3 3 (some 2) = 2 := by decide
  have e3 : HT.sIx 2 2 (some 2) = 2 := by decide
  cases d with
  | add k n =>
    have key : (Option.map PyData.int (val m k)).getD (PyData.int n) = PyData.int ((val m k).getD n) := by cases val m k <;> rfl
    simp [U_do, runM, B_do, startR, Deed.d, mSl, oSl, oNone, oSome, cutD, HT.sIx_none, e2, e3, sMPut, mDGet2, valD_kv, kvM_len, hl, key, putD_kv, doM]
  | drop k =>
    simp [U_do, runM, B_do, startR, Deed.d, mSl, oSl, oNone, oSome, cutD, HT.sIx_none, e2, e3, sMPop2, kvM_len, hl, dropD_kv, doM]
  | times k n =>
    obtain ⟨n1, n2⟩ := ok
    have n3 : -18446744073709551616 < n := by omega
    have n4 : n < 18446744073709551616 := by omega
    cases h : val m k with
    | none => simp [U_do, runM, B_do, startR, Deed.d, mSl, oSl, oNone, oSome, cutD, HT.sIx_none, e2, e3, mDIn, valD_kv, kvM_len, hl, doM, h]
    | some v => simp [U_do, runM, B_do, startR, Deed.d, mSl, oSl, oNone, oSome, cutD, HT.sIx_none, e2, e3, mDIn, mDGet, sMPut, valD_kv, kvM_len, hl, doM, h, n3, n4, putD_kv]
  | call k j =>
    have hl2 : (del m k).length < 16777216 := Nat.lt_of_le_of_lt del_len hl
    cases h : val m k with
    | none => simp [U_do, runM, B_do, startR, Deed.d, mSl, oSl, oNone, oSome, cutD, HT.sIx_none, e2, e3, mDIn, valD_kv, kvM_len, hl, doM, h]
    | some v => simp [U_do, runM, B_do, startR, Deed.d, mSl, oSl, oNone, oSome, cutD, HT.sIx_none, e2, e3, mDIn, mDGet, sMPut, sMPop1, valD_kv, kvM_len, hl, hl2, doM, h, putD_kv, dropD_kv]
  | join k j =>
    have hl2 : (del m j).length < 16777216 := Nat.lt_of_le_of_lt del_len hl
    have key : (Option.map PyData.int (val m k)).getD (PyData.int 0) = PyData.int ((val m k).getD 0) := by cases val m k <;> rfl
    cases h : val m j with
    | none => simp [U_do, runM, B_do, startR, Deed.d, mSl, oSl, oNone, oSome, cutD, HT.sIx_none, e2, e3, mDIn, valD_kv, kvM_len, hl, doM, h]
    | some v => simp [U_do, runM, B_do, startR, Deed.d, mSl, oSl, oNone, oSome, cutD, HT.sIx_none, e2, e3, mDIn, mDGet2, sMJoin, valD_kv, kvM_len, hl, hl2, doM, h, key, putD_kv, dropD_kv]
/-! a book behind deeds -/
def ledM (m : Mp Int) (ds : List Deed) : Mp Int := srt (ds.foldl doM m)
def bkD (m : Mp Int) : D := .tuple (itM .int m)
def dsD (ds : List Deed) : D := .tuple (ds.map Deed.d)
theorem nd_dos : ∀ {ds : List Deed} {m : Mp Int}, Nd m → Nd (ds.foldl doM m)
  | [], _, h => h
  | d :: ds, m, h => nd_dos (ds := ds) (nd_do h d)
theorem len_dos : ∀ {ds : List Deed} {m : Mp Int}, (ds.foldl doM m).length ≤ m.length + ds.length
  | [], _ => Nat.le_refl _
  | d :: ds, m => by
    have h1 := len_dos (ds := ds) (m := doM m d)
    have h2 := len_do (m := m) d
    rw [List.foldl_cons, List.length_cons]
    omega
theorem led_loop : ∀ (ds : List Deed) (m : Mp Int) (x y z : Sl), m.length + ds.length < 16777216 → (∀ d ∈ ds, d.ok) →
    ∃ w, sLoop (gN 3) (sMut 2 1 U_do (aCons (mVar 3) aNil)) (ds.map Deed.d) [x, y, .dic (kvM .int m), z] = some (.nx [x, y, .dic (kvM .int (ds.foldl doM m)), w])
  | [], m, x, y, z, _, _ => ⟨z, rfl⟩
  | d :: ds, m, x, y, z, hl, ok => by
    rw [List.length_cons] at hl
    have hd := len_do (m := m) d
    obtain ⟨w, e⟩ := led_loop ds (doM m d) x y (.dat d.d) (by omega) fun d' h => ok d' (List.mem_cons_of_mem _ h)
    refine ⟨w, ?_⟩
    rw [List.map_cons, v_loopS (ρ1 := [x, y, .dic (kvM .int m), .dat d.d]) (ρ2 := [x, y, .dic (kvM .int (doM m d)), .dat d.d]) rfl (by
      simp [sMut, gets_do d (by omega : m.length < 16777216) (ok d List.mem_cons_self)])]
    exact e
theorem led_is {m : Mp Int} {ds : List Deed} (nd : Nd m) (hl : m.length + ds.length < 16777216) (ok : ∀ d ∈ ds, d.ok) : F_led [.dat (bkD m), .dat (dsD ds)] = some (bkD (ledM m ds)) := by
  obtain ⟨w, e⟩ := led_loop ds m (.dat (bkD m)) (.dat (dsD ds)) .no hl ok
  have hd : dPairs (mVar 0) [.dat (bkD m), .dat (dsD ds), .no, .no] = some (kvM .int m) := dPairs_it (.inl rfl) nd
  have h2 := len_dos (ds := ds) (m := m)
  have hs := mSItems_kv emI (g := dVar 2) (ρ := [.dat (bkD m), .dat (dsD ds), .dic (kvM .int (ds.foldl doM m)), w]) (m := ds.foldl doM m) rfl (nd_dos nd) (by rw [sizeLine_is]; omega)
  refine run_rt ?_
  simp [B_led, startR, hd]
  rw [v_seqN (ρ' := [.dat (bkD m), .dat (dsD ds), .dic (kvM .int (ds.foldl doM m)), w]) (by rw [v_sFor]; exact e)]
  simp [hs]
  rfl
end Pu

set_option Elab.async false
set_option linter.all false
set_option autoImplicit false
set_option maxRecDepth 100000
/-! what is drawn -/
namespace Pu
open PySem PySem.Spec PyProof.Rows L2
theorem cell_at (ns : List Int) (k : Nat) : F_law_cell_at [.dat (.list (ns.map .int)), .dat (.int k)] = some (.int (ns.getD k 0)) := by
  by_cases h : k < ns.length
  · simp [F_law_cell_at, runB, B_law_cell_at, startR, h, atI_nat, List.getD]
  · simp [F_law_cell_at, runB, B_law_cell_at, startR, h, atI_nat, List.getD, List.getElem?_eq_none (Nat.le_of_not_lt h)]
def mixN (ns : List Int) (k : Nat) : Int :=
  let d := (ns.getD k 0 + 7919 * k + 1) * 48271 % 2147483647
  (d * d + 7 * d + k) % 2147483629
def drN (n k : Int) : Int :=
  let d := (n + 104729 * k + 17) * 69621 % 2147483647
  (d * d + 3 * d + k) % 2147483629
theorem mixN_nn (ns : List Int) (k : Nat) : 0 ≤ mixN ns k := by
  unfold mixN
  exact Int.emod_nonneg _ (by decide)
theorem mixN_lt (ns : List Int) (k : Nat) : mixN ns k < 2147483629 := by
  unfold mixN
  exact Int.emod_lt_of_pos _ (by decide)
theorem drN_nn (n k : Int) : 0 ≤ drN n k := by
  unfold drN
  exact Int.emod_nonneg _ (by decide)
theorem drN_lt (n k : Int) : drN n k < 2147483629 := by
  unfold drN
  exact Int.emod_lt_of_pos _ (by decide)
theorem mixed (ns : List Int) (k : Nat) : F_law_mixed [.dat (.list (ns.map .int)), .dat (.int k)] = some (.int (mixN ns k)) := by
  have h1 : ∀ x : Int, x % 2147483647 < 18446744073709551616 := fun x => by omega
  have h2 : ∀ x : Int, -18446744073709551616 < x % 2147483647 := fun x => by omega
  simp [F_law_mixed, runB, B_law_mixed, startR, cell_at, h1, h2, mixN]
theorem drawn (n k : Int) : F_law_drawn [.dat (.int n), .dat (.int k)] = some (.int (drN n k)) := by
  have h1 : ∀ x : Int, x % 2147483647 < 18446744073709551616 := fun x => by omega
  have h2 : ∀ x : Int, -18446744073709551616 < x % 2147483647 := fun x => by omega
  simp [F_law_drawn, runB, B_law_drawn, startR, h1, h2, drN]
/-! the book -/
def bkGo (n : Int) : Nat → List Str → Mp Int
  | _, [] => []
  | i, k :: ks => let d := drN n (60 + (i : Int)) / 4
    if 0 < d % 3 then (k, d / 4 % (if d / 16 % 2 = 0 then 1000 else 4)) :: bkGo n (i + 1) ks else bkGo n (i + 1) ks
def bkN (n : Int) : Mp Int := bkGo n 0 ["a", "b", "coin", "end", "x"]
theorem two_ix {x : Int} : atI [PyData.int 1000, PyData.int 4] (x % 2) = some (PyData.int (if x % 2 = 0 then 1000 else 4)) := by
  rcases (by omega : x % 2 = 0 ∨ x % 2 = 1) with h | h <;> rw [h] <;> simp
theorem book_loop (n : Int) : ∀ (ks : List Str) (i : Nat) (m : Mp Int) (x y z : Sl), m.length + ks.length < 16777216 →
    ∃ x' y' z', sLoop (gT [2, 3]) (sSeq (sSet 4 (m2 oDiv (mCall (F_law_drawn) (xDat (mVar 0) (xDat (m2 oAdd (mC (.int 60)) (mVar 2)) xNil))) (mC (.int 4))))
    (sIf (m2 oGt (m2 oMod (mVar 4) (mC (.int 3))) (mC (.int 0)))
      (sSet 1 (m2 oAdd (mVar 1) (mTup (aCons (mTup (aCons (mVar 3) (aCons (m2 oMod (m2 oDiv (mVar 4) (mC (.int 4))) (m2 oIx (mTup (aCons (mC (.int 1000)) (aCons (mC (.int 4)) aNil))) (m2 oMod (m2 oDiv (mVar 4) (mC (.int 16))) (mC (.int 2))))) aNil))) aNil))))
      sNil)) (enD i (ks.map .str)) [.dat (.int n), .dat (.tuple (itM .int m)), x, y, z] = some (.nx [.dat (.int n), .dat (.tuple (itM .int (m ++ bkGo n i ks))), x', y', z'])
  | [], i, m, x, y, z, _ => ⟨x, y, z, by simp [bkGo, enD]⟩
  | k :: ks, i, m, x, y, z, hl => by
    rw [List.length_cons] at hl
    have hdr := drawn n (60 + (i : Int))
    by_cases h : 0 < drN n (60 + (i : Int)) / 4 % 3
    · obtain ⟨x', y', z', e⟩ := book_loop n ks (i + 1) (m ++ [(k, drN n (60 + (i : Int)) / 4 / 4 % (if drN n (60 + (i : Int)) / 4 / 16 % 2 = 0 then 1000 else 4))]) (.dat (.int i)) (.dat (.str k)) (.dat (.int (drN n (60 + (i : Int)) / 4))) (by rw [List.length_append, List.length_singleton]; omega)
      refine ⟨x', y', z', ?_⟩
      rw [List.map_cons, enD, v_loopS (ρ1 := [.dat (.int n), .dat (.tuple (itM .int m)), .dat (.int i), .dat (.str k), z]) rfl, e]
      · simp only [bkGo]
        rw [if_pos h, List.append_assoc]
        rfl
      · have hl2 : List.length m + 1 ≤ 16777216 := by omega
        have hp : (0 : Int) < (if drN n (60 + (i : Int)) / 4 / 16 % 2 = 0 then 1000 else 4) := by split <;> omega
        simp [hdr, h, two_ix, hp, hl2, itM, prD]
    · obtain ⟨x', y', z', e⟩ := book_loop n ks (i + 1) m (.dat (.int i)) (.dat (.str k)) (.dat (.int (drN n (60 + (i : Int)) / 4))) (by omega)
      refine ⟨x', y', z', ?_⟩
      rw [List.map_cons, enD, v_loopS (ρ1 := [.dat (.int n), .dat (.tuple (itM .int m)), .dat (.int i), .dat (.str k), z]) rfl, e]
      · simp only [bkGo]
        rw [if_neg h]
      · simp [hdr, h]
theorem book (n : Int) : F_law_book [.dat (.int n)] = some (bkD (bkN n)) := by
  obtain ⟨x, y, z, e⟩ := book_loop n ["a", "b", "coin", "end", "x"] 0 [] .no .no .no (by decide)
  refine run_rt ?_
  simp [B_law_book, startR]
  rw [v_seqN (by rw [v_sFor]; simp [iEn]; exact e)]
  simp
  rfl
theorem bkGo_keys (n : Int) : ∀ (ks : List Str) (i : Nat), ((bkGo n i ks).map (·.1)).Sublist ks
  | [], _ => List.Sublist.refl _
  | k :: ks, i => by
    simp only [bkGo]
    split
    · exact (bkGo_keys n ks (i + 1)).cons_cons k
    · exact (bkGo_keys n ks (i + 1)).cons k
theorem bkGo_len (n : Int) (ks : List Str) (i : Nat) : (bkGo n i ks).length ≤ ks.length := by
  rw [← List.length_map (f := (·.1))]
  exact (bkGo_keys n ks i).length_le
theorem bkN_len (n : Int) : (bkN n).length ≤ 5 := bkGo_len n _ 0
theorem bkN_rise (n : Int) : Rise (bkN n) := by
  have h : ((bkN n).map (·.1)).Pairwise fun a b => ltS a b = true := List.Pairwise.sublist (bkGo_keys n _ 0) (by decide)
  rwa [List.pairwise_map] at h
theorem bkN_val (n : Int) : ∀ (ks : List Str) (i : Nat) (p : Str × Int), p ∈ bkGo n i ks → 0 ≤ p.2 ∧ p.2 < 1000
  | [], _, p, h => by cases h
  | k :: ks, i, p, h => by
    simp only [bkGo] at h
    have ih := bkN_val n ks (i + 1) p
    split at h
    · rcases List.mem_cons.mp h with rfl | h
      · show 0 ≤ _ % _ ∧ _ % _ < _
        split <;> constructor <;> omega
      · exact ih h
    · exact ih h
theorem bkN_in {n : Int} {k : Str} {v : Int} (h : val (bkN n) k = some v) : 0 ≤ v ∧ v < 1000 := bkN_val n _ 0 _ (mem_of_val h)
/-! deeds by what is at keys -/
abbrev Fm (α : Type) := Str → Option α
def fput {α : Type} (f : Fm α) (k : Str) (v : α) : Fm α := fun j => if j = k then some v else f j
def fdel {α : Type} (f : Fm α) (k : Str) : Fm α := fun j => if j = k then none else f j
def doF (f : Fm Int) : Deed → Fm Int
  | .add k n => fput f k ((f k).getD n)
  | .drop k => fdel f k
  | .times k n => match f k with
    | some v => fput f k (v * n % 1000)
    | none => f
  | .call k j => match f k with
    | some v => fput (fdel f k) j v
    | none => f
  | .join k j => match f j with
    | some v => fput (fdel f j) k (((f k).getD 0 + v) % 1000)
    | none => f
theorem val_do (m : Mp Int) (d : Deed) : val (doM m d) = doF (val m) d := by
  funext j
  cases d with
  | add k n => exact val_put ..
  | drop k => exact val_del ..
  | times k n =>
    simp only [doM, doF]
    cases val m k with
    | none => rfl
    | some v => exact val_put ..
  | call k i =>
    simp only [doM, doF]
    cases val m k with
    | none => rfl
    | some v =>
      show val (put (del m k) i v) j = fput (fdel (val m) k) i v j
      rw [val_put, val_del]
      rfl
  | join k i =>
    simp only [doM, doF]
    cases val m i with
    | none => rfl
    | some v =>
      show val (put (del m i) k _) j = fput (fdel (val m) i) k _ j
      rw [val_put, val_del]
      rfl
theorem val_dos : ∀ (ds : List Deed) (m : Mp Int), val (ds.foldl doM m) = ds.foldl doF (val m)
  | [], _ => rfl
  | d :: ds, m => by
    rw [List.foldl_cons, List.foldl_cons, val_dos ds, val_do]
theorem ledM_rise {m : Mp Int} (nd : Nd m) (ds : List Deed) : Rise (ledM m ds) := srt_rise (nd_dos nd)
theorem ledM_val {m : Mp Int} (nd : Nd m) (ds : List Deed) : val (ledM m ds) = ds.foldl doF (val m) := by
  funext k
  unfold ledM
  rw [srt_val (nd_dos nd), val_dos]
theorem ledM_len {m : Mp Int} (ds : List Deed) : (ledM m ds).length ≤ m.length + ds.length := by
  unfold ledM
  rw [srt_len]
  exact len_dos
end Pu

set_option Elab.async false
set_option linter.all false
set_option autoImplicit false
set_option maxRecDepth 100000
/-! data alike -/
namespace Pu
open PySem PySem.Spec PyProof.Rows L2
theorem depthAll_le {n : Nat} : ∀ {xs : List D}, (∀ x ∈ xs, x.depth ≤ n) → PyData.depthAll xs ≤ n
  | [], _ => by simp [PyData.depthAll]
  | x :: xs, h => by
    have h1 := h x List.mem_cons_self
    have h2 := depthAll_le (n := n) (xs := xs) fun y hy => h y (List.mem_cons_of_mem _ hy)
    simp only [PyData.depthAll]
    omega
theorem depth_tup {n : Nat} {xs : List D} (h : ∀ x ∈ xs, x.depth ≤ n) : (PyData.tuple xs).depth ≤ n + 1 := by
  have := depthAll_le h
  simp only [PyData.depth]
  omega
theorem depth_lst {n : Nat} {xs : List D} (h : ∀ x ∈ xs, x.depth ≤ n) : (PyData.list xs).depth ≤ n + 1 := by
  have := depthAll_le h
  simp only [PyData.depth]
  omega
theorem ndAll_by : ∀ {xs : List D}, (∀ x ∈ xs, nd x = true) → ndAll xs = true
  | [], _ => rfl
  | x :: xs, h => by
    rw [ndAll, h x List.mem_cons_self, ndAll_by (xs := xs) fun y hy => h y (List.mem_cons_of_mem _ hy)]
    rfl
theorem nd_tup {xs : List D} (h : ∀ x ∈ xs, nd x = true) : nd (.tuple xs) = true := by
  rw [nd]
  exact ndAll_by h
theorem nd_lst {xs : List D} (h : ∀ x ∈ xs, nd x = true) : nd (.list xs) = true := by
  rw [nd]
  exact ndAll_by h
/-- plain and not deep -/
structure Pl (n : Nat) (d : D) : Prop where
  depth : d.depth ≤ n
  nd : Pu.nd d = true
theorem Pl.mono {n m : Nat} {d : D} (h : Pl n d) (l : n ≤ m) : Pl m d := ⟨Nat.le_trans h.depth l, h.nd⟩
theorem pl_int (n : Nat) (i : Int) : Pl n (.int i) := ⟨by simp [PyData.depth], rfl⟩
theorem pl_str (n : Nat) (i : Str) : Pl n (.str i) := ⟨by simp [PyData.depth], rfl⟩
theorem pl_bool (n : Nat) (i : Bool) : Pl n (.bool i) := ⟨by simp [PyData.depth], rfl⟩
theorem pl_none (n : Nat) : Pl n .none := ⟨by simp [PyData.depth], rfl⟩
theorem pl_tup {n : Nat} {xs : List D} (h : ∀ x ∈ xs, Pl n x) : Pl (n + 1) (.tuple xs) := ⟨depth_tup fun x hx => (h x hx).depth, nd_tup fun x hx => (h x hx).nd⟩
theorem pl_lst {n : Nat} {xs : List D} (h : ∀ x ∈ xs, Pl n x) : Pl (n + 1) (.list xs) := ⟨depth_lst fun x hx => (h x hx).depth, nd_lst fun x hx => (h x hx).nd⟩
theorem Pl.ne {d : D} (h : Pl 60 d) : oNe d d = some (.bool false) := ne_self h.depth (eqv_self d h.nd)
theorem Pl.eq {d : D} (h : Pl 60 d) : oEq d d = some (.bool true) := eq_self h.depth (eqv_self d h.nd)
theorem pl_prI (p : Str × Int) : Pl 2 (prD .int p) := pl_tup (n := 1) fun x hx => by
  rcases List.mem_cons.mp hx with rfl | hx
  · exact pl_str ..
  · rw [List.mem_singleton.mp hx]
    exact pl_int ..
theorem pl_prS (p : Str × Str) : Pl 2 (prD .str p) := pl_tup (n := 1) fun x hx => by
  rcases List.mem_cons.mp hx with rfl | hx
  · exact pl_str ..
  · rw [List.mem_singleton.mp hx]
    exact pl_str ..
theorem pl_itI (m : Mp Int) : ∀ x ∈ itM .int m, Pl 2 x := fun x hx => by
  obtain ⟨p, _, rfl⟩ := List.mem_map.mp hx
  exact pl_prI p
theorem pl_bk (m : Mp Int) : Pl 3 (bkD m) := pl_tup (pl_itI m)
@[simp] theorem bk_ne (m : Mp Int) : oNe (bkD m) (bkD m) = some (.bool false) := ((pl_bk m).mono (by decide)).ne
@[simp] theorem bk_eq (m : Mp Int) : oEq (bkD m) (bkD m) = some (.bool true) := ((pl_bk m).mono (by decide)).eq
@[simp] theorem bkL_ne (m : Mp Int) : oNe (.list (itM .int m)) (.list (itM .int m)) = some (.bool false) := ((pl_lst (pl_itI m)).mono (by decide)).ne
theorem sorted_bk {m : Mp Int} (h : Rise m) (hl : m.length ≤ 16777216) : oSorted [bkD m] = some (.list (itM .int m)) := by
  show (if sortOk (itM .int m) = true then some (PyData.list ((itM .int m).mergeSort leD)) else none) = _
  rw [if_pos (sortOk_it emI hl), sort_it emI h.nd, srt_self h]
end Pu

set_option Elab.async false
set_option linter.all false
set_option autoImplicit false
set_option maxRecDepth 100000
/-! drawn deeds, drawn ways; a book led over; keys behind deeds -/
namespace Pu
open PySem PySem.Spec PyProof.Rows L2
def key6 (x : Int) : Str := if x % 6 = 0 then "a" else if x % 6 = 1 then "b" else if x % 6 = 2 then "coin" else if x % 6 = 3 then "end" else if x % 6 = 4 then "x" else "new"
theorem six_ix (x : Int) : atI [PyData.str "a", PyData.str "b", PyData.str "coin", PyData.str "end", PyData.str "x", PyData.str "new"] (x % 6) = some (PyData.str (key6 x)) := by
  unfold key6
  rcases (by omega : x % 6 = 0 ∨ x % 6 = 1 ∨ x % 6 = 2 ∨ x % 6 = 3 ∨ x % 6 = 4 ∨ x % 6 = 5) with h | h | h | h | h | h <;> rw [h] <;> rfl
def deN (n : Int) : Deed :=
  if n % 5 = 0 then .add (key6 (n / 8)) (n / 512 % 1000) else if n % 5 = 1 then .drop (key6 (n / 8)) else if n % 5 = 2 then .times (key6 (n / 8)) (n / 512 % 10)
  else if n % 5 = 3 ∧ key6 (n / 8) ≠ key6 (n / 64) then .join (key6 (n / 8)) (key6 (n / 64)) else .call (key6 (n / 8)) (key6 (n / 64))
theorem deed_is (n : Int) : F_law_deed [.dat (.int n)] = some (deN n).d := by
  refine run_rt ?_
  unfold deN
  by_cases h0 : n % 5 = 0
  · simp (maxDischargeDepth := 10) (implicitDefEqProofs := false) [B_law_deed, startR, six_ix, h0, Deed.d]
  by_cases h1 : n % 5 = 1
  · simp (maxDischargeDepth := 10) (implicitDefEqProofs := false) [B_law_deed, startR, six_ix, h1, Deed.d]
  by_cases h2 : n % 5 = 2
  · simp (maxDischargeDepth := 10) (implicitDefEqProofs := false) [B_law_deed, startR, six_ix, h2, Deed.d]
  by_cases h3 : n % 5 = 3
  · by_cases h4 : key6 (n / 8) = key6 (n / 64)
    · simp (maxDischargeDepth := 10) (implicitDefEqProofs := false) [B_law_deed, startR, six_ix, h3, h4, Deed.d]
    · simp (maxDischargeDepth := 10) (implicitDefEqProofs := false) [B_law_deed, startR, six_ix, h3, h4, Deed.d]
  · simp (maxDischargeDepth := 10) (implicitDefEqProofs := false) [B_law_deed, startR, six_ix, h0, h1, h2, h3, Deed.d]
theorem deN_ok (n : Int) : (deN n).ok := by
  unfold deN
  split
  · trivial
  split
  · trivial
  split
  · exact ⟨by omega, by omega⟩
  split <;> trivial
def dsN (n : Int) (most : Int) : List Deed := (List.range (n % (most + 1)).toNat).map fun (k : Nat) => deN (drN n k / 4)
theorem dsN_len {n most : Int} (h : 0 ≤ most) : (dsN n most).length ≤ most.toNat := by
  unfold dsN
  rw [List.length_map, List.length_range]
  have h1 := Int.emod_lt_of_pos n (by omega : 0 < most + 1)
  omega
theorem dsN_ok {n most : Int} : ∀ d ∈ dsN n most, d.ok := fun d hd => by
  obtain ⟨k, _, rfl⟩ := List.mem_map.mp hd
  exact deN_ok _
theorem rgD_is (n : Nat) : rgD 0 n = (List.range n).map fun (k : Nat) => PyData.int (k : Int) := by
  unfold rgD
  refine List.map_congr_left fun k _ => ?_
  rw [Int.zero_add]
theorem deeds_is {n most : Int} (h : 0 ≤ most) (h' : most ≤ 100) : F_law_deeds [.dat (.int n), .dat (.int most)] = some (dsD (dsN n most)) := by
  have hp : 0 < most + 1 := by omega
  have h1 := Int.emod_lt_of_pos n hp
  have h2 := Int.emod_nonneg n (by omega : most + 1 ≠ 0)
  have hi : iR1 (aCons (m2 oMod (mVar 0) (m2 oAdd (mVar 1) (mC (.int 1)))) aNil) [.dat (.int n), .dat (.int most), .no] = some ((List.range (n % (most + 1)).toNat).map fun (k : Nat) => PyData.int (k : Int)) := by
    have hl1 : -ilim ≤ n % (most + 1) := by unfold ilim; omega
    have hl2 : n % (most + 1) < ilim := by unfold ilim; omega
    simp [iR1, hp, hl1, hl2, rgD_is]
  have hlc := lc_mapT (ρ := [.dat (.int n), .dat (.int most), .no]) (fun (k : Nat) => PyData.int (k : Int)) (fun (k : Nat) => (deN (drN n k / 4)).d) (m := gN 2) (te := mCall (F_law_deed) (xDat (m2 oDiv (mCall (F_law_drawn) (xDat (mVar 0) (xDat (mVar 2) xNil))) (mC (.int 4))) xNil)) (List.range (n % (most + 1)).toNat) fun k _ => ⟨_, rfl, by simp [drawn, deed_is]⟩
  have hll : (n % (most + 1)).toNat < 16777216 := by omega
  refine run_rt ?_
  simp [B_law_deeds, startR, hi, hlc, hll]
  unfold dsD dsN
  rw [List.map_map]
  rfl
def wyD (ws : List (List Deed)) : D := .tuple (ws.map dsD)
def wyN (n : Int) : List (List Deed) := (List.range (n % 5).toNat).map fun (k : Nat) => dsN (drN n (30 + (k : Int)) / 4) 4
theorem wyN_len (n : Int) : (wyN n).length ≤ 4 := by
  unfold wyN
  rw [List.length_map, List.length_range]
  omega
theorem wyN_in {n : Int} {ds : List Deed} (h : ds ∈ wyN n) : ds.length ≤ 4 ∧ ∀ d ∈ ds, d.ok := by
  obtain ⟨k, _, rfl⟩ := List.mem_map.mp h
  exact ⟨dsN_len (by decide), dsN_ok⟩
theorem ways_is (n : Int) : F_law_ways [.dat (.int n)] = some (wyD (wyN n)) := by
  have hi : iR1 (aCons (m2 oMod (mVar 0) (mC (.int 5))) aNil) [.dat (.int n), .no] = some ((List.range (n % 5).toNat).map fun (k : Nat) => PyData.int (k : Int)) := by
    have hl1 : -ilim ≤ n % 5 := by unfold ilim; omega
    have hl2 : n % 5 < ilim := by unfold ilim; omega
    simp [iR1, hl1, hl2, rgD_is]
  have hlc := lc_mapT (ρ := [.dat (.int n), .no]) (fun (k : Nat) => PyData.int (k : Int)) (fun (k : Nat) => dsD (dsN (drN n (30 + (k : Int)) / 4) 4)) (m := gN 1) (te := mCall (F_law_deeds) (xDat (m2 oDiv (mCall (F_law_drawn) (xDat (mVar 0) (xDat (m2 oAdd (mC (.int 30)) (mVar 1)) xNil))) (mC (.int 4))) (xDat (mC (.int 4)) xNil))) (List.range (n % 5).toNat) fun k _ => ⟨_, rfl, by simp [drawn, deeds_is]⟩
  have hll : (n % 5).toNat < 16777216 := by omega
  refine run_rt ?_
  simp [B_law_ways, startR, hi, hlc, hll]
  unfold wyD wyN
  rw [List.map_map]
  rfl
/-! led over -/
structure WOk (ws : List (List Deed)) : Prop where
  len : ws.length ≤ 100
  each : ∀ ds ∈ ws, ds.length ≤ 100 ∧ ∀ d ∈ ds, d.ok
theorem WOk.tail {ds : List Deed} {ws : List (List Deed)} (h : WOk (ds :: ws)) : WOk ws := ⟨Nat.le_trans (Nat.le_succ _) h.len, fun d hd => h.each d (List.mem_cons_of_mem _ hd)⟩
theorem WOk.drop {ws : List (List Deed)} (h : WOk ws) (n : Nat) : WOk (ws.drop n) := ⟨by rw [List.length_drop]; have := h.len; omega, fun d hd => h.each d (List.mem_of_mem_drop hd)⟩
theorem wyN_ok (n : Int) : WOk (wyN n) := ⟨Nat.le_trans (wyN_len n) (by decide), fun ds h => ⟨Nat.le_trans (wyN_in h).1 (by decide), (wyN_in h).2⟩⟩
def overM (m : Mp Int) (ws : List (List Deed)) : Mp Int := ws.foldl ledM m
theorem over_rise : ∀ {ws : List (List Deed)} {m : Mp Int}, Rise m → Rise (overM m ws)
  | [], _, h => h
  | ds :: ws, m, h => over_rise (ws := ws) (ledM_rise h.nd ds)
theorem over_len : ∀ {ws : List (List Deed)} {m : Mp Int}, (∀ ds ∈ ws, ds.length ≤ 100) → (overM m ws).length ≤ m.length + 100 * ws.length
  | [], _, _ => Nat.le_refl _
  | ds :: ws, m, h => by
    have h1 := over_len (ws := ws) (m := ledM m ds) fun d hd => h d (List.mem_cons_of_mem _ hd)
    have h2 := ledM_len (m := m) ds
    have h3 := h ds List.mem_cons_self
    show (overM (ledM m ds) ws).length ≤ _
    rw [List.length_cons]
    omega
theorem over_loop : ∀ (ws : List (List Deed)) (m : Mp Int) (x y z : Sl), Rise m → (∀ ds ∈ ws, ds.length ≤ 100 ∧ ∀ d ∈ ds, d.ok) → m.length + 100 * ws.length ≤ 1000000 →
    ∃ w, sLoop (gN 3) (sSet 0 (mCall (F_led) (xDat (mVar 0) (xDat (mVar 3) xNil)))) (ws.map dsD) [.dat (bkD m), x, y, z] = some (.nx [.dat (bkD (overM m ws)), x, y, w])
  | [], m, x, y, z, _, _, _ => ⟨z, rfl⟩
  | ds :: ws, m, x, y, z, hm, hw, hl => by
    rw [List.length_cons] at hl
    have h1 := (hw ds List.mem_cons_self).1
    have h2 := ledM_len (m := m) ds
    obtain ⟨w, e⟩ := over_loop ws (ledM m ds) x y (.dat (dsD ds)) (ledM_rise hm.nd ds) (fun d hd => hw d (List.mem_cons_of_mem _ hd)) (by omega)
    refine ⟨w, ?_⟩
    rw [List.map_cons, v_loopS (ρ1 := [.dat (bkD m), x, y, .dat (dsD ds)]) (ρ2 := [.dat (bkD (ledM m ds)), x, y, .dat (dsD ds)]) rfl (by simp [led_is hm.nd (by omega : m.length + ds.length < 16777216) (hw ds List.mem_cons_self).2])]
    exact e
theorem cutD_from {xs : List D} {i : Int} (h : 0 ≤ i) : cutD xs (some i) none = xs.drop i.toNat := by
  unfold cutD
  have e : HT.sIx xs.length 0 (some i) = min i.toNat xs.length := by
    show (if i < 0 then _ else min i.toNat xs.length) = _
    rw [if_neg (by omega)]
  rw [HT.sIx_none, e]
  by_cases h2 : i.toNat ≤ xs.length
  · rw [Nat.min_eq_left h2]
    exact List.take_of_length_le (by rw [List.length_drop]; omega)
  · rw [Nat.min_eq_right (by omega), List.drop_of_length_le (Nat.le_refl _), List.drop_of_length_le (by omega), List.take_nil]
theorem cutD_to {xs : List D} {i : Int} (h : 0 ≤ i) : cutD xs none (some i) = xs.take i.toNat := by
  unfold cutD
  have e : HT.sIx xs.length xs.length (some i) = min i.toNat xs.length := by
    show (if i < 0 then _ else min i.toNat xs.length) = _
    rw [if_neg (by omega)]
  rw [HT.sIx_none, e, List.drop_zero, Nat.sub_zero]
  by_cases h2 : i.toNat ≤ xs.length
  · rw [Nat.min_eq_left h2]
  · rw [Nat.min_eq_right (by omega), List.take_of_length_le (Nat.le_refl _), List.take_of_length_le (by omega)]
theorem over_is {m : Mp Int} {make : Int} {ws : List (List Deed)} (hm : Rise m) (hl : m.length ≤ 100000) (h1 : 1 ≤ make) (hw : WOk ws) :
    F_led_over [.dat (bkD m), .dat (.int make), .dat (wyD ws)] = some (bkD (overM m (ws.drop (make.toNat - 1)))) := by
  have hd := hw.drop (make.toNat - 1)
  obtain ⟨w, e⟩ := over_loop (ws.drop (make.toNat - 1)) m (.dat (.int make)) (.dat (wyD ws)) .no hm hd.each (by have := hd.len; omega)
  refine run_rt ?_
  simp [B_led_over, startR]
  rw [v_seqN (ρ' := [.dat (bkD (overM m (ws.drop (make.toNat - 1)))), .dat (.int make), .dat (wyD ws), w]) ?_]
  · simp
  · rw [v_sFor]
    simp [mSl, oSome, oNone, wyD, oSl]
    rw [cutD_from (by omega), ← List.map_drop, show (make - 1).toNat = make.toNat - 1 by omega]
    exact e
/-! keys -/
def ksD (ks : List Str) : D := .tuple (ks.map .str)
def kz (ks : List Str) : Mp Int := ks.map fun k => (k, 0)
theorem keys_is {ks : List Str} {ds : List Deed} (hk : ks.Nodup) (hl : ks.length + ds.length < 16777216) (ok : ∀ d ∈ ds, d.ok) : F_keys_behind [.dat (ksD ks), .dat (dsD ds)] = some (ksD ((ledM (kz ks) ds).map (·.1))) := by
  have nd : Nd (kz ks) := by
    unfold Nd kz
    rw [List.map_map]
    show (ks.map fun k => k).Nodup
    rw [List.map_id']
    exact hk
  have hlen : (kz ks).length = ks.length := List.length_map _
  have h1 := lc_mapT (ρ := [.dat (ksD ks), .dat (dsD ds), .no, .no]) PyData.str (fun k => prD PyData.int (k, 0)) (m := gN 2) (te := mTup (aCons (mVar 2) (aCons (mC (.int 0)) aNil))) ks fun k _ => ⟨_, rfl, by simp [prD]⟩
  have hled := led_is nd (by rw [hlen]; exact hl) ok
  have h2 := lc_mapT (ρ := [.dat (ksD ks), .dat (dsD ds), .no, .no]) (prD PyData.int) (fun p => PyData.str p.1) (m := gT [2, 3]) (te := mVar 2) (ledM (kz ks) ds) fun p _ => ⟨_, rfl, by simp⟩
  have hL := ledM_len (m := kz ks) ds
  have e1 : mA oTuple (aCons (mL (lLc [2] (iD (mVar 0)) (gN 2) mYes (mTup (aCons (mVar 2) (aCons (mC (.int 0)) aNil))))) aNil) [.dat (ksD ks), .dat (dsD ds), .no, .no] = some (bkD (kz ks)) := by
    rw [v_tupLc (ds := ks.map .str) rfl (by rw [List.length_map]; omega) h1]
    simp [bkD, itM, kz]
  have e2 : mA oTuple (aCons (mL (lLc [2, 3] (iD (mCall (F_led) (xDat (mA oTuple (aCons (mL (lLc [2] (iD (mVar 0)) (gN 2) mYes (mTup (aCons (mVar 2) (aCons (mC (.int 0)) aNil))))) aNil)) (xDat (mVar 1) xNil)))) (gT [2, 3]) mYes (mVar 2))) aNil) [.dat (ksD ks), .dat (dsD ds), .no, .no] = some (ksD ((ledM (kz ks) ds).map (·.1))) := by
    rw [v_tupLc (ds := itM .int (ledM (kz ks) ds)) (by rw [v_iD, v_call, v_xDat, e1]; simp [hled]; rfl) (by rw [itM_len]; omega) h2]
    simp [ksD]
  refine run_rt ?_
  show (Option.map Out.rt _) = _
  exact congrArg (Option.map Out.rt) e2
end Pu

set_option Elab.async false
set_option linter.all false
set_option autoImplicit false
set_option maxRecDepth 100000
set_option maxHeartbeats 1000000
namespace Pu
open PySem PySem.Spec PyProof.Rows L2
def B_law_led : MirS :=
  (sSeq (sFor (iD (mVar 1)) (gN 2)
      (sSeq (sDic 3 (dPairs (mVar 0)))
    (sSeq (sSet 4 (m2 oIx (mVar 2) (mC (.int 1))))
    (sSeq (sIf (mAnd (m2 oEq (m2 oIx (mVar 2) (mC (.int 0))) (mC (.str "add"))) (mDIn true (mVar 4) (dVar 3)))
      (sDPut 3 (mVar 4) (m2 oIx (mVar 2) (mC (.int 2))))
      sNil)
    (sSeq (sIf (m2 oEq (m2 oIx (mVar 2) (mC (.int 0))) (mC (.str "drop")))
      (sDic 3 (dPairs (mL (lLc [6] (iD (mVar 0)) (gN 6) (m2 oNe (m2 oIx (mVar 6) (mC (.int 0))) (mVar 4)) (mVar 6)))))
      sNil)
    (sSeq (sIf (m2 oEq (m2 oIx (mVar 2) (mC (.int 0))) (mC (.str "times")))
      (sDic 3 (dPairs (mL (lLc [7, 8] (iD (mVar 0)) (gT [7, 8]) mYes (mTup (aCons (mVar 7) (aCons (m2 oIx (mLst (aCons (mVar 8) (aCons (m2 oMod (m2 oMul (mVar 8) (m2 oIx (mVar 2) (mC (.int 2)))) (mC (.int 1000))) aNil))) (mA oInt (aCons (m2 oEq (mVar 7) (mVar 4)) aNil))) aNil)))))))
      sNil)
    (sSeq (sIf (mAnd (m2 oEq (m2 oIx (mVar 2) (mC (.int 0))) (mC (.str "call"))) (mDIn false (mVar 4) (dVar 3)))
      (sDic 3 (dPairs (m2 oAdd (mL (lLc [6] (iD (mVar 0)) (gN 6) (m2 oNotIn (m2 oIx (mVar 6) (mC (.int 0))) (mTup (aCons (mVar 4) (aCons (m2 oIx (mVar 2) (mC (.int 2))) aNil)))) (mVar 6))) (mLst (aCons (mTup (aCons (m2 oIx (mVar 2) (mC (.int 2))) (aCons (mDGet (dVar 3) (mVar 4)) aNil))) aNil)))))
      sNil)
    (sSeq (sIf (mAnd (m2 oEq (m2 oIx (mVar 2) (mC (.int 0))) (mC (.str "join"))) (mDIn false (m2 oIx (mVar 2) (mC (.int 2))) (dVar 3)))
      (sSeq (sSet 5 (mA oSum (aCons (mL (lLc [7, 8] (iD (mVar 0)) (gT [7, 8]) (m2 oIn (mVar 7) (mTup (aCons (mVar 4) (aCons (m2 oIx (mVar 2) (mC (.int 2))) aNil)))) (mVar 8))) aNil)))
    (sDic 3 (dPairs (m2 oAdd (mL (lLc [6] (iD (mVar 0)) (gN 6) (m2 oNotIn (m2 oIx (mVar 6) (mC (.int 0))) (mTup (aCons (mVar 4) (aCons (m2 oIx (mVar 2) (mC (.int 2))) aNil)))) (mVar 6))) (mLst (aCons (mTup (aCons (mVar 4) (aCons (m2 oMod (mVar 5) (mC (.int 1000))) aNil))) aNil))))))
      sNil)
    (sSet 0 (mA oTuple (aCons (mSItems (dVar 3)) aNil)))))))))))
    (sRet (mVar 0)))
def F_law_led : MirF := runB 9 B_law_led

def B_law_led_over : MirS :=
  (sSeq (sFor (iEn (aCons (mVar 2) aNil)) (gT [3, 4])
      (sIf (m2 oGe (m2 oAdd (mVar 3) (mC (.int 1))) (mVar 1))
      (sSet 0 (mCall (F_law_led) (xDat (mVar 0) (xDat (mVar 4) xNil))))
      sNil))
    (sRet (mVar 0)))
def F_law_led_over : MirF := runB 5 B_law_led_over

end Pu

set_option Elab.async false
set_option linter.all false
set_option autoImplicit false
set_option maxRecDepth 100000
/-! the law's own leading -/
namespace Pu
open PySem PySem.Spec PyProof.Rows L2
section
variable {α : Type}
theorem val_filter (c : Str → Bool) (k : Str) : ∀ m : Mp α, val (m.filter fun p => c p.1) k = if c k = true then val m k else none
  | [] => by simp [val_nil]
  | p :: m => by
    have ih := val_filter c k m
    by_cases h : c p.1 = true
    · rw [List.filter_cons_of_pos (p := fun p : Str × α => c p.1) h, val_cons, ih, val_cons]
      by_cases e : p.1 = k
      · rw [if_pos e, if_pos e, if_pos (e ▸ h)]
      · rw [if_neg e, if_neg e]
    · rw [List.filter_cons_of_neg (p := fun p : Str × α => c p.1) h, ih, val_cons]
      by_cases e : p.1 = k
      · rw [if_neg (e ▸ h), if_neg (e ▸ h)]
      · rw [if_neg e]
theorem nd_filter {c : Str × α → Bool} {m : Mp α} (h : Nd m) : Nd (m.filter c) := List.Nodup.sublist (List.Sublist.map _ List.filter_sublist) h
theorem nd_snoc {m : Mp α} {k : Str} {v : α} (h : Nd m) (hk : val m k = none) : Nd (m ++ [(k, v)]) := by
  unfold Nd at *
  rw [List.map_append, List.nodup_append]
  refine ⟨h, by simp, fun a ha b hb => ?_⟩
  rw [val_none_iff] at hk
  simp only [List.map_cons, List.map_nil, List.mem_singleton] at hb
  rintro rfl
  exact hk (hb ▸ ha)
theorem nd_map {f : Str × α → α} {m : Mp α} (h : Nd m) : Nd (m.map fun p => (p.1, f p)) := by
  unfold Nd at *
  rw [List.map_map]
  exact h
theorem val_map {f : Str → α → α} {k : Str} : ∀ m : Mp α, val (m.map fun p => (p.1, f p.1 p.2)) k = (val m k).map (f k)
  | [] => rfl
  | p :: m => by
    rw [List.map_cons, val_cons, val_cons, val_map m]
    by_cases e : p.1 = k
    · rw [if_pos e, if_pos e, e]
      rfl
    · rw [if_neg e, if_neg e]
end
theorem oIn_s2 (x a b : Str) : oIn (.str x) (.tuple [.str a, .str b]) = some (.bool (decide (x = a ∨ x = b))) := by
  have : inQ (.str x) [.str a, .str b] = decide (x = a ∨ x = b) := by
    unfold inQ
    simp only [List.any_cons, List.any_nil, PyData.eqv, Bool.or_false, beqS]
    rw [Bool.eq_iff_iff]
    simp only [Bool.or_eq_true, decide_eq_true_eq]
    exact ⟨fun h => h.imp Eq.symm Eq.symm, fun h => h.imp Eq.symm Eq.symm⟩
  show Option.map PyData.bool ((inS _ _).orElse fun _ => some (inQ (.str x) [.str a, .str b])) = _
  rw [this]
  rfl
theorem oNotIn_s2 (x a b : Str) : oNotIn (.str x) (.tuple [.str a, .str b]) = some (.bool (decide (¬ (x = a ∨ x = b)))) := by
  have : inQ (.str x) [.str a, .str b] = decide (x = a ∨ x = b) := by
    unfold inQ
    simp only [List.any_cons, List.any_nil, PyData.eqv, Bool.or_false, beqS]
    rw [Bool.eq_iff_iff]
    simp only [Bool.or_eq_true, decide_eq_true_eq]
    exact ⟨fun h => h.imp Eq.symm Eq.symm, fun h => h.imp Eq.symm Eq.symm⟩
  show Option.map (fun b => PyData.bool (!b)) ((inS _ _).orElse fun _ => some (inQ (.str x) [.str a, .str b])) = _
  rw [this, decide_not]
  rfl
def Deed.ok2 : Deed → Prop
  | .times _ n => 0 ≤ n ∧ n < 1000
  | .join k j => k ≠ j
  | _ => True
theorem Deed.ok2.ok {d : Deed} (h : d.ok2) : d.ok := by
  cases d <;> first | exact h | trivial
theorem deN_ok2 (n : Int) : (deN n).ok2 := by
  unfold deN
  split
  · trivial
  split
  · trivial
  split
  · exact ⟨by omega, by omega⟩
  split
  · rename_i h
    exact h.2
  · trivial
theorem dsN_ok2 {n most : Int} : ∀ d ∈ dsN n most, d.ok2 := fun d hd => by
  obtain ⟨k, _, rfl⟩ := List.mem_map.mp hd
  exact deN_ok2 _
theorem sum_two : ∀ {m : Mp Int} {k j : Str}, Nd m → k ≠ j → ((m.filter fun p => decide (p.1 = k ∨ p.1 = j)).map (·.2)).sum = (val m k).getD 0 + (val m j).getD 0
  | [], _, _, _, _ => rfl
  | p :: m, k, j, nd, hne => by
    rw [nd_cons] at nd
    have ih := sum_two (m := m) nd.2 hne
    rw [val_cons, val_cons]
    by_cases h1 : p.1 = k
    · have h2 : ¬ p.1 = j := fun z => hne (h1.symm.trans z)
      rw [List.filter_cons_of_pos (by simp [h1]), List.map_cons, List.sum_cons, ih, if_pos h1, if_neg h2]
      have := nd.1
      rw [h1] at this
      rw [this]
      simp
    · by_cases h2 : p.1 = j
      · rw [List.filter_cons_of_pos (by simp [h2]), List.map_cons, List.sum_cons, ih, if_neg h1, if_pos h2]
        have := nd.1
        rw [h2] at this
        rw [this]
        simp
        omega
      · rw [List.filter_cons_of_neg (by simp [h1, h2]), ih, if_neg h1, if_neg h2]
theorem led_of_val {m m' : Mp Int} {d : Deed} (hm : Rise m) (nd : Nd m') (h : val m' = doF (val m) d) : srt m' = ledM m [d] := by
  refine Rise.ext (srt_rise nd) (ledM_rise hm.nd _) fun k => ?_
  rw [srt_val nd, ledM_val hm.nd, h]
  rfl
theorem led_cons {m : Mp Int} {d : Deed} {ds : List Deed} (hm : Rise m) : ledM (ledM m [d]) ds = ledM m (d :: ds) := by
  have h1 := ledM_rise hm.nd [d]
  refine Rise.ext (ledM_rise h1.nd _) (ledM_rise hm.nd _) fun k => ?_
  rw [ledM_val h1.nd, ledM_val hm.nd, ledM_val hm.nd]
  rfl
theorem led_nil {m : Mp Int} (hm : Rise m) : ledM m [] = m := srt_self hm
section
variable {m : Mp Int} {y s3 s4 s5 s6 s7 s8 : Sl}
/-- one pass of the law's own leading -/
def G_led : MirS := (sSeq (sDic 3 (dPairs (mVar 0)))
    (sSeq (sSet 4 (m2 oIx (mVar 2) (mC (.int 1))))
    (sSeq (sIf (mAnd (m2 oEq (m2 oIx (mVar 2) (mC (.int 0))) (mC (.str "add"))) (mDIn true (mVar 4) (dVar 3)))
      (sDPut 3 (mVar 4) (m2 oIx (mVar 2) (mC (.int 2))))
      sNil)
    (sSeq (sIf (m2 oEq (m2 oIx (mVar 2) (mC (.int 0))) (mC (.str "drop")))
      (sDic 3 (dPairs (mL (lLc [6] (iD (mVar 0)) (gN 6) (m2 oNe (m2 oIx (mVar 6) (mC (.int 0))) (mVar 4)) (mVar 6)))))
      sNil)
    (sSeq (sIf (m2 oEq (m2 oIx (mVar 2) (mC (.int 0))) (mC (.str "times")))
      (sDic 3 (dPairs (mL (lLc [7, 8] (iD (mVar 0)) (gT [7, 8]) mYes (mTup (aCons (mVar 7) (aCons (m2 oIx (mLst (aCons (mVar 8) (aCons (m2 oMod (m2 oMul (mVar 8) (m2 oIx (mVar 2) (mC (.int 2)))) (mC (.int 1000))) aNil))) (mA oInt (aCons (m2 oEq (mVar 7) (mVar 4)) aNil))) aNil)))))))
      sNil)
    (sSeq (sIf (mAnd (m2 oEq (m2 oIx (mVar 2) (mC (.int 0))) (mC (.str "call"))) (mDIn false (mVar 4) (dVar 3)))
      (sDic 3 (dPairs (m2 oAdd (mL (lLc [6] (iD (mVar 0)) (gN 6) (m2 oNotIn (m2 oIx (mVar 6) (mC (.int 0))) (mTup (aCons (mVar 4) (aCons (m2 oIx (mVar 2) (mC (.int 2))) aNil)))) (mVar 6))) (mLst (aCons (mTup (aCons (m2 oIx (mVar 2) (mC (.int 2))) (aCons (mDGet (dVar 3) (mVar 4)) aNil))) aNil)))))
      sNil)
    (sSeq (sIf (mAnd (m2 oEq (m2 oIx (mVar 2) (mC (.int 0))) (mC (.str "join"))) (mDIn false (m2 oIx (mVar 2) (mC (.int 2))) (dVar 3)))
      (sSeq (sSet 5 (mA oSum (aCons (mL (lLc [7, 8] (iD (mVar 0)) (gT [7, 8]) (m2 oIn (mVar 7) (mTup (aCons (mVar 4) (aCons (m2 oIx (mVar 2) (mC (.int 2))) aNil)))) (mVar 8))) aNil)))
    (sDic 3 (dPairs (m2 oAdd (mL (lLc [6] (iD (mVar 0)) (gN 6) (m2 oNotIn (m2 oIx (mVar 6) (mC (.int 0))) (mTup (aCons (mVar 4) (aCons (m2 oIx (mVar 2) (mC (.int 2))) aNil)))) (mVar 6))) (mLst (aCons (mTup (aCons (mVar 4) (aCons (m2 oMod (mVar 5) (mC (.int 1000))) aNil))) aNil))))))
      sNil)
    (sSet 0 (mA oTuple (aCons (mSItems (dVar 3)) aNil))))))))))
theorem B_led_is : B_law_led = sSeq (sFor (iD (mVar 1)) (gN 2) G_led) (sRet (mVar 0)) := rfl
theorem f_bk {ρ : Rho} (h : mVar 0 ρ = some (bkD m)) (nd : Nd m) : dPairs (mVar 0) ρ = some (kvM .int m) := dPairs_it (.inl h) nd
theorem f_si {ρ : Rho} {m' : Mp Int} (h : dVar 3 ρ = some (kvM .int m')) (nd : Nd m') (hl : m'.length ≤ 16777216) : mSItems (dVar 3) ρ = some (.list (itM .int (srt m'))) := mSItems_kv emI h nd hl
theorem led_step (hm : Rise m) (hl : m.length ≤ 1000000) (d : Deed) (ok : d.ok2) : ∃ s3' s4' s5' s6' s7' s8', G_led [.dat (bkD m), y, .dat d.d, s3, s4, s5, s6, s7, s8] = some (.nx [.dat (bkD (ledM m [d])), y, .dat d.d, s3', s4', s5', s6', s7', s8']) := by
  have nd := hm.nd
  have f0 : ∀ {ρ : Rho}, mVar 0 ρ = some (bkD m) → dPairs (mVar 0) ρ = some (kvM .int m) := fun h => f_bk h nd
  have z2 : ∀ x : Bool, oInt [.bool x] = some (.int (if x = true then 1 else 0)) := fun x => by cases x <;> rfl
  cases d with
  | add k n =>
    cases hv : val m k with
    | none =>
      have e := led_of_val (m' := put m k n) (d := .add k n) hm (nd_put nd) (by funext j; rw [val_put]; simp only [doF, hv]; rfl)
      have hl2 := put_len (m := m) (k := k) (v := n)
      have f1 : ∀ {ρ : Rho}, dVar 3 ρ = some (kvM .int (put m k n)) → mSItems (dVar 3) ρ = some (.list (itM .int (ledM m [.add k n]))) := fun h => by
        rw [f_si h (nd_put nd) (by omega), e]
      have hlt : List.length m < 16777216 := by omega
      refine ⟨.dic (kvM .int (put m k n)), .dat (.str k), s5, s6, s7, s8, ?_⟩
      simp (maxDischargeDepth := 10) (implicitDefEqProofs := false) [G_led, f0, Deed.d, mDIn, valD_kv, hv, sDPut, kvM_len, hlt, putD_kv, f1]
      rfl
    | some v =>
      have e := led_of_val (m' := m) (d := .add k n) hm nd (by
        funext j
        simp only [doF, hv, fput]
        by_cases h : j = k
        · rw [if_pos h, h, hv]; rfl
        · rw [if_neg h])
      have f1 : ∀ {ρ : Rho}, dVar 3 ρ = some (kvM .int m) → mSItems (dVar 3) ρ = some (.list (itM .int (ledM m [.add k n]))) := fun h => by
        rw [f_si h nd (by omega), e]
      refine ⟨.dic (kvM .int m), .dat (.str k), s5, s6, s7, s8, ?_⟩
      simp (maxDischargeDepth := 10) (implicitDefEqProofs := false) [G_led, f0, Deed.d, mDIn, valD_kv, hv, f1]
      rfl
  | drop k =>
    have e := led_of_val (m' := del m k) (d := .drop k) hm (nd_del nd) (by funext j; rw [val_del]; rfl)
    have hl2 := del_len (m := m) (k := k)
    have f1 : ∀ {ρ : Rho}, dVar 3 ρ = some (kvM .int (del m k)) → mSItems (dVar 3) ρ = some (.list (itM .int (ledM m [.drop k]))) := fun h => by
      rw [f_si h (nd_del nd) (by omega), e]
    have f2 : ∀ s3 s5 s6 s7 s8 w, dPairs (mL (lLc [6] (iD (mVar 0)) (gN 6) (m2 oNe (m2 oIx (mVar 6) (mC (.int 0))) (mVar 4)) (mVar 6))) [.dat (bkD m), y, w, s3, .dat (.str k), s5, s6, s7, s8] = some (kvM .int (del m k)) := fun s3 s5 s6 s7 s8 w => by
      refine dPairs_it (.inr (v_listLc (ds := itM .int m) rfl (by rw [itM_len]; omega) ?_)) (nd_del nd)
      exact lc_filterT (prD .int) (prD .int) (fun p => decide (p.1 ≠ k)) m fun p hp => ⟨_, rfl, by simp [prD], fun _ => rfl⟩
    refine ⟨.dic (kvM .int (del m k)), .dat (.str k), s5, s6, s7, s8, ?_⟩
    simp (maxDischargeDepth := 10) (implicitDefEqProofs := false) [G_led, f0, Deed.d, f1, f2]
    rfl
  | times k n =>
    obtain ⟨n1, n2⟩ := ok
    have n3 : -18446744073709551616 < n := by omega
    have n4 : n < 18446744073709551616 := by omega
    have ndm : Nd (m.map fun p => (p.1, if p.1 = k then p.2 * n % 1000 else p.2)) := nd_map nd
    have e := led_of_val (m' := m.map fun p => (p.1, if p.1 = k then p.2 * n % 1000 else p.2)) (d := .times k n) hm ndm (by
      funext j
      rw [val_map (f := fun x v => if x = k then v * n % 1000 else v)]
      simp only [doF]
      cases hv : val m k with
      | none =>
        show _ = val m j
        cases hj : val m j with
        | none => rfl
        | some u =>
          have h : ¬ j = k := fun z => by
            rw [z, hv] at hj
            cases hj
          simp [h]
      | some v =>
        show _ = (if j = k then some (v * n % 1000) else val m j)
        by_cases h : j = k
        · rw [h, hv]; simp
        · cases val m j <;> simp [h])
    have f1 : ∀ {ρ : Rho}, dVar 3 ρ = some (kvM .int (m.map fun p => (p.1, if p.1 = k then p.2 * n % 1000 else p.2))) → mSItems (dVar 3) ρ = some (.list (itM .int (ledM m [.times k n]))) := fun h => by
      rw [f_si h ndm (by rw [List.length_map]; omega), e]
    have f2 : ∀ s3 s5 s6 s7 s8, dPairs (mL (lLc [7, 8] (iD (mVar 0)) (gT [7, 8]) mYes (mTup (aCons (mVar 7) (aCons (m2 oIx (mLst (aCons (mVar 8) (aCons (m2 oMod (m2 oMul (mVar 8) (m2 oIx (mVar 2) (mC (.int 2)))) (mC (.int 1000))) aNil))) (mA oInt (aCons (m2 oEq (mVar 7) (mVar 4)) aNil))) aNil))))) [.dat (bkD m), y, .dat (.tuple [.str "times", .str k, .int n]), s3, .dat (.str k), s5, s6, s7, s8] = some (kvM .int (m.map fun p => (p.1, if p.1 = k then p.2 * n % 1000 else p.2))) := fun s3 s5 s6 s7 s8 => by
      refine dPairs_it (.inr (v_listLc (ds := itM .int m) rfl (by rw [itM_len]; omega) ?_)) ndm
      have := lc_mapT (ρ := [.dat (bkD m), y, .dat (.tuple [.str "times", .str k, .int n]), s3, .dat (.str k), s5, s6, .no, .no]) (prD .int) (fun p => prD .int (p.1, if p.1 = k then p.2 * n % 1000 else p.2)) (m := gT [7, 8]) (te := (mTup (aCons (mVar 7) (aCons (m2 oIx (mLst (aCons (mVar 8) (aCons (m2 oMod (m2 oMul (mVar 8) (m2 oIx (mVar 2) (mC (.int 2)))) (mC (.int 1000))) aNil))) (mA oInt (aCons (m2 oEq (mVar 7) (mVar 4)) aNil))) aNil)))) m fun p hp => ⟨_, rfl, by
        by_cases h : p.1 = k
        · simp [prD, n3, n4, z2, h]
        · simp [prD, n3, n4, z2, h]⟩
      refine Eq.trans this ?_
      unfold itM
      rw [List.map_map]
      rfl
    refine ⟨.dic (kvM .int (m.map fun p => (p.1, if p.1 = k then p.2 * n % 1000 else p.2))), .dat (.str k), s5, s6, s7, s8, ?_⟩
    simp (maxDischargeDepth := 10) (implicitDefEqProofs := false) [G_led, f0, Deed.d, f1, f2]
    rfl
  | call k j =>
    cases hv : val m k with
    | none =>
      have e := led_of_val (m' := m) (d := .call k j) hm nd (by simp only [doF, hv])
      have f1 : ∀ {ρ : Rho}, dVar 3 ρ = some (kvM .int m) → mSItems (dVar 3) ρ = some (.list (itM .int (ledM m [.call k j]))) := fun h => by
        rw [f_si h nd (by omega), e]
      refine ⟨.dic (kvM .int m), .dat (.str k), s5, s6, s7, s8, ?_⟩
      simp (maxDischargeDepth := 10) (implicitDefEqProofs := false) [G_led, f0, Deed.d, mDIn, valD_kv, hv, f1]
      rfl
    | some v =>
      have hvj : val (m.filter fun p => decide (¬ (p.1 = k ∨ p.1 = j))) j = none := by
        rw [val_filter (fun x => decide (¬ (x = k ∨ x = j)))]
        simp
      have ndm : Nd ((m.filter fun p => decide (¬ (p.1 = k ∨ p.1 = j))) ++ [(j, v)]) := nd_snoc (nd_filter nd) hvj
      have e := led_of_val (d := .call k j) hm ndm (by
        funext i
        rw [val_append, val_filter (fun x => decide (¬ (x = k ∨ x = j))), val_cons, val_nil]
        simp only [doF, hv, fput, fdel]
        by_cases h1 : i = j
        · simp [h1]
        · have h1' : ¬ j = i := fun z => h1 z.symm
          by_cases h2 : i = k
          · have h3 : ¬ k = j := h2 ▸ h1
            have h4 : ¬ j = k := fun z => h3 z.symm
            simp [h2, h3, h4]
          · simp [h1, h2, h1'])
      have hl2 : ((m.filter fun p => decide (¬ (p.1 = k ∨ p.1 = j))) ++ [(j, v)]).length ≤ m.length + 1 := by
        rw [List.length_append, List.length_singleton]
        have := List.length_filter_le (fun p : Str × Int => decide (¬ (p.1 = k ∨ p.1 = j))) m
        omega
      have f1 : ∀ {ρ : Rho}, dVar 3 ρ = some (kvM .int ((m.filter fun p => decide (¬ (p.1 = k ∨ p.1 = j))) ++ [(j, v)])) → mSItems (dVar 3) ρ = some (.list (itM .int (ledM m [.call k j]))) := fun h => by
        rw [f_si h ndm (by omega), e]
      have f2 : ∀ s5 s6 s7 s8, dPairs (m2 oAdd (mL (lLc [6] (iD (mVar 0)) (gN 6) (m2 oNotIn (m2 oIx (mVar 6) (mC (.int 0))) (mTup (aCons (mVar 4) (aCons (m2 oIx (mVar 2) (mC (.int 2))) aNil)))) (mVar 6))) (mLst (aCons (mTup (aCons (m2 oIx (mVar 2) (mC (.int 2))) (aCons (mDGet (dVar 3) (mVar 4)) aNil))) aNil))) [.dat (bkD m), y, .dat (.tuple [.str "call", .str k, .str j]), .dic (kvM .int m), .dat (.str k), s5, s6, s7, s8] = some (kvM .int ((m.filter fun p => decide (¬ (p.1 = k ∨ p.1 = j))) ++ [(j, v)])) := fun s5 s6 s7 s8 => by
        refine dPairs_it (.inr ?_) ndm
        have hL := v_listLc (ρ := [.dat (bkD m), y, .dat (.tuple [.str "call", .str k, .str j]), .dic (kvM .int m), .dat (.str k), s5, s6, s7, s8]) (vs := [6]) (fi := iD (mVar 0)) (m := gN 6) (tt := m2 oNotIn (m2 oIx (mVar 6) (mC (.int 0))) (mTup (aCons (mVar 4) (aCons (m2 oIx (mVar 2) (mC (.int 2))) aNil)))) (te := mVar 6) (ds := itM .int m) rfl (by rw [itM_len]; omega)
          (lc_filterT (prD .int) (prD .int) (fun p => decide (¬ (p.1 = k ∨ p.1 = j))) m fun p hp => ⟨_, rfl, by simp only [prD]; simp [oNotIn_s2], fun _ => rfl⟩)
        have hx : (m.filter fun p => decide (¬ (p.1 = k ∨ p.1 = j))).length + 1 ≤ 16777216 := by
          have := List.length_filter_le (fun p : Str × Int => decide (¬ (p.1 = k ∨ p.1 = j))) m
          omega
        rw [v_m2, hL]
        simp only [Option.bind_some]
        have hR : mLst (aCons (mTup (aCons (m2 oIx (mVar 2) (mC (.int 2))) (aCons (mDGet (dVar 3) (mVar 4)) aNil))) aNil) [.dat (bkD m), y, .dat (.tuple [.str "call", .str k, .str j]), .dic (kvM .int m), .dat (.str k), s5, s6, s7, s8] = some (.list [prD .int (j, v)]) := by
          simp [mDGet, valD_kv, hv, prD]
        rw [hR]
        simp only [Option.bind_some]
        rw [oAdd_l (by rw [List.length_map]; exact hx)]
        unfold itM
        rw [List.map_append]
        rfl
      refine ⟨.dic (kvM .int ((m.filter fun p => decide (¬ (p.1 = k ∨ p.1 = j))) ++ [(j, v)])), .dat (.str k), s5, s6, s7, s8, ?_⟩
      simp (maxDischargeDepth := 10) (implicitDefEqProofs := false) [G_led, f0, Deed.d, mDIn, valD_kv, hv, f1, f2, -List.map_append, -decide_not, -not_or]
      rfl
  | join k j =>
    have hkj : k ≠ j := ok
    cases hv : val m j with
    | none =>
      have e := led_of_val (m' := m) (d := .join k j) hm nd (by simp only [doF, hv])
      have f1 : ∀ {ρ : Rho}, dVar 3 ρ = some (kvM .int m) → mSItems (dVar 3) ρ = some (.list (itM .int (ledM m [.join k j]))) := fun h => by
        rw [f_si h nd (by omega), e]
      refine ⟨.dic (kvM .int m), .dat (.str k), s5, s6, s7, s8, ?_⟩
      simp (maxDischargeDepth := 10) (implicitDefEqProofs := false) [G_led, f0, Deed.d, mDIn, valD_kv, hv, f1]
      rfl
    | some v =>
      have hvj : val (m.filter fun p => decide (¬ (p.1 = k ∨ p.1 = j))) k = none := by
        rw [val_filter (fun x => decide (¬ (x = k ∨ x = j)))]
        simp
      obtain ⟨T, hT⟩ : ∃ T, T = (val m k).getD 0 + v := ⟨_, rfl⟩
      have ndm : Nd ((m.filter fun p => decide (¬ (p.1 = k ∨ p.1 = j))) ++ [(k, T % 1000)]) := nd_snoc (nd_filter nd) hvj
      have e := led_of_val (d := .join k j) hm ndm (by
        funext i
        rw [val_append, val_filter (fun x => decide (¬ (x = k ∨ x = j))), val_cons, val_nil]
        simp only [doF, hv, fput, fdel, hT]
        by_cases h1 : i = k
        · simp [h1]
        · have h1' : ¬ k = i := fun z => h1 z.symm
          by_cases h2 : i = j
          · have h3 : ¬ j = k := h2 ▸ h1
            simp [h2, h3, hkj]
          · simp [h1, h2, h1'])
      have hl2 : ((m.filter fun p => decide (¬ (p.1 = k ∨ p.1 = j))) ++ [(k, T % 1000)]).length ≤ m.length + 1 := by
        rw [List.length_append, List.length_singleton]
        have := List.length_filter_le (fun p : Str × Int => decide (¬ (p.1 = k ∨ p.1 = j))) m
        omega
      have f1 : ∀ {ρ : Rho}, dVar 3 ρ = some (kvM .int ((m.filter fun p => decide (¬ (p.1 = k ∨ p.1 = j))) ++ [(k, T % 1000)])) → mSItems (dVar 3) ρ = some (.list (itM .int (ledM m [.join k j]))) := fun h => by
        rw [f_si h ndm (by omega), e]
      have f3 : ∀ s5 s6 s7 s8, mA oSum (aCons (mL (lLc [7, 8] (iD (mVar 0)) (gT [7, 8]) (m2 oIn (mVar 7) (mTup (aCons (mVar 4) (aCons (m2 oIx (mVar 2) (mC (.int 2))) aNil)))) (mVar 8))) aNil) [.dat (bkD m), y, .dat (.tuple [.str "join", .str k, .str j]), .dic (kvM .int m), .dat (.str k), s5, s6, s7, s8] = some (.int T) := fun s5 s6 s7 s8 => by
        have hL := v_listLc (ρ := [.dat (bkD m), y, .dat (.tuple [.str "join", .str k, .str j]), .dic (kvM .int m), .dat (.str k), s5, s6, s7, s8]) (vs := [7, 8]) (fi := iD (mVar 0)) (m := gT [7, 8]) (tt := m2 oIn (mVar 7) (mTup (aCons (mVar 4) (aCons (m2 oIx (mVar 2) (mC (.int 2))) aNil)))) (te := mVar 8) (ds := itM .int m) rfl (by rw [itM_len]; omega)
          (lc_filterT (prD .int) (fun p => PyData.int p.2) (fun p => decide (p.1 = k ∨ p.1 = j)) m fun p hp => ⟨_, rfl, by simp [oIn_s2], fun _ => rfl⟩)
        rw [v_mA, v_aCons, hL]
        have hm2 : (List.map (fun p : Str × Int => PyData.int p.2) (m.filter fun p => decide (p.1 = k ∨ p.1 = j))) = ((m.filter fun p => decide (p.1 = k ∨ p.1 = j)).map (·.2)).map PyData.int := by rw [List.map_map]; rfl
        show Option.map (fun ns : List Int => PyData.int ns.sum) (allD intD (List.map (fun p : Str × Int => PyData.int p.2) (m.filter fun p => decide (p.1 = k ∨ p.1 = j)))) = _
        rw [hm2, allD_map (f := intD) (g := PyData.int) (fun _ => rfl)]
        show some (PyData.int _) = _
        rw [sum_two nd hkj, hv, hT]
        rfl
      have f2 : ∀ s6 s7 s8, dPairs (m2 oAdd (mL (lLc [6] (iD (mVar 0)) (gN 6) (m2 oNotIn (m2 oIx (mVar 6) (mC (.int 0))) (mTup (aCons (mVar 4) (aCons (m2 oIx (mVar 2) (mC (.int 2))) aNil)))) (mVar 6))) (mLst (aCons (mTup (aCons (mVar 4) (aCons (m2 oMod (mVar 5) (mC (.int 1000))) aNil))) aNil))) [.dat (bkD m), y, .dat (.tuple [.str "join", .str k, .str j]), .dic (kvM .int m), .dat (.str k), .dat (.int T), s6, s7, s8] = some (kvM .int ((m.filter fun p => decide (¬ (p.1 = k ∨ p.1 = j))) ++ [(k, T % 1000)])) := fun s6 s7 s8 => by
        refine dPairs_it (.inr ?_) ndm
        have hL := v_listLc (ρ := [.dat (bkD m), y, .dat (.tuple [.str "join", .str k, .str j]), .dic (kvM .int m), .dat (.str k), .dat (.int T), s6, s7, s8]) (vs := [6]) (fi := iD (mVar 0)) (m := gN 6) (tt := m2 oNotIn (m2 oIx (mVar 6) (mC (.int 0))) (mTup (aCons (mVar 4) (aCons (m2 oIx (mVar 2) (mC (.int 2))) aNil)))) (te := mVar 6) (ds := itM .int m) rfl (by rw [itM_len]; omega)
          (lc_filterT (prD .int) (prD .int) (fun p => decide (¬ (p.1 = k ∨ p.1 = j))) m fun p hp => ⟨_, rfl, by simp only [prD]; simp [oNotIn_s2], fun _ => rfl⟩)
        have hx : (m.filter fun p => decide (¬ (p.1 = k ∨ p.1 = j))).length + 1 ≤ 16777216 := by
          have := List.length_filter_le (fun p : Str × Int => decide (¬ (p.1 = k ∨ p.1 = j))) m
          omega
        rw [v_m2, hL]
        simp only [Option.bind_some]
        have hR : mLst (aCons (mTup (aCons (mVar 4) (aCons (m2 oMod (mVar 5) (mC (.int 1000))) aNil))) aNil) [.dat (bkD m), y, .dat (.tuple [.str "join", .str k, .str j]), .dic (kvM .int m), .dat (.str k), .dat (.int T), s6, s7, s8] = some (.list [prD .int (k, T % 1000)]) := by
          simp [prD]
        rw [hR]
        simp only [Option.bind_some]
        rw [oAdd_l (by rw [List.length_map]; exact hx)]
        unfold itM
        rw [List.map_append]
        rfl
      generalize ((m.filter fun p => decide (¬ (p.1 = k ∨ p.1 = j))) ++ [(k, T % 1000)]) = M at *
      refine ⟨.dic (kvM .int M), .dat (.str k), .dat (.int T), s6, s7, s8, ?_⟩
      simp (maxDischargeDepth := 10) (implicitDefEqProofs := false) [G_led, f0, Deed.d, mDIn, valD_kv, hv, f1, f2, ↓f3]
      rfl
theorem lawled_loop : ∀ (ds : List Deed) (m : Mp Int) (y s2 s3 s4 s5 s6 s7 s8 : Sl), Rise m → m.length + ds.length ≤ 1000000 → (∀ d ∈ ds, d.ok2) →
    ∃ t2 t3 t4 t5 t6 t7 t8, sLoop (gN 2) G_led (ds.map Deed.d) [.dat (bkD m), y, s2, s3, s4, s5, s6, s7, s8] = some (.nx [.dat (bkD (ledM m ds)), y, t2, t3, t4, t5, t6, t7, t8])
  | [], m, y, s2, s3, s4, s5, s6, s7, s8, hm, _, _ => ⟨s2, s3, s4, s5, s6, s7, s8, by rw [led_nil hm]; rfl⟩
  | d :: ds, m, y, s2, s3, s4, s5, s6, s7, s8, hm, hl, ok => by
    rw [List.length_cons] at hl
    obtain ⟨a3, a4, a5, a6, a7, a8, e⟩ := led_step (m := m) (y := y) (s3 := s3) (s4 := s4) (s5 := s5) (s6 := s6) (s7 := s7) (s8 := s8) hm (by omega) d (ok d List.mem_cons_self)
    have h1 := ledM_len (m := m) [d]
    rw [List.length_singleton] at h1
    obtain ⟨t2, t3, t4, t5, t6, t7, t8, e2⟩ := lawled_loop ds (ledM m [d]) y (.dat d.d) a3 a4 a5 a6 a7 a8 (ledM_rise hm.nd [d]) (by omega) fun d' h => ok d' (List.mem_cons_of_mem _ h)
    refine ⟨t2, t3, t4, t5, t6, t7, t8, ?_⟩
    rw [List.map_cons, v_loopS (ρ1 := [.dat (bkD m), y, .dat d.d, s3, s4, s5, s6, s7, s8]) rfl e, e2, led_cons hm]
theorem lawled_is {ds : List Deed} (hm : Rise m) (hl : m.length + ds.length ≤ 1000000) (ok : ∀ d ∈ ds, d.ok2) : F_law_led [.dat (bkD m), .dat (dsD ds)] = some (bkD (ledM m ds)) := by
  obtain ⟨t2, t3, t4, t5, t6, t7, t8, e⟩ := lawled_loop ds m (.dat (dsD ds)) .no .no .no .no .no .no .no hm hl ok
  refine run_rt ?_
  rw [B_led_is, v_seqN (ρ' := [.dat (bkD (ledM m ds)), .dat (dsD ds), t2, t3, t4, t5, t6, t7, t8]) (by rw [v_sFor]; exact e)]
  simp
structure WOk2 (ws : List (List Deed)) : Prop where
  len : ws.length ≤ 100
  each : ∀ ds ∈ ws, ds.length ≤ 100 ∧ ∀ d ∈ ds, d.ok2
theorem WOk2.ok {ws : List (List Deed)} (h : WOk2 ws) : WOk ws := ⟨h.len, fun ds hd => ⟨(h.each ds hd).1, fun d hd' => ((h.each ds hd).2 d hd').ok⟩⟩
theorem wyN_ok2 (n : Int) : WOk2 (wyN n) := ⟨Nat.le_trans (wyN_len n) (by decide), fun ds h => ⟨Nat.le_trans (wyN_in h).1 (by decide), fun d hd => by
  obtain ⟨k, _, rfl⟩ := List.mem_map.mp h
  exact dsN_ok2 d hd⟩⟩
theorem lawover_loop : ∀ (ws : List (List Deed)) (i : Nat) (m : Mp Int) (make : Int) (y s3 s4 : Sl), Rise m → (∀ ds ∈ ws, ds.length ≤ 100 ∧ ∀ d ∈ ds, d.ok2) → m.length + 100 * ws.length ≤ 1000000 → 1 ≤ make →
    ∃ t3 t4, sLoop (gT [3, 4]) (sIf (m2 oGe (m2 oAdd (mVar 3) (mC (.int 1))) (mVar 1)) (sSet 0 (mCall (F_law_led) (xDat (mVar 0) (xDat (mVar 4) xNil)))) sNil) (enD i (ws.map dsD)) [.dat (bkD m), .dat (.int make), y, s3, s4] = some (.nx [.dat (bkD (overM m (ws.drop (make.toNat - 1 - i)))), .dat (.int make), y, t3, t4])
  | [], i, m, make, y, s3, s4, _, _, _, _ => ⟨s3, s4, by rw [List.drop_nil]; rfl⟩
  | ds :: ws, i, m, make, y, s3, s4, hm, hw, hl, h1 => by
    rw [List.length_cons] at hl
    have hd := (hw ds List.mem_cons_self).1
    have h2 := ledM_len (m := m) ds
    by_cases hc : make ≤ (i : Int) + 1
    · obtain ⟨t3, t4, e⟩ := lawover_loop ws (i + 1) (ledM m ds) make y (.dat (.int i)) (.dat (dsD ds)) (ledM_rise hm.nd ds) (fun d hd => hw d (List.mem_cons_of_mem _ hd)) (by omega) h1
      refine ⟨t3, t4, ?_⟩
      rw [List.map_cons, enD, v_loopS (ρ1 := [.dat (bkD m), .dat (.int make), y, .dat (.int i), .dat (dsD ds)]) (ρ2 := [.dat (bkD (ledM m ds)), .dat (.int make), y, .dat (.int i), .dat (dsD ds)]) rfl (by
        simp [hc, lawled_is hm (by omega : m.length + ds.length ≤ 1000000) (hw ds List.mem_cons_self).2]), e]
      rw [show make.toNat - 1 - i = 0 by omega, show make.toNat - 1 - (i + 1) = 0 by omega]
      rfl
    · obtain ⟨t3, t4, e⟩ := lawover_loop ws (i + 1) m make y (.dat (.int i)) (.dat (dsD ds)) hm (fun d hd => hw d (List.mem_cons_of_mem _ hd)) (by omega) h1
      refine ⟨t3, t4, ?_⟩
      rw [List.map_cons, enD, v_loopS (ρ1 := [.dat (bkD m), .dat (.int make), y, .dat (.int i), .dat (dsD ds)]) (ρ2 := [.dat (bkD m), .dat (.int make), y, .dat (.int i), .dat (dsD ds)]) rfl (by
        simp [hc]), e]
      rw [show make.toNat - 1 - i = (make.toNat - 1 - (i + 1)) + 1 by omega]
      rfl
theorem lawover_is {make : Int} {ws : List (List Deed)} (hm : Rise m) (hl : m.length ≤ 100000) (h1 : 1 ≤ make) (hw : WOk2 ws) :
    F_law_led_over [.dat (bkD m), .dat (.int make), .dat (wyD ws)] = some (bkD (overM m (ws.drop (make.toNat - 1)))) := by
  obtain ⟨t3, t4, e⟩ := lawover_loop ws 0 m make (.dat (wyD ws)) .no .no hm hw.each (by have := hw.len; omega) h1
  refine run_rt ?_
  simp [B_law_led_over, startR]
  rw [v_seqN (by rw [v_sFor]; simp [iEn, wyD]; exact e)]
  simp
end
end Pu

set_option Elab.async false
set_option linter.all false
set_option autoImplicit false
set_option maxRecDepth 100000
/-! keys behind deeds; parts -/
namespace Pu
open PySem PySem.Spec PyProof.Rows L2
theorem keys_led_val : ∀ (ds : List Deed) (f g : Fm Int), (∀ k, (f k).isSome = (g k).isSome) → ∀ k, (ds.foldl doF f k).isSome = (ds.foldl doF g k).isSome
  | [], f, g, h, k => h k
  | d :: ds, f, g, h, k => by
    rw [List.foldl_cons, List.foldl_cons]
    refine keys_led_val ds _ _ (fun j => ?_) k
    cases d with
    | add k n =>
      simp only [doF, fput]
      split
      · rfl
      · exact h j
    | drop k =>
      simp only [doF, fdel]
      split
      · rfl
      · exact h j
    | times k n =>
      have hk := h k
      simp only [doF]
      cases hf : f k <;> cases hg : g k <;> rw [hf, hg] at hk
      · exact h j
      · cases hk
      · cases hk
      · simp only [fput]
        split
        · rfl
        · exact h j
    | call k i =>
      have hk := h k
      simp only [doF]
      cases hf : f k <;> cases hg : g k <;> rw [hf, hg] at hk
      · exact h j
      · cases hk
      · cases hk
      · simp only [fput, fdel]
        split
        · rfl
        · split
          · rfl
          · exact h j
    | join k i =>
      have hk := h i
      simp only [doF]
      cases hf : f i <;> cases hg : g i <;> rw [hf, hg] at hk
      · exact h j
      · cases hk
      · cases hk
      · simp only [fput, fdel]
        split
        · rfl
        · split
          · rfl
          · exact h j
/-- the keys of two rising rows -/
theorem keys_eq {m n : Mp Int} (hm : Rise m) (hn : Rise n) (h : ∀ k, (val m k).isSome = (val n k).isSome) : m.map (·.1) = n.map (·.1) := by
  have key : (m.map fun p => (p.1, (0 : Int))) = n.map fun p => (p.1, (0 : Int)) := by
    refine Rise.ext ?_ ?_ fun k => ?_
    · unfold Rise at *
      rw [List.pairwise_map]
      exact hm
    · unfold Rise at *
      rw [List.pairwise_map]
      exact hn
    · rw [val_map (f := fun _ _ => 0), val_map (f := fun _ _ => 0)]
      have := h k
      cases h1 : val m k <;> cases h2 : val n k <;> rw [h1, h2] at this <;> first | rfl | cases this
  have := congrArg (List.map (·.1)) key
  rw [List.map_map, List.map_map] at this
  exact this
theorem kz_val (m : Mp Int) (k : Str) : (val (kz (m.map (·.1))) k).isSome = (val m k).isSome := by
  unfold kz
  rw [List.map_map]
  show (val (m.map fun p => (p.1, (0 : Int))) k).isSome = _
  rw [val_map (f := fun _ _ => 0)]
  cases val m k <;> rfl
theorem kz_rise {m : Mp Int} (h : Rise m) : Rise (kz (m.map (·.1))) := by
  unfold kz Rise at *
  rw [List.map_map, List.pairwise_map]
  exact h
theorem keys_behind_is {m : Mp Int} (h : Rise m) (ds : List Deed) : (ledM (kz (m.map (·.1))) ds).map (·.1) = (ledM m ds).map (·.1) := by
  refine keys_eq (ledM_rise (kz_rise h).nd ds) (ledM_rise h.nd ds) fun k => ?_
  rw [ledM_val (kz_rise h).nd, ledM_val h.nd]
  exact keys_led_val ds _ _ (kz_val m) k
theorem pl_ks (ks : List Str) : Pl 2 (ksD ks) := pl_tup fun x hx => by
  obtain ⟨k, _, rfl⟩ := List.mem_map.mp hx
  exact pl_str ..
@[simp] theorem ks_ne (ks : List Str) : oNe (ksD ks) (ksD ks) = some (.bool false) := ((pl_ks ks).mono (by decide)).ne
@[simp] theorem ks_eq (ks : List Str) : oEq (ksD ks) (ksD ks) = some (.bool true) := ((pl_ks ks).mono (by decide)).eq
theorem led_append {m : Mp Int} (hm : Rise m) (ds es : List Deed) : ledM (ledM m ds) es = ledM m (ds ++ es) := by
  have h1 := ledM_rise hm.nd ds
  refine Rise.ext (ledM_rise h1.nd _) (ledM_rise hm.nd _) fun k => ?_
  rw [ledM_val h1.nd, ledM_val hm.nd, ledM_val hm.nd, List.foldl_append]
theorem over_flat : ∀ {ws : List (List Deed)} {m : Mp Int}, Rise m → ledM m ws.flatten = overM m ws
  | [], m, h => led_nil h
  | ds :: ws, m, h => by
    rw [List.flatten_cons, ← led_append h]
    exact over_flat (ws := ws) (ledM_rise h.nd ds)
theorem over_append {m : Mp Int} (a b : List (List Deed)) : overM m (a ++ b) = overM (overM m a) b := List.foldl_append
theorem kz_nd {m : Mp Int} (h : Rise m) : (m.map fun p : Str × Int => p.1).Nodup := h.nd
/-- keys behind deeds, of a book's keys -/
theorem keysB {m : Mp Int} {ds : List Deed} (h : Rise m) (hl : m.length + ds.length < 16777216) (ok : ∀ d ∈ ds, d.ok) : F_keys_behind [.dat (ksD (m.map (·.1))), .dat (dsD ds)] = some (ksD ((ledM m ds).map (·.1))) := by
  have := keys_is (ks := m.map fun p : Str × Int => p.1) (ds := ds) h.nd (by rw [List.length_map]; exact hl) ok
  rw [keys_behind_is h] at this
  exact this
end Pu

set_option Elab.async false
set_option linter.all false
set_option autoImplicit false
set_option maxRecDepth 100000
set_option maxHeartbeats 1000000
namespace Pu
open PySem PySem.Spec PyProof.Rows L2
def B_is_key : MirS :=
  (sRet (mAnd (m1 (oIsi "str") (mVar 0)) (mAnd (mCh oLe oLe (mC (.int 1)) (mA oLen (aCons (mVar 0) aNil)) (mC (.int 5))) (mA oAll (aCons (mL (lLc [1] (iD (mVar 0)) (gN 1) mYes (m2 oIn (mVar 1) (mC (.str "abcdefghijklmnopqrstuvwxyz"))))) aNil)))))
def F_is_key : MirF := runB 2 B_is_key

def B_is_whole : MirS :=
  (sRet (mAnd (m1 (oIsi "int") (mVar 0)) (mAnd (m1 oNot (m1 (oIsi "bool") (mVar 0))) (mCh oLe oLe (mVar 1) (mVar 0) (mVar 2)))))
def F_is_whole : MirF := runB 3 B_is_whole

def B_is_pair : MirS :=
  (sRet (mAnd (m1 (oIsi "tuple") (mVar 0)) (mAnd (m2 oEq (mA oLen (aCons (mVar 0) aNil)) (mC (.int 2))) (mAnd (mCall (F_is_key) (xDat (m2 oIx (mVar 0) (mC (.int 0))) xNil)) (mCall (F_is_whole) (xDat (m2 oIx (mVar 0) (mC (.int 1))) (xDat (mC (.int 0)) (xDat (m2 oSub (mC (.int 1000)) (mC (.int 1))) xNil))))))))
def F_is_pair : MirF := runB 1 B_is_pair

def B_is_book : MirS :=
  (sSeq (sIf (mOr (m1 oNot (m1 (oIsi "tuple") (mVar 0))) (m1 oNot (mA oAll (aCons (mL (lLc [1] (iD (mVar 0)) (gN 1) mYes (mCall (F_is_pair) (xDat (mVar 1) xNil)))) aNil))))
      (sRet (mC (.bool false)))
      sNil)
    (sRet (mA oAll (aCons (mL (lLc [2, 3] (iZp (aCons (mSl (mVar 0) oNone (oSome (m1 oNeg (mC (.int 1))))) (aCons (mSl (mVar 0) (oSome (mC (.int 1))) oNone) aNil))) (gT [2, 3]) mYes (m2 oLt (m2 oIx (mVar 2) (mC (.int 0))) (m2 oIx (mVar 3) (mC (.int 0)))))) aNil))))
def F_is_book : MirF := runB 4 B_is_book

def B_is_deed : MirS :=
  (sSeq (sIf (mOr (m1 oNot (m1 (oIsi "tuple") (mVar 0))) (mOr (m2 oLt (mA oLen (aCons (mVar 0) aNil)) (mC (.int 2))) (mOr (m1 oNot (m1 (oIsi "str") (m2 oIx (mVar 0) (mC (.int 0))))) (m1 oNot (mCall (F_is_key) (xDat (m2 oIx (mVar 0) (mC (.int 1))) xNil))))))
      (sRet (mC (.bool false)))
      sNil)
    (sSeq (sSet 1 (m2 oIx (mVar 0) (mC (.int 0))))
    (sSeq (sIf (m2 oEq (mVar 1) (mC (.str "drop")))
      (sRet (m2 oEq (mA oLen (aCons (mVar 0) aNil)) (mC (.int 2))))
      sNil)
    (sSeq (sIf (m2 oNe (mA oLen (aCons (mVar 0) aNil)) (mC (.int 3)))
      (sRet (mC (.bool false)))
      sNil)
    (sSeq (sIf (m2 oEq (mVar 1) (mC (.str "add")))
      (sRet (mCall (F_is_whole) (xDat (m2 oIx (mVar 0) (mC (.int 2))) (xDat (mC (.int 0)) (xDat (m2 oSub (mC (.int 1000)) (mC (.int 1))) xNil)))))
      sNil)
    (sSeq (sIf (m2 oEq (mVar 1) (mC (.str "times")))
      (sRet (mCall (F_is_whole) (xDat (m2 oIx (mVar 0) (mC (.int 2))) (xDat (mC (.int 0)) (xDat (mC (.int 9)) xNil)))))
      sNil)
    (sSeq (sIf (m2 oEq (mVar 1) (mC (.str "join")))
      (sRet (mAnd (mCall (F_is_key) (xDat (m2 oIx (mVar 0) (mC (.int 2))) xNil)) (m2 oNe (m2 oIx (mVar 0) (mC (.int 1))) (m2 oIx (mVar 0) (mC (.int 2))))))
      sNil)
    (sRet (mAnd (m2 oEq (mVar 1) (mC (.str "call"))) (mCall (F_is_key) (xDat (m2 oIx (mVar 0) (mC (.int 2))) xNil)))))))))))
def F_is_deed : MirF := runB 2 B_is_deed

def B_are_deeds : MirS :=
  (sRet (mAnd (m1 (oIsi "tuple") (mVar 0)) (mA oAll (aCons (mL (lLc [1] (iD (mVar 0)) (gN 1) mYes (mCall (F_is_deed) (xDat (mVar 1) xNil)))) aNil))))
def F_are_deeds : MirF := runB 2 B_are_deeds

def B_is_ways : MirS :=
  (sRet (mAnd (m1 (oIsi "tuple") (mVar 0)) (mAnd (m2 oLt (mA oLen (aCons (mVar 0) aNil)) (mC (.int 9))) (mA oAll (aCons (mL (lLc [1] (iD (mVar 0)) (gN 1) mYes (mCall (F_are_deeds) (xDat (mVar 1) xNil)))) aNil)))))
def F_is_ways : MirF := runB 2 B_is_ways

end Pu

set_option Elab.async false
set_option linter.all false
set_option autoImplicit false
set_option maxRecDepth 100000
/-! what is a key, a whole number, a pair, a book -/
namespace Pu
open PySem PySem.Spec PyProof.Rows L2
def isStr : D → Bool
  | .str _ => true
  | _ => false
def isInt : D → Bool
  | .int _ => true
  | .bool _ => true
  | _ => false
def isBool : D → Bool
  | .bool _ => true
  | _ => false
def isTup : D → Bool
  | .tuple _ => true
  | _ => false
@[simp] theorem isi_str (d : D) : oIsi "str" d = some (.bool (isStr d)) := by
  cases d <;> simp only [oIsi, tyD, isStr] <;> (refine congrArg (Option.map PyData.bool) (?_ : _ = some _)) <;> decide +kernel
@[simp] theorem isi_int (d : D) : oIsi "int" d = some (.bool (isInt d)) := by
  cases d <;> simp only [oIsi, tyD, isInt] <;> (refine congrArg (Option.map PyData.bool) (?_ : _ = some _)) <;> decide +kernel
@[simp] theorem isi_bool (d : D) : oIsi "bool" d = some (.bool (isBool d)) := by
  cases d <;> simp only [oIsi, tyD, isBool] <;> (refine congrArg (Option.map PyData.bool) (?_ : _ = some _)) <;> decide +kernel
@[simp] theorem isi_tup (d : D) : oIsi "tuple" d = some (.bool (isTup d)) := by
  cases d <;> simp only [oIsi, tyD, isTup] <;> (refine congrArg (Option.map PyData.bool) (?_ : _ = some _)) <;> decide +kernel
/-! not too large -/
mutual
def sz : D → Bool
  | .str s => decide (s.length ≤ 1000000)
  | .list xs => decide (xs.length ≤ 1000000) && szAll xs
  | .tuple xs => decide (xs.length ≤ 1000000) && szAll xs
  | _ => true
def szAll : List D → Bool
  | [] => true
  | x :: xs => sz x && szAll xs
end
theorem szAll_mem : ∀ {xs : List D}, szAll xs = true → ∀ x ∈ xs, sz x = true
  | x :: xs, h, y, hy => by
    rw [szAll, Bool.and_eq_true] at h
    rcases List.mem_cons.mp hy with rfl | hy
    · exact h.1
    · exact szAll_mem h.2 y hy
theorem szAll_of : ∀ {xs : List D}, (∀ x ∈ xs, sz x = true) → szAll xs = true
  | [], _ => rfl
  | x :: xs, h => by
    rw [szAll, h x List.mem_cons_self, szAll_of fun y hy => h y (List.mem_cons_of_mem _ hy)]
    rfl
theorem sz_tup {xs : List D} (h : sz (.tuple xs) = true) : xs.length ≤ 1000000 ∧ ∀ x ∈ xs, sz x = true := by
  rw [sz, Bool.and_eq_true, decide_eq_true_eq] at h
  exact ⟨h.1, szAll_mem h.2⟩
theorem sz_tup_of {xs : List D} (h : xs.length ≤ 1000000) (h' : ∀ x ∈ xs, sz x = true) : sz (.tuple xs) = true := by
  rw [sz, szAll_of h', decide_eq_true h]
  rfl
theorem sz_lst {xs : List D} (h : sz (.list xs) = true) : xs.length ≤ 1000000 ∧ ∀ x ∈ xs, sz x = true := by
  rw [sz, Bool.and_eq_true, decide_eq_true_eq] at h
  exact ⟨h.1, szAll_mem h.2⟩
theorem sz_lst_of {xs : List D} (h : xs.length ≤ 1000000) (h' : ∀ x ∈ xs, sz x = true) : sz (.list xs) = true := by
  rw [sz, szAll_of h', decide_eq_true h]
  rfl
theorem sz_str {s : Str} (h : sz (.str s) = true) : s.length ≤ 1000000 := by
  rw [sz, decide_eq_true_eq] at h
  exact h
theorem sz_str_of {s : Str} (h : s.length ≤ 1000000) : sz (.str s) = true := by
  rw [sz, decide_eq_true h]
theorem sz_int (i : Int) : sz (.int i) = true := rfl
/-! keys -/
def letters : Str := "abcdefghijklmnopqrstuvwxyz"
def keyOk (s : Str) : Bool := decide (1 ≤ s.length ∧ s.length ≤ 5) && s.cps.toList.all fun c => decide (c ∈ letters.cps.toList)
def isKeyD : D → Bool
  | .str s => keyOk s
  | _ => false
theorem oLen_s {s : Str} (h : s.length ≤ 16777216) : oLen [.str s] = some (.int s.length) := if_pos h
theorem v_chain {f g h : Mir} {ρ : Rho} {i j k : Int} (h1 : f ρ = some (.int i)) (h2 : g ρ = some (.int j)) (h3 : h ρ = some (.int k)) : mCh oLe oLe f g h ρ = some (.bool (decide (i ≤ j ∧ j ≤ k))) := by
  unfold mCh
  rw [h1, h2]
  simp only [Option.bind_some, oLe_i]
  by_cases c : i ≤ j
  · rw [decide_eq_true c]
    simp only [h3, Option.bind_some, oLe_i]
    by_cases c2 : j ≤ k <;> simp [c, c2]
  · rw [decide_eq_false c]
    simp [c]
theorem oIn_sgn (c : Nat) (z : Str) : oIn (.str (sgn c)) (.str z) = some (.bool (decide (c ∈ z.cps.toList))) := by
  show Option.map PyData.bool ((if (sgn c).cps.size = 1 then some (decide ((sgn c).cps.getD 0 0 ∈ z.cps.toList)) else none).orElse _) = _
  rw [if_pos (show (sgn c).cps.size = 1 from rfl)]
  rfl
@[simp] theorem oAll_b (bs : List Bool) : oAll [.list (bs.map PyData.bool)] = some (.bool (bs.all id)) := by
  show Option.map (fun ns : List Bool => PyData.bool (ns.all id)) (allD boolD (bs.map PyData.bool)) = _
  rw [allD_map (f := boolD) (g := PyData.bool) (fun _ => rfl)]
  rfl
theorem oAll_map {τ : Type} (c : τ → Bool) (l : List τ) : oAll [.list (l.map fun t => PyData.bool (c t))] = some (.bool (l.all c)) := by
  have : (l.map fun t => PyData.bool (c t)) = (l.map c).map PyData.bool := by rw [List.map_map]; rfl
  rw [this, oAll_b, List.all_map]
  rfl
/-- all([.. for .. in ..]) -/
theorem v_allLc {τ : Type} (e : τ → D) (c : τ → Bool) {ρ : Rho} {vs : List Nat} {fi : MirI} {m : MirG} {te : Mir} {l : List τ} (hi : fi ρ = some (l.map e)) (hl : l.length < 16777216) (hg : ∀ t ∈ l, ∃ ρ1, m (e t) (wipeR ρ vs) = some ρ1 ∧ te ρ1 = some (.bool (c t))) :
    mA oAll (aCons (mL (lLc vs fi m mYes te)) aNil) ρ = some (.bool (l.all c)) := by
  rw [v_mA, v_aCons, v_listLc hi (by rw [List.length_map]; exact hl) (lc_mapT e (fun t => PyData.bool (c t)) l hg)]
  exact oAll_map c l
theorem is_key (d : D) (h : sz d = true) : F_is_key [.dat d] = some (.bool (isKeyD d)) := by
  refine run_rt ?_
  cases d with
  | str s =>
    have hs := sz_str h
    have e1 : mCh oLe oLe (mC (.int 1)) (mA oLen (aCons (mVar 0) aNil)) (mC (.int 5)) [.dat (.str s), .no] = some (.bool (decide (1 ≤ (s.length : Int) ∧ (s.length : Int) ≤ 5))) := v_chain rfl (by simp [oLen_s (by omega : s.length ≤ 16777216)]) rfl
    have e2 := v_allLc (fun c => PyData.str (sgn c)) (fun c => decide (c ∈ letters.cps.toList)) (ρ := [.dat (.str s), .no]) (vs := [1]) (fi := iD (mVar 0)) (m := gN 1) (te := m2 oIn (mVar 1) (mC (.str "abcdefghijklmnopqrstuvwxyz"))) (l := s.cps.toList) rfl (by
      show s.length < 16777216
      omega) fun c hc => ⟨_, rfl, by simp [oIn_sgn]; rfl⟩
    by_cases hc : 1 ≤ (s.length : Int) ∧ (s.length : Int) ≤ 5
    · have hc' : 1 ≤ s.length ∧ s.length ≤ 5 := by omega
      simp (maxDischargeDepth := 10) (implicitDefEqProofs := false) [B_is_key, startR, isStr, e1, hc, ↓e2, isKeyD, keyOk, hc']
    · have hc' : ¬ (1 ≤ s.length ∧ s.length ≤ 5) := by omega
      simp (maxDischargeDepth := 10) (implicitDefEqProofs := false) [B_is_key, startR, isStr, e1, hc, isKeyD, keyOk, hc']
  | _ => simp (maxDischargeDepth := 10) (implicitDefEqProofs := false) [B_is_key, startR, isStr, isKeyD]
def isWholeD (lo hi : Int) : D → Bool
  | .int i => decide (lo ≤ i ∧ i ≤ hi)
  | _ => false
theorem is_whole (d : D) (lo hi : Int) : F_is_whole [.dat d, .dat (.int lo), .dat (.int hi)] = some (.bool (isWholeD lo hi d)) := by
  refine run_rt ?_
  cases d with
  | int i =>
    have e1 : mCh oLe oLe (mVar 1) (mVar 0) (mVar 2) [.dat (.int i), .dat (.int lo), .dat (.int hi)] = some (.bool (decide (lo ≤ i ∧ i ≤ hi))) := v_chain rfl rfl rfl
    simp (maxDischargeDepth := 10) (implicitDefEqProofs := false) [B_is_whole, startR, isInt, isBool, e1, isWholeD]
  | _ => simp (maxDischargeDepth := 10) (implicitDefEqProofs := false) [B_is_whole, startR, isInt, isBool, isWholeD]
def isPairD : D → Bool
  | .tuple [a, b] => isKeyD a && isWholeD 0 999 b
  | _ => false
theorem is_pair (d : D) (h : sz d = true) : F_is_pair [.dat d] = some (.bool (isPairD d)) := by
  refine run_rt ?_
  cases d with
  | tuple xs =>
    obtain ⟨hl, hx⟩ := sz_tup h
    match xs, hl, hx with
    | [], _, _ => simp (maxDischargeDepth := 10) (implicitDefEqProofs := false) [B_is_pair, startR, isTup, isPairD]
    | [a], _, _ => simp (maxDischargeDepth := 10) (implicitDefEqProofs := false) [B_is_pair, startR, isTup, isPairD]
    | [a, b], _, hx =>
      have ha := is_key a (hx a (by simp))
      have hb := is_whole b 0 999
      cases hk : isKeyD a
      · rw [hk] at ha
        simp (maxDischargeDepth := 10) (implicitDefEqProofs := false) [B_is_pair, startR, isTup, isPairD, ha, hk]
      · rw [hk] at ha
        simp (maxDischargeDepth := 10) (implicitDefEqProofs := false) [B_is_pair, startR, isTup, isPairD, ha, hk, hb]
    | a :: b :: c :: r, hl, _ =>
      have : ¬ ((r.length : Int) + 1 + 1 + 1 = 2) := by omega
      simp (maxDischargeDepth := 10) (implicitDefEqProofs := false) [B_is_pair, startR, isTup, isPairD, this]
  | _ => simp (maxDischargeDepth := 10) (implicitDefEqProofs := false) [B_is_pair, startR, isTup, isPairD]
def keyOf : D → Str
  | .tuple (.str s :: _) => s
  | _ => Str.empty
/-- keys rise -/
def risesD : List D → Bool
  | x :: y :: r => ltS (keyOf x) (keyOf y) && risesD (y :: r)
  | _ => true
def isBookD : D → Bool
  | .tuple xs => xs.all isPairD && risesD xs
  | _ => false
theorem pair_keyOf {d : D} (h : isPairD d = true) : ∃ s b, d = .tuple [.str s, b] ∧ keyOf d = s := by
  unfold isPairD at h
  split at h
  · rename_i a b
    rw [Bool.and_eq_true] at h
    unfold isKeyD at h
    split at h
    · exact ⟨_, _, rfl, rfl⟩
    · cases h.1
  · cases h
theorem rises_zip : ∀ xs : List D, risesD xs = (xs.dropLast.zip xs.tail).all fun p => ltS (keyOf p.1) (keyOf p.2)
  | [] => rfl
  | [x] => rfl
  | x :: y :: r => by
    have ih := rises_zip (y :: r)
    rw [risesD, ih]
    rfl
theorem zipD_is : ∀ xs ys : List D, zipD xs ys = (xs.zip ys).map fun p => PyData.tuple [p.1, p.2]
  | [], _ => by simp [zipD]
  | _ :: _, [] => by simp [zipD]
  | x :: xs, y :: ys => by
    rw [zipD, zipD_is xs ys]
    rfl
theorem cut_last (xs : List D) : cutD xs none (some (-1)) = xs.dropLast := by
  unfold cutD
  have e : HT.sIx xs.length xs.length (some (-1)) = xs.length - 1 := by
    show (if (-1 : Int) < 0 then ((-1 : Int) + (xs.length : Int)).toNat else min (-1 : Int).toNat xs.length) = _
    rw [if_pos (by decide)]
    omega
  rw [HT.sIx_none, e, List.drop_zero, Nat.sub_zero, List.dropLast_eq_take]
theorem cut_tail (xs : List D) : cutD xs (some 1) none = xs.tail := by
  rw [cutD_from (by decide)]
  exact List.drop_one
theorem is_book (d : D) (h : sz d = true) : F_is_book [.dat d] = some (.bool (isBookD d)) := by
  refine run_rt ?_
  cases d with
  | tuple xs =>
    obtain ⟨hl, hx⟩ := sz_tup h
    have e1 := v_allLc id isPairD (ρ := [.dat (.tuple xs), .no, .no, .no]) (vs := [1]) (fi := iD (mVar 0)) (m := gN 1) (te := mCall (F_is_pair) (xDat (mVar 1) xNil)) (l := xs) (by simp) (by omega) fun t ht => ⟨_, rfl, by simp [is_pair t (hx t ht)]⟩
    cases hp : xs.all isPairD
    · rw [hp] at e1
      simp (maxDischargeDepth := 10) (implicitDefEqProofs := false) [B_is_book, startR, isTup, isBookD, ↓e1, hp]
    · rw [hp] at e1
      rw [List.all_eq_true] at hp
      have hz : iZp (aCons (mSl (mVar 0) oNone (oSome (m1 oNeg (mC (.int 1))))) (aCons (mSl (mVar 0) (oSome (mC (.int 1))) oNone) aNil)) [.dat (.tuple xs), .no, .no, .no] = some ((xs.dropLast.zip xs.tail).map fun p => PyData.tuple [p.1, p.2]) := by
        have a1 : mSl (mVar 0) oNone (oSome (m1 oNeg (mC (.int 1)))) [.dat (.tuple xs), .no, .no, .no] = some (.tuple xs.dropLast) := by
          rw [← cut_last]
          rfl
        have a2 : mSl (mVar 0) (oSome (mC (.int 1))) oNone [.dat (.tuple xs), .no, .no, .no] = some (.tuple xs.tail) := by
          rw [← cut_tail]
          rfl
        unfold iZp
        rw [v_aCons, a1, v_aCons, a2]
        simp [zipD_is]
      have e2 := v_allLc (fun p : D × D => PyData.tuple [p.1, p.2]) (fun p => ltS (keyOf p.1) (keyOf p.2)) (te := m2 oLt (m2 oIx (mVar 2) (mC (.int 0))) (m2 oIx (mVar 3) (mC (.int 0)))) (m := gT [2, 3]) (vs := [2, 3]) hz (by
        rw [List.length_zip, List.length_dropLast, List.length_tail]
        omega) fun p hpm => by
          obtain ⟨a, b⟩ := p
          have hm := List.of_mem_zip hpm
          obtain ⟨s, v, rfl, ks⟩ := pair_keyOf (hp a ((List.dropLast_sublist xs).subset hm.1))
          obtain ⟨s', v', rfl, ks'⟩ := pair_keyOf (hp b (List.mem_of_mem_tail hm.2))
          exact ⟨_, rfl, by simp [keyOf]⟩
      rw [← rises_zip] at e2
      have hpp : xs.all isPairD = true := List.all_eq_true.mpr hp
      simp (maxDischargeDepth := 10) (implicitDefEqProofs := false) [B_is_book, startR, isTup, isBookD, ↓e1, ↓e2, hpp]
  | _ => simp (maxDischargeDepth := 10) (implicitDefEqProofs := false) [B_is_book, startR, isTup, isBookD]
end Pu

set_option Elab.async false
set_option linter.all false
set_option autoImplicit false
set_option maxRecDepth 100000
/-! books stay books -/
namespace Pu
open PySem PySem.Spec PyProof.Rows L2
def Deed.good : Deed → Prop
  | .add k n => keyOk k = true ∧ 0 ≤ n ∧ n < 1000
  | .drop k => keyOk k = true
  | .times k n => keyOk k = true ∧ 0 ≤ n ∧ n < 10
  | .call k j => keyOk k = true ∧ keyOk j = true
  | .join k j => keyOk k = true ∧ keyOk j = true ∧ k ≠ j
theorem Deed.good.ok2 {d : Deed} (h : d.good) : d.ok2 := by
  cases d with
  | add => trivial
  | drop => trivial
  | times k n => exact ⟨h.2.1, Int.lt_trans h.2.2 (by decide)⟩
  | call => trivial
  | join k j => exact h.2.2
theorem key6_ok (x : Int) : keyOk (key6 x) = true := by
  unfold key6
  split
  · decide
  split
  · decide
  split
  · decide
  split
  · decide
  split <;> decide
theorem deN_good (n : Int) : (deN n).good := by
  unfold deN
  split
  · exact ⟨key6_ok _, by omega, by omega⟩
  split
  · exact key6_ok _
  split
  · exact ⟨key6_ok _, by omega, by omega⟩
  split
  · rename_i h
    exact ⟨key6_ok _, key6_ok _, h.2⟩
  · exact ⟨key6_ok _, key6_ok _⟩
theorem dsN_good {n most : Int} : ∀ d ∈ dsN n most, d.good := fun d hd => by
  obtain ⟨k, _, rfl⟩ := List.mem_map.mp hd
  exact deN_good _
/-- keys and worths of a book -/
def Fb (f : Fm Int) : Prop := ∀ k v, f k = some v → keyOk k = true ∧ 0 ≤ v ∧ v < 1000
theorem fb_put {f : Fm Int} {k : Str} {v : Int} (h : Fb f) (hk : keyOk k = true) (hv : 0 ≤ v ∧ v < 1000) : Fb (fput f k v) := fun j u e => by
  unfold fput at e
  by_cases c : j = k
  · rw [if_pos c] at e
    cases e
    exact ⟨c ▸ hk, hv⟩
  · rw [if_neg c] at e
    exact h j u e
theorem fb_del {f : Fm Int} {k : Str} (h : Fb f) : Fb (fdel f k) := fun j u e => by
  unfold fdel at e
  by_cases c : j = k
  · rw [if_pos c] at e
    cases e
  · rw [if_neg c] at e
    exact h j u e
theorem fb_do {f : Fm Int} (h : Fb f) {d : Deed} (g : d.good) : Fb (doF f d) := by
  cases d with
  | add k n =>
    refine fb_put h g.1 ?_
    cases e : f k with
    | none => exact g.2
    | some v => exact (h k v e).2
  | drop k => exact fb_del h
  | times k n =>
    simp only [doF]
    cases e : f k with
    | none => exact h
    | some v => exact fb_put h g.1 ⟨Int.emod_nonneg _ (by decide), Int.emod_lt_of_pos _ (by decide)⟩
  | call k j =>
    simp only [doF]
    cases e : f k with
    | none => exact h
    | some v => exact fb_put (fb_del h) g.2 (h k v e).2
  | join k j =>
    simp only [doF]
    cases e : f j with
    | none => exact h
    | some v => exact fb_put (fb_del h) g.1 ⟨Int.emod_nonneg _ (by decide), Int.emod_lt_of_pos _ (by decide)⟩
theorem fb_dos : ∀ {ds : List Deed} {f : Fm Int}, Fb f → (∀ d ∈ ds, d.good) → Fb (ds.foldl doF f)
  | [], _, h, _ => h
  | d :: ds, f, h, g => fb_dos (ds := ds) (fb_do h (g d List.mem_cons_self)) fun d' hd => g d' (List.mem_cons_of_mem _ hd)
/-- a book -/
structure Bk (m : Mp Int) : Prop where
  rise : Rise m
  fb : Fb (val m)
theorem bkN_bk (n : Int) : Bk (bkN n) := ⟨bkN_rise n, fun k v h => by
  refine ⟨?_, bkN_in h⟩
  have := (bkGo_keys n ["a", "b", "coin", "end", "x"] 0).subset (List.mem_map.mpr ⟨(k, v), mem_of_val h, rfl⟩)
  simp only [List.mem_cons, List.not_mem_nil, or_false] at this
  rcases this with h | h | h | h | h <;> (rw [show k = _ from h]; decide)⟩
theorem Bk.led {m : Mp Int} (h : Bk m) {ds : List Deed} (g : ∀ d ∈ ds, d.good) : Bk (ledM m ds) := ⟨ledM_rise h.rise.nd ds, by
  rw [ledM_val h.rise.nd]
  exact fb_dos h.fb g⟩
theorem Bk.over : ∀ {ws : List (List Deed)} {m : Mp Int}, Bk m → (∀ ds ∈ ws, ∀ d ∈ ds, d.good) → Bk (overM m ws)
  | [], _, h, _ => h
  | ds :: ws, m, h, g => Bk.over (ws := ws) (h.led (g ds List.mem_cons_self)) fun d hd => g d (List.mem_cons_of_mem _ hd)
theorem rises_it : ∀ {m : Mp Int}, Rise m → risesD (itM .int m) = true
  | [], _ => rfl
  | [p], _ => rfl
  | p :: q :: m, h => by
    have h1 := List.pairwise_cons.mp h
    show (ltS p.1 q.1 && risesD (itM .int (q :: m))) = true
    rw [h1.1 q List.mem_cons_self, rises_it h1.2]
    rfl
theorem Bk.is {m : Mp Int} (h : Bk m) : isBookD (bkD m) = true := by
  show ((itM .int m).all isPairD && risesD (itM .int m)) = true
  rw [rises_it h.rise, Bool.and_true, List.all_eq_true]
  intro x hx
  obtain ⟨p, hp, rfl⟩ := List.mem_map.mp hx
  have := h.fb p.1 p.2 (val_of_mem h.rise.nd hp)
  show (keyOk p.1 && decide (0 ≤ p.2 ∧ p.2 ≤ 999)) = true
  rw [this.1, decide_eq_true (by omega)]
  rfl
theorem keyOk_len {s : Str} (h : keyOk s = true) : 1 ≤ s.length ∧ s.length ≤ 5 := by
  unfold keyOk at h
  rw [Bool.and_eq_true, decide_eq_true_eq] at h
  exact h.1
theorem Bk.sz {m : Mp Int} (h : Bk m) (hl : m.length ≤ 1000000) : sz (bkD m) = true := by
  refine sz_tup_of (by rw [itM_len]; exact hl) fun x hx => ?_
  obtain ⟨p, hp, rfl⟩ := List.mem_map.mp hx
  have := keyOk_len (h.fb p.1 p.2 (val_of_mem h.rise.nd hp)).1
  refine sz_tup_of (by simp) fun y hy => ?_
  rcases List.mem_cons.mp hy with rfl | hy
  · exact sz_str_of (by omega)
  · rw [List.mem_singleton.mp hy]
    rfl
theorem Bk.book {m : Mp Int} (h : Bk m) (hl : m.length ≤ 1000000) : F_is_book [.dat (bkD m)] = some (.bool true) := by
  rw [is_book _ (h.sz hl), h.is]
end Pu

set_option Elab.async false
set_option linter.all false
set_option autoImplicit false
set_option maxRecDepth 100000
set_option maxHeartbeats 1000000
namespace Pu
open PySem PySem.Spec PyProof.Rows L2
def B_sum_of : MirS :=
  (sSeq (sSet 1 (mC (.int 0)))
    (sSeq (sFor (iD (mVar 0)) (gN 2)
      (sSeq (sSet 3 (mC (.int 10)))
    (sSeq (sIf (m2 oNe (mVar 2) (mC (.str "\n")))
      (sSet 3 (mA oOrd (aCons (mVar 2) aNil)))
      sNil)
    (sSet 1 (m2 oMod (m2 oAdd (m2 oMul (mC (.int 31)) (mVar 1)) (mVar 3)) (mC (.int 9973)))))))
    (sRet (m2 oZfill (mA oStr (aCons (mVar 1) aNil)) (mC (.int 4))))))
def F_sum_of : MirF := runB 4 B_sum_of

def B_rows_of : MirS :=
  (sSeq (sAsg (mVar 0) (gT [1, 2, 3]))
    (sSeq (sOwn 4 (lLst (aCons (m2 oJoin (mC (.str " ")) (mLst (aCons (mC (.str "save")) (aCons (mA oStr (aCons (mVar 1) aNil)) (aCons (mA oStr (aCons (mVar 2) aNil)) (aCons (mA oStr (aCons (mA oLen (aCons (mVar 3) aNil)) aNil)) aNil)))))) aNil)))
    (sSeq (sExtend 4 (lLc [5, 6] (iD (mVar 3)) (gT [5, 6]) mYes (m2 oAdd (m2 oAdd (mVar 5) (mC (.str " "))) (mA oStr (aCons (mVar 6) aNil)))))
    (sRetOwn 4))))
def F_rows_of : MirF := runB 7 B_rows_of

def B_text_of : MirS :=
  (sRet (m2 oJoin (mC (.str "")) (mL (lLc [1] (iD (mVar 0)) (gN 1) mYes (m2 oAdd (mVar 1) (mC (.str "\n")))))))
def F_text_of : MirF := runB 2 B_text_of

def B_written : MirS :=
  (sSeq (sSet 1 (mCall (F_text_of) (xDat (mCall (F_rows_of) (xDat (mVar 0) xNil)) xNil)))
    (sRet (m2 oAdd (m2 oAdd (m2 oAdd (mVar 1) (mC (.str "end "))) (mCall (F_sum_of) (xDat (mVar 1) xNil))) (mC (.str "\n")))))
def F_written : MirF := runB 2 B_written

def B_law_sum : MirS :=
  (sSeq (sSet 1 (mC (.int 0)))
    (sSeq (sFor (iD (mVar 0)) (gN 2)
      (sSet 1 (m2 oMod (m2 oAdd (m2 oMul (mC (.int 31)) (mVar 1)) (m2 oIx (mLst (aCons (mA oOrd (aCons (mVar 2) aNil)) (aCons (mC (.int 10)) aNil))) (mA oInt (aCons (m2 oEq (mVar 2) (mC (.str "\n"))) aNil)))) (mC (.int 9973)))))
    (sRet (m2 oAdd (m2 oMul (mC (.str "0")) (m2 oSub (mC (.int 4)) (mA oLen (aCons (mA oStr (aCons (mVar 1) aNil)) aNil)))) (mA oStr (aCons (mVar 1) aNil))))))
def F_law_sum : MirF := runB 3 B_law_sum

def B_law_text : MirS :=
  (sSeq (sSet 1 (m2 oAdd (m2 oAdd (m2 oAdd (m2 oAdd (m2 oAdd (m2 oAdd (mC (.str "save ")) (mA oStr (aCons (m2 oIx (mVar 0) (mC (.int 0))) aNil))) (mC (.str " "))) (mA oStr (aCons (m2 oIx (mVar 0) (mC (.int 1))) aNil))) (mC (.str " "))) (mA oStr (aCons (mA oLen (aCons (m2 oIx (mVar 0) (mC (.int 2))) aNil)) aNil))) (mC (.str "\n"))))
    (sSeq (sFor (iD (m2 oIx (mVar 0) (mC (.int 2)))) (gT [2, 3])
      (sSet 1 (m2 oAdd (m2 oAdd (m2 oAdd (m2 oAdd (mVar 1) (mVar 2)) (mC (.str " "))) (mA oStr (aCons (mVar 3) aNil))) (mC (.str "\n")))))
    (sRet (m2 oAdd (m2 oAdd (m2 oAdd (mVar 1) (mC (.str "end "))) (mCall (F_law_sum) (xDat (mVar 1) xNil))) (mC (.str "\n"))))))
def F_law_text : MirF := runB 4 B_law_text

end Pu

set_option Elab.async false
set_option linter.all false
set_option autoImplicit false
set_option maxRecDepth 100000
/-! texts: sums -/
namespace Pu
open PySem PySem.Spec PyProof.Rows L2
open SX (S)
open TL (numL)
theorem sgn_S (c : Nat) : sgn c = S [c] := rfl
theorem nl_S : (Str.ofString "\n") = S [10] := by decide +kernel
theorem sp_S : (Str.ofString " ") = S [32] := by decide +kernel
theorem em_S : (Str.ofString "") = S [] := by decide +kernel
theorem end_S : (Str.ofString "end ") = S [101, 110, 100, 32] := by decide +kernel
theorem save_S : (Str.ofString "save") = S [115, 97, 118, 101] := by decide +kernel
theorem saves_S : (Str.ofString "save ") = S [115, 97, 118, 101, 32] := by decide +kernel
theorem zero_S : (Str.ofString "0") = S [48] := by decide +kernel
theorem S_eq {a b : List Nat} : (S a = S b) = (a = b) := propext ⟨SX.S_inj, fun h => by rw [h]⟩
theorem addSS {a b : List Nat} (h : a.length + b.length ≤ 16777216) : oAdd (.str (S a)) (.str (S b)) = some (.str (S (a ++ b))) := by
  rw [oAdd_s (by rw [SX.S_len, SX.S_len]; exact h), SX.S_cat]
theorem oStr_n {n : Nat} (h : n < 2 ^ 60) : oStr [.int n] = some (.str (S (numL n))) := by
  have hl : ((n : Int).natAbs.log2 < 1920) := by
    have : n.log2 < 60 ∨ n = 0 := by
      by_cases h0 : n = 0
      · exact .inr h0
      · exact .inl ((Nat.log2_lt h0).mpr h)
    rw [Int.natAbs_natCast]
    rcases this with h | h
    · omega
    · subst h
      decide
  show (if (n : Int).natAbs.log2 < 1920 then some (PyData.str (toString (n : Int))) else none) = _
  rw [if_pos hl]
  exact congrArg (fun x => some (PyData.str x)) (SX.num_S n)
theorem oStr_i {i : Int} (h0 : 0 ≤ i) (h : i < 1000000000000) : oStr [.int i] = some (.str (S (numL i.toNat))) := by
  obtain ⟨n, rfl⟩ := Int.eq_ofNat_of_zero_le h0
  rw [oStr_n (by omega)]
  rfl
theorem oOrd_S (c : Nat) : oOrd [.str (sgn c)] = some (.int c) := rfl
def stp (a c : Nat) : Nat := (31 * a + c) % 9973
def sumL (l : List Nat) : Nat := l.foldl stp 0
theorem stp_lt (a c : Nat) : stp a c < 9973 := Nat.mod_lt _ (by decide)
theorem foldl_lt : ∀ (l : List Nat) {a : Nat}, a < 9973 → l.foldl stp a < 9973
  | [], _, h => h
  | c :: l, a, _ => foldl_lt l (stp_lt a c)
theorem sumL_lt (l : List Nat) : sumL l < 9973 := foldl_lt l (by decide)
/-- four figures -/
def pad4 (n : Nat) : List Nat := List.replicate (4 - (numL n).length) 48 ++ numL n
def sum4 (l : List Nat) : List Nat := pad4 (sumL l)
theorem num4 {n : Nat} (h : n < 9973) : (numL n).length ≤ 4 := TL.numL_len (by decide) (by omega)
theorem pad4_len {n : Nat} (h : n < 9973) : (pad4 n).length = 4 := by
  have := num4 h
  unfold pad4
  rw [List.length_append, List.length_replicate]
  omega
theorem sum4_len (l : List Nat) : (sum4 l).length = 4 := pad4_len (sumL_lt l)
theorem zfill_is {n : Nat} (h : n < 9973) : Txt.zfill (S (numL n)) 4 = S (pad4 n) := by
  have h4 := num4 h
  unfold Txt.zfill
  by_cases hl : (numL n).length = 4
  · rw [if_pos (by rw [SX.S_len, hl]; decide)]
    unfold pad4
    rw [hl]
    rfl
  · rw [if_neg (by rw [SX.S_len]; omega)]
    have h0 : ∀ c r, numL n = c :: r → c ≠ 43 ∧ c ≠ 45 := fun c r e => by
      have := TL.numL_digits n c (by rw [e]; exact List.mem_cons_self)
      omega
    rw [SX.S_len]
    have hp : ∀ more, zfilled (S (numL n)) more = Builtin.Str.padded (S (numL n)) more 0 48 := fun more => by
      unfold zfilled
      have e0 : (S (numL n)).cps[0]? = (numL n)[0]? := by simp [S]
      rw [e0]
      cases hn : numL n with
      | nil => rfl
      | cons c r =>
        have := h0 c r hn
        rw [List.getElem?_cons_zero]
        split
        · rename_i e
          cases e
          exact absurd rfl this.1
        · rename_i e
          cases e
          exact absurd rfl this.2
        · rfl
    rw [hp]
    refine TL.ext_tl ?_
    show (Array.replicate _ 48 ++ (S (numL n)).cps ++ Array.replicate 0 48).toList = pad4 n
    unfold pad4
    simp [S]
theorem items_S (l : List Nat) : itemsD (.str (S l)) = some (l.map fun c => PyData.str (sgn c)) := rfl
theorem sum_loop : ∀ (l : List Nat) (a : Nat) (x y z : Sl), ∃ y' z', sLoop (gN 2) (sSeq (sSet 3 (mC (.int 10)))
    (sSeq (sIf (m2 oNe (mVar 2) (mC (.str "\n")))
      (sSet 3 (mA oOrd (aCons (mVar 2) aNil)))
      sNil)
    (sSet 1 (m2 oMod (m2 oAdd (m2 oMul (mC (.int 31)) (mVar 1)) (mVar 3)) (mC (.int 9973)))))) (l.map fun c => PyData.str (sgn c)) [x, .dat (.int a), y, z] = some (.nx [x, .dat (.int (l.foldl stp a : Nat)), y', z'])
  | [], a, x, y, z => ⟨y, z, rfl⟩
  | c :: l, a, x, y, z => by
    obtain ⟨y', z', e⟩ := sum_loop l (stp a c) x (.dat (.str (sgn c))) (.dat (.int c))
    refine ⟨y', z', ?_⟩
    rw [List.map_cons, v_loopS (ρ1 := [x, .dat (.int a), .dat (.str (sgn c)), z]) (ρ2 := [x, .dat (.int (stp a c : Nat)), .dat (.str (sgn c)), .dat (.int c)]) rfl ?_]
    · exact e
    · have hs : ((31 * (a : Int) + (c : Int)) % 9973) = ((stp a c : Nat) : Int) := by
        unfold stp
        omega
      by_cases h : c = 10
      · have : sgn c = Str.ofString "\n" := by rw [h, nl_S]; rfl
        have h' : (10 : Int) = (c : Int) := by omega
        simp (maxDischargeDepth := 10) (implicitDefEqProofs := false) [this, h', hs]
      · have : ¬ sgn c = Str.ofString "\n" := fun z => by
          rw [nl_S, sgn_S] at z
          exact h (List.cons.inj (SX.S_inj z)).1
        simp (maxDischargeDepth := 10) (implicitDefEqProofs := false) [this, oOrd_S, hs]
theorem sum_is (l : List Nat) : F_sum_of [.dat (.str (S l))] = some (.str (S (sum4 l))) := by
  obtain ⟨y, z, e⟩ := sum_loop l 0 (.dat (.str (S l))) .no .no
  refine run_rt ?_
  simp [B_sum_of, startR]
  rw [v_seqN (by rw [v_sFor]; exact e)]
  have h1 := oStr_n (n := l.foldl stp 0) (by have := sumL_lt l; unfold sumL at this; omega)
  have h2 : oZfill (.str (S (numL (l.foldl stp 0)))) (.int 4) = some (.str (S (sum4 l))) := by
    show (if PadOk 4 = true then some (PyData.str (Txt.zfill (S (numL (l.foldl stp 0))) 4)) else none) = _
    rw [if_pos (by decide), show l.foldl stp 0 = sumL l from rfl, zfill_is (sumL_lt l)]
    rfl
  simp [h1, h2]
theorem lsum_loop : ∀ (l : List Nat) (a : Nat) (x y : Sl), ∃ y', sLoop (gN 2) (sSet 1 (m2 oMod (m2 oAdd (m2 oMul (mC (.int 31)) (mVar 1)) (m2 oIx (mLst (aCons (mA oOrd (aCons (mVar 2) aNil)) (aCons (mC (.int 10)) aNil))) (mA oInt (aCons (m2 oEq (mVar 2) (mC (.str "\n"))) aNil)))) (mC (.int 9973)))) (l.map fun c => PyData.str (sgn c)) [x, .dat (.int a), y] = some (.nx [x, .dat (.int (l.foldl stp a : Nat)), y'])
  | [], a, x, y => ⟨y, rfl⟩
  | c :: l, a, x, y => by
    obtain ⟨y', e⟩ := lsum_loop l (stp a c) x (.dat (.str (sgn c)))
    refine ⟨y', ?_⟩
    rw [List.map_cons, v_loopS (ρ1 := [x, .dat (.int a), .dat (.str (sgn c))]) (ρ2 := [x, .dat (.int (stp a c : Nat)), .dat (.str (sgn c))]) rfl ?_]
    · exact e
    · have z2 : ∀ x : Bool, oInt [.bool x] = some (.int (if x = true then 1 else 0)) := fun x => by cases x <;> rfl
      have hs : ((31 * (a : Int) + (c : Int)) % 9973) = ((stp a c : Nat) : Int) := by
        unfold stp
        omega
      by_cases h : c = 10
      · have : sgn c = Str.ofString "\n" := by rw [h, nl_S]; rfl
        have h' : (10 : Int) = (c : Int) := by omega
        have ho : oOrd [.str "\n"] = some (.int c) := by rw [← this]; exact oOrd_S c
        simp (maxDischargeDepth := 10) (implicitDefEqProofs := false) [this, ho, h', hs, z2]
      · have : ¬ sgn c = Str.ofString "\n" := fun z => by
          rw [nl_S, sgn_S] at z
          exact h (List.cons.inj (SX.S_inj z)).1
        simp (maxDischargeDepth := 10) (implicitDefEqProofs := false) [this, oOrd_S, hs, z2]
theorem lsum_is (l : List Nat) : F_law_sum [.dat (.str (S l))] = some (.str (S (sum4 l))) := by
  obtain ⟨y, e⟩ := lsum_loop l 0 (.dat (.str (S l))) .no
  refine run_rt ?_
  simp [B_law_sum, startR]
  rw [v_seqN (by rw [v_sFor]; exact e)]
  have hlt := sumL_lt l
  have h4 := num4 hlt
  have h1 : oStr [.int (l.foldl stp 0 : Nat)] = some (.str (S (numL (sumL l)))) := oStr_n (n := l.foldl stp 0) (by unfold sumL at hlt; omega)
  have h2 : oLen [.str (S (numL (sumL l)))] = some (.int (numL (sumL l)).length) := by
    rw [oLen_s (by rw [SX.S_len]; omega), SX.S_len]
  have h3 : oMul (.str "0") (.int (4 - ((numL (sumL l)).length : Int))) = some (.str (S (List.replicate (4 - (numL (sumL l)).length) 48))) := by
    have hm : mulS (.str "0") (.int (4 - ((numL (sumL l)).length : Int))) = some (.str (Txt.mul "0" (4 - ((numL (sumL l)).length : Int)))) := if_pos ⟨by omega, by omega, by decide +kernel⟩
    have h0 : mulI (.str "0") (.int (4 - ((numL (sumL l)).length : Int))) = none := rfl
    unfold oMul
    rw [h0, hm, zero_S]
    show some (PyData.str _) = _
    congr 2
    refine TL.ext_tl ?_
    show (Txt.mul ⟨#[48]⟩ (4 - ((numL (sumL l)).length : Int))).cps.toList = List.replicate (4 - (numL (sumL l)).length) 48
    rw [PyProof.Rows.mul_one_list, show (4 - ((numL (sumL l)).length : Int)).toNat = 4 - (numL (sumL l)).length by omega]
  have h5 : oAdd (.str (S (List.replicate (4 - (numL (sumL l)).length) 48))) (.str (S (numL (sumL l)))) = some (.str (S (sum4 l))) := addSS (by rw [List.length_replicate]; omega)
  simp [h1, h2, h3, h5]
end Pu

set_option Elab.async false
set_option linter.all false
set_option autoImplicit false
set_option maxRecDepth 100000
/-! saves as texts -/
namespace Pu
open PySem PySem.Spec PyProof.Rows L2
open SX (S)
open TL (numL)
def rowL (p : Str × Int) : List Nat := p.1.cps.toList ++ (32 :: numL p.2.toNat)
def headL (n mk k : Nat) : List Nat := [115, 97, 118, 101] ++ ([32] ++ (numL n ++ ([32] ++ (numL mk ++ ([32] ++ numL k)))))
def rowsL (n mk : Nat) (b : Mp Int) : List (List Nat) := headL n mk b.length :: b.map rowL
def txL (rs : List (List Nat)) : List Nat := (rs.map (· ++ [10])).flatten
def endL (l : List Nat) : List Nat := [101, 110, 100, 32] ++ sum4 l
def bodyL (n mk : Nat) (b : Mp Int) : List Nat := txL (rowsL n mk b)
def wrL (n mk : Nat) (b : Mp Int) : List Nat := bodyL n mk b ++ (endL (bodyL n mk b) ++ [10])
def svD (n mk : Nat) (b : Mp Int) : D := .tuple [.int n, .int mk, bkD b]
/-- rows of texts as data -/
def rwD (rs : List (List Nat)) : List D := rs.map fun r => PyData.str (S r)
/-- small enough for texts -/
structure Sm (b : Mp Int) : Prop where
  len : b.length ≤ 1000
  each : ∀ p ∈ b, p.1.length ≤ 10 ∧ 0 ≤ p.2 ∧ p.2 < 1000000
theorem Bk.sm {b : Mp Int} (h : Bk b) (hl : b.length ≤ 1000) : Sm b := ⟨hl, fun p hp => by
  have := h.fb p.1 p.2 (val_of_mem h.rise.nd hp)
  have h2 := keyOk_len this.1
  omega⟩
theorem num6 {n : Nat} (h : n < 1000000) : (numL n).length ≤ 6 := TL.numL_len (by decide) (by omega)
theorem rowL_len {p : Str × Int} (h : p.1.length ≤ 10 ∧ 0 ≤ p.2 ∧ p.2 < 1000000) : (rowL p).length ≤ 17 := by
  have h1 := num6 (n := p.2.toNat) (by omega)
  have h2 : p.1.cps.toList.length ≤ 10 := h.1
  unfold rowL
  rw [List.length_append, List.length_cons]
  omega
theorem headL_len {n mk k : Nat} (h1 : n < 1000000) (h2 : mk < 1000000) (h3 : k < 1000000) : (headL n mk k).length ≤ 25 := by
  have a1 := num6 h1
  have a2 := num6 h2
  have a3 := num6 h3
  unfold headL
  simp only [List.length_append, List.length_cons, List.length_nil]
  omega
theorem txL_len : ∀ {rs : List (List Nat)} {m : Nat}, (∀ r ∈ rs, r.length ≤ m) → (txL rs).length ≤ rs.length * (m + 1)
  | [], _, _ => Nat.zero_le _
  | r :: rs, m, h => by
    have ih := txL_len (rs := rs) fun x hx => h x (List.mem_cons_of_mem _ hx)
    have h1 := h r List.mem_cons_self
    show ((r ++ [10]) ++ txL rs).length ≤ _
    rw [show (r :: rs).length = rs.length + 1 from rfl, Nat.add_mul, List.length_append, List.length_append]
    simp only [List.length_cons, List.length_nil]
    omega
theorem rowsL_each {n mk : Nat} {b : Mp Int} (h1 : n < 1000000) (h2 : mk < 1000000) (hb : Sm b) : ∀ r ∈ rowsL n mk b, r.length ≤ 25 := fun r hr => by
  rcases List.mem_cons.mp hr with rfl | hr
  · exact headL_len h1 h2 (by have := hb.len; omega)
  · obtain ⟨p, hp, rfl⟩ := List.mem_map.mp hr
    have := rowL_len (hb.each p hp)
    omega
theorem rowsL_len {n mk : Nat} {b : Mp Int} : (rowsL n mk b).length = b.length + 1 := by
  unfold rowsL
  rw [List.length_cons, List.length_map]
theorem bodyL_len {n mk : Nat} {b : Mp Int} (h1 : n < 1000000) (h2 : mk < 1000000) (hb : Sm b) : (bodyL n mk b).length ≤ 26026 := by
  have := txL_len (rowsL_each h1 h2 hb)
  have hl := hb.len
  rw [rowsL_len] at this
  unfold bodyL
  omega
theorem sumlen_le : ∀ {rs : List (List Nat)} {m : Nat}, (∀ r ∈ rs, r.length ≤ m) → ((rs.map S).map (·.length)).sum ≤ rs.length * m
  | [], _, _ => Nat.zero_le _
  | r :: rs, m, h => by
    have ih := sumlen_le (rs := rs) fun x hx => h x (List.mem_cons_of_mem _ hx)
    have h1 := h r List.mem_cons_self
    rw [List.map_cons, List.map_cons, List.sum_cons, List.length_cons, Nat.add_mul, SX.S_len]
    omega
theorem joinSS {a : List Nat} {rs : List (List Nat)} {m : Nat} (h : ∀ r ∈ rs, r.length ≤ m) (hl : rs.length * m + rs.length * a.length ≤ 16777216) : oJoin (.str (S a)) (.list (rwD rs)) = some (.str (S (TL.joinL a rs))) := by
  have e : rwD rs = (rs.map S).map PyData.str := by unfold rwD; rw [List.map_map]; rfl
  have hs := sumlen_le h
  show ((allD strD (rwD rs)).bind fun zs => if (zs.map (·.length)).sum + zs.length * (S a).length ≤ 16777216 then some (PyData.str (Txt.join (S a) zs)) else none) = _
  rw [e, allD_map (f := strD) (g := PyData.str) (fun _ => rfl)]
  show (if _ then _ else _) = _
  rw [if_pos (by rw [List.length_map, SX.S_len]; omega), SX.join_S]
theorem joinL_nil : ∀ rs : List (List Nat), TL.joinL [] rs = rs.flatten
  | [] => rfl
  | [p] => by simp [TL.joinL]
  | p :: q :: r => by
    rw [TL.joinL, joinL_nil (q :: r)]
    simp
theorem text_of_is {rs : List (List Nat)} {m : Nat} (h : ∀ r ∈ rs, r.length ≤ m) (hl : rs.length * (m + 1) ≤ 16777215) : F_text_of [.dat (.list (rwD rs))] = some (.str (S (txL rs))) := by
  have hlen : rs.length < 16777216 := by
    have : rs.length * 1 ≤ rs.length * (m + 1) := Nat.mul_le_mul_left _ (by omega)
    omega
  have hm : ∀ r ∈ rs, m ≤ 16777214 := fun r hr => by
    have hp : 1 ≤ rs.length := List.length_pos_of_mem hr
    have : 1 * (m + 1) ≤ rs.length * (m + 1) := Nat.mul_le_mul_right _ hp
    omega
  have hlc := v_listLc (ρ := [.dat (.list (rwD rs)), .no]) (vs := [1]) (fi := iD (mVar 0)) (m := gN 1) (tt := mYes) (te := m2 oAdd (mVar 1) (mC (.str "\n"))) (ds := rwD rs) rfl (by unfold rwD; rw [List.length_map]; exact hlen)
    (lc_mapT (fun r => PyData.str (S r)) (fun r => PyData.str (S (r ++ [10]))) rs fun r hr => ⟨_, rfl, by
      have := h r hr
      have h2 := hm r hr
      rw [v_m2, v_C, nl_S]
      simp only [v_varS, v_var0, v_wipeS, v_wipe0, List.set_cons_succ, List.set_cons_zero, Option.bind_some]
      exact addSS (by simp only [List.length_cons, List.length_nil]; omega)⟩)
  have hj := joinSS (a := []) (rs := rs.map (· ++ [10])) (m := m + 1) (fun r hr => by
    obtain ⟨x, hx, rfl⟩ := List.mem_map.mp hr
    have := h x hx
    rw [List.length_append]
    simp only [List.length_cons, List.length_nil]
    omega) (by rw [List.length_map]; simp only [List.length_nil]; omega)
  have e : rwD (rs.map (· ++ [10])) = rs.map fun r => PyData.str (S (r ++ [10])) := by unfold rwD; rw [List.map_map]; rfl
  rw [e, joinL_nil] at hj
  refine run_rt ?_
  simp only [B_text_of, startR]
  show Option.map Out.rt ((mC (.str "") _).bind fun x => (mL _ [.dat (.list (rwD rs)), .no]).bind fun y => oJoin x y) = _
  rw [hlc]
  simp only [v_C, Option.bind_some, em_S, hj]
  rfl
theorem rows_of_is {n mk : Nat} {b : Mp Int} (h1 : n < 1000000) (h2 : mk < 1000000) (hb : Sm b) : F_rows_of [.dat (svD n mk b)] = some (.list (rwD (rowsL n mk b))) := by
  have hl := hb.len
  have s1 := oStr_n (n := n) (by omega)
  have s2 := oStr_n (n := mk) (by omega)
  have s3 := oStr_n (n := b.length) (by omega)
  have hlb : oLen [bkD b] = some (.int b.length) := by simp [bkD, itM_len]
  have hj := joinSS (a := [32]) (rs := [[115, 97, 118, 101], numL n, numL mk, numL b.length]) (m := 6) (fun r hr => by
    simp only [List.mem_cons, List.not_mem_nil, or_false] at hr
    rcases hr with rfl | rfl | rfl | rfl
    · decide
    · exact num6 h1
    · exact num6 h2
    · exact num6 (by omega)) (by simp)
  have hj' : oJoin (.str " ") (.list [.str "save", .str (S (numL n)), .str (S (numL mk)), .str (S (numL b.length))]) = some (.str (S (headL n mk b.length))) := by
    rw [sp_S, save_S]
    exact hj
  have hex : ∀ ρ, mVar 3 ρ = some (bkD b) → ρ.length = 7 → lLc [5, 6] (iD (mVar 3)) (gT [5, 6]) mYes (m2 oAdd (m2 oAdd (mVar 5) (mC (.str " "))) (mA oStr (aCons (mVar 6) aNil))) ρ = some (rwD (b.map rowL)) := fun ρ h3 hr => by
    rw [v_lLc, v_iD, h3]
    show (if (itM .int b).length < sizeLine then _ else _) = _
    rw [if_pos (show (itM .int b).length < sizeLine by rw [itM_len, sizeLine_is]; omega)]
    have e : rwD (b.map rowL) = b.map fun p => PyData.str (S (rowL p)) := by unfold rwD; rw [List.map_map]; rfl
    rw [e]
    refine lc_mapT (prD .int) _ b fun p hp => ⟨_, rfl, ?_⟩
    have hp' := hb.each p hp
    have hs := oStr_i hp'.2.1 (by omega : p.2 < 1000000000000)
    match ρ, hr with
    | [a0, a1, a2, a3, a4, a5, a6], _ =>
      simp only [v_m2, v_wipeS, v_wipe0, List.set_cons_succ, List.set_cons_zero, v_varS, v_var0, v_C, Option.bind_some, v_mA, v_aCons, v_aNil, hs]
      have hk : p.1 = S p.1.cps.toList := (SX.S_tl p.1).symm
      have hkl : p.1.cps.toList.length ≤ 10 := hp'.1
      have hn6 := num6 (n := p.2.toNat) (by omega)
      rw [hk, sp_S, addSS (by simp only [List.length_cons, List.length_nil]; omega)]
      simp only [Option.bind_some]
      rw [addSS (by rw [List.length_append]; simp only [List.length_cons, List.length_nil]; omega)]
      unfold rowL
      simp
  refine run_rt ?_
  have hll : 1 + (rwD (b.map rowL)).length ≤ 16777216 := by
    unfold rwD
    rw [List.length_map, List.length_map]
    omega
  have hx := hex [.dat (svD n mk b), .dat (.int n), .dat (.int mk), .dat (bkD b), .own [.str (S (headL n mk b.length))], .no, .no] rfl rfl
  simp (maxDischargeDepth := 10) (implicitDefEqProofs := false) [B_rows_of, startR, svD, s1, s2, s3, hlb, hj', sOwn]
  rw [show [Sl.dat (PyData.tuple [PyData.int (n : Int), PyData.int (mk : Int), bkD b]), .dat (.int n), .dat (.int mk), .dat (bkD b), .own [.str (S (headL n mk b.length))], .no, .no] = [.dat (svD n mk b), .dat (.int n), .dat (.int mk), .dat (bkD b), .own [.str (S (headL n mk b.length))], .no, .no] from rfl]
  rw [v_seqN (ρ' := [.dat (svD n mk b), .dat (.int n), .dat (.int mk), .dat (bkD b), .own (.str (S (headL n mk b.length)) :: rwD (b.map rowL)), .no, .no]) ?_]
  · rfl
  · unfold sExtend
    rw [hx]
    show (if [PyData.str (S (headL n mk b.length))].length + (rwD (b.map rowL)).length ≤ sizeLine then _ else _) = _
    exact if_pos (show _ ≤ sizeLine from hll)
theorem written_is {n mk : Nat} {b : Mp Int} (h1 : n < 1000000) (h2 : mk < 1000000) (hb : Sm b) : F_written [.dat (svD n mk b)] = some (.str (S (wrL n mk b))) := by
  have hr := rows_of_is h1 h2 hb
  have hl := hb.len
  have ht := text_of_is (rowsL_each h1 h2 hb) (by rw [rowsL_len]; omega)
  have hs := sum_is (bodyL n mk b)
  have hbl := bodyL_len h1 h2 hb
  have a1 : oAdd (.str (S (bodyL n mk b))) (.str "end ") = some (.str (S (bodyL n mk b ++ [101, 110, 100, 32]))) := by
    rw [end_S, addSS (by simp only [List.length_cons, List.length_nil]; omega)]
  have a2 : oAdd (.str (S (bodyL n mk b ++ [101, 110, 100, 32]))) (.str (S (sum4 (bodyL n mk b)))) = some (.str (S (bodyL n mk b ++ [101, 110, 100, 32] ++ sum4 (bodyL n mk b)))) :=
    addSS (by rw [List.length_append, sum4_len]; simp only [List.length_cons, List.length_nil]; omega)
  have a3 : oAdd (.str (S (bodyL n mk b ++ [101, 110, 100, 32] ++ sum4 (bodyL n mk b)))) (.str "\n") = some (.str (S (wrL n mk b))) := by
    rw [nl_S, addSS (by rw [List.length_append, List.length_append, sum4_len]; simp only [List.length_cons, List.length_nil]; omega)]
    unfold wrL endL
    simp
  refine run_rt ?_
  simp [B_written, startR, hr, ht]
  rw [show txL (rowsL n mk b) = bodyL n mk b from rfl]
  simp [a1, hs, a2]
  rw [show bodyL n mk b ++ 101 :: 110 :: 100 :: 32 :: sum4 (bodyL n mk b) = bodyL n mk b ++ [101, 110, 100, 32] ++ sum4 (bodyL n mk b) by simp]
  exact a3
end Pu

set_option Elab.async false
set_option linter.all false
set_option autoImplicit false
set_option maxRecDepth 100000
/-! the law's own texts; rows of a text -/
namespace Pu
open PySem PySem.Spec PyProof.Rows L2
open SX (S)
open TL (numL)
theorem ltext_loop (b0 : Mp Int) : ∀ (b : Mp Int) (l : List Nat) (x y z : Sl), (∀ p ∈ b, p.1.length ≤ 10 ∧ 0 ≤ p.2 ∧ p.2 < 1000000) → l.length + 18 * b.length ≤ 1000000 →
    ∃ y' z', sLoop (gT [2, 3]) (sSet 1 (m2 oAdd (m2 oAdd (m2 oAdd (m2 oAdd (mVar 1) (mVar 2)) (mC (.str " "))) (mA oStr (aCons (mVar 3) aNil))) (mC (.str "\n")))) (itM .int b) [x, .dat (.str (S l)), y, z] = some (.nx [x, .dat (.str (S (l ++ txL (b.map rowL)))), y', z'])
  | [], l, x, y, z, _, _ => ⟨y, z, by simp [itM, txL]⟩
  | p :: b, l, x, y, z, h, hl => by
    rw [List.length_cons] at hl
    have hp := h p List.mem_cons_self
    have hrow := rowL_len hp
    have hn6 := num6 (n := p.2.toNat) (by omega)
    have hkl : p.1.cps.toList.length ≤ 10 := hp.1
    obtain ⟨y', z', e⟩ := ltext_loop b0 b (l ++ (rowL p ++ [10])) x (.dat (.str p.1)) (.dat (.int p.2)) (fun q hq => h q (List.mem_cons_of_mem _ hq)) (by rw [List.length_append, List.length_append]; simp only [List.length_cons, List.length_nil]; omega)
    refine ⟨y', z', ?_⟩
    have hs := oStr_i hp.2.1 (by omega : p.2 < 1000000000000)
    have hk : PyData.str p.1 = PyData.str (S p.1.cps.toList) := by rw [SX.S_tl]
    have a1 : oAdd (.str (S l)) (.str p.1) = some (.str (S (l ++ p.1.cps.toList))) := by
      rw [hk]
      exact addSS (by omega)
    have a2 : oAdd (.str (S (l ++ p.1.cps.toList))) (.str " ") = some (.str (S (l ++ p.1.cps.toList ++ [32]))) := by
      rw [sp_S]
      exact addSS (by rw [List.length_append]; simp only [List.length_cons, List.length_nil]; omega)
    have a3 : oAdd (.str (S (l ++ p.1.cps.toList ++ [32]))) (.str (S (numL p.2.toNat))) = some (.str (S (l ++ p.1.cps.toList ++ [32] ++ numL p.2.toNat))) :=
      addSS (by rw [List.length_append, List.length_append]; simp only [List.length_cons, List.length_nil]; omega)
    have a4 : oAdd (.str (S (l ++ p.1.cps.toList ++ [32] ++ numL p.2.toNat))) (.str "\n") = some (.str (S (l ++ (rowL p ++ [10])))) := by
      rw [nl_S, addSS (by rw [List.length_append, List.length_append, List.length_append]; simp only [List.length_cons, List.length_nil]; omega)]
      unfold rowL
      simp
    show sLoop _ _ (prD .int p :: itM .int b) _ = _
    rw [v_loopS (ρ1 := [x, .dat (.str (S l)), .dat (.str p.1), .dat (.int p.2)]) (ρ2 := [x, .dat (.str (S (l ++ (rowL p ++ [10])))), .dat (.str p.1), .dat (.int p.2)]) rfl ?_, e]
    · show some (Out.nx [x, .dat (.str (S (l ++ (rowL p ++ [10]) ++ txL (b.map rowL)))), y', z']) = some (Out.nx [x, .dat (.str (S (l ++ ((rowL p ++ [10]) ++ txL (b.map rowL))))), y', z'])
      rw [List.append_assoc]
    · simp only [v_sSet, v_m2, v_varS, v_var0, v_C, v_mA, v_aCons, v_aNil, Option.bind_some, a1, a2, a3, a4, hs, Option.map_some]
      rfl
theorem ltext_is {n mk : Nat} {b : Mp Int} (h1 : n < 1000000) (h2 : mk < 1000000) (hb : Sm b) : F_law_text [.dat (svD n mk b)] = some (.str (S (wrL n mk b))) := by
  have hl := hb.len
  have s1 := oStr_n (n := n) (by omega)
  have s2 := oStr_n (n := mk) (by omega)
  have s3 := oStr_n (n := b.length) (by omega)
  have n1 := num6 h1
  have n2 := num6 h2
  have n3 := num6 (n := b.length) (by omega)
  have hlb : oLen [bkD b] = some (.int b.length) := by simp [bkD, itM_len]
  have hbl := bodyL_len h1 h2 hb
  have hs := lsum_is (bodyL n mk b)
  have c1 : oAdd (.str "save ") (.str (S (numL n))) = some (.str (S ([115, 97, 118, 101, 32] ++ numL n))) := by
    rw [saves_S]
    exact addSS (by simp only [List.length_cons, List.length_nil]; omega)
  have c2 : oAdd (.str (S ([115, 97, 118, 101, 32] ++ numL n))) (.str " ") = some (.str (S ([115, 97, 118, 101, 32] ++ numL n ++ [32]))) := by
    rw [sp_S]
    exact addSS (by rw [List.length_append]; simp only [List.length_cons, List.length_nil]; omega)
  have c3 : oAdd (.str (S ([115, 97, 118, 101, 32] ++ numL n ++ [32]))) (.str (S (numL mk))) = some (.str (S ([115, 97, 118, 101, 32] ++ numL n ++ [32] ++ numL mk))) :=
    addSS (by rw [List.length_append, List.length_append]; simp only [List.length_cons, List.length_nil]; omega)
  have c4 : oAdd (.str (S ([115, 97, 118, 101, 32] ++ numL n ++ [32] ++ numL mk))) (.str " ") = some (.str (S ([115, 97, 118, 101, 32] ++ numL n ++ [32] ++ numL mk ++ [32]))) := by
    rw [sp_S]
    exact addSS (by rw [List.length_append, List.length_append, List.length_append]; simp only [List.length_cons, List.length_nil]; omega)
  have c5 : oAdd (.str (S ([115, 97, 118, 101, 32] ++ numL n ++ [32] ++ numL mk ++ [32]))) (.str (S (numL b.length))) = some (.str (S (headL n mk b.length))) := by
    rw [addSS (by rw [List.length_append, List.length_append, List.length_append, List.length_append]; simp only [List.length_cons, List.length_nil]; omega)]
    unfold headL
    simp
  have hhl := headL_len (n := n) (mk := mk) (k := b.length) h1 h2 (by omega)
  have c6 : oAdd (.str (S (headL n mk b.length))) (.str "\n") = some (.str (S (headL n mk b.length ++ [10]))) := by
    rw [nl_S]
    exact addSS (by simp only [List.length_cons, List.length_nil]; omega)
  obtain ⟨y, z, e⟩ := ltext_loop b b (headL n mk b.length ++ [10]) (.dat (svD n mk b)) .no .no hb.each (by rw [List.length_append]; simp only [List.length_cons, List.length_nil]; omega)
  have hbd : headL n mk b.length ++ [10] ++ txL (b.map rowL) = bodyL n mk b := rfl
  rw [hbd] at e
  have a1 : oAdd (.str (S (bodyL n mk b))) (.str "end ") = some (.str (S (bodyL n mk b ++ [101, 110, 100, 32]))) := by
    rw [end_S, addSS (by simp only [List.length_cons, List.length_nil]; omega)]
  have a2 : oAdd (.str (S (bodyL n mk b ++ [101, 110, 100, 32]))) (.str (S (sum4 (bodyL n mk b)))) = some (.str (S (bodyL n mk b ++ [101, 110, 100, 32] ++ sum4 (bodyL n mk b)))) :=
    addSS (by rw [List.length_append, sum4_len]; simp only [List.length_cons, List.length_nil]; omega)
  have a3 : oAdd (.str (S (bodyL n mk b ++ [101, 110, 100, 32] ++ sum4 (bodyL n mk b)))) (.str "\n") = some (.str (S (wrL n mk b))) := by
    rw [nl_S, addSS (by rw [List.length_append, List.length_append, sum4_len]; simp only [List.length_cons, List.length_nil]; omega)]
    unfold wrL endL
    simp
  refine run_rt ?_
  rw [B_law_text, v_seqN (ρ' := [.dat (svD n mk b), .dat (.str (S (headL n mk b.length ++ [10]))), .no, .no]) ?_, v_seqN (ρ' := [.dat (svD n mk b), .dat (.str (S (bodyL n mk b))), y, z]) ?_]
  · simp only [v_sRet, v_m2, v_varS, v_var0, v_C, v_call, v_xDat, v_xNil, Option.bind_some, a1, hs, a2, a3]
    rfl
  · rw [v_sFor]
    exact e
  · have i0 : m2 oIx (mVar 0) (mC (.int 0)) (startR 4 [.dat (svD n mk b)]) = some (.int n) := rfl
    have i1 : m2 oIx (mVar 0) (mC (.int 1)) (startR 4 [.dat (svD n mk b)]) = some (.int mk) := rfl
    have i2 : m2 oIx (mVar 0) (mC (.int 2)) (startR 4 [.dat (svD n mk b)]) = some (bkD b) := rfl
    rw [v_sSet]
    rw [v_m2, v_m2, v_m2, v_m2, v_m2, v_m2, v_mA, v_aCons, i0, v_mA, v_aCons, i1, v_mA, v_aCons, v_mA, v_aCons, i2]
    simp only [v_C, v_aNil, Option.bind_some, s1, c1, c2, s2, c3, c4, hlb, s3, c5, c6, Option.map_some]
    rfl
/-! rows of a text -/
theorem spl_tx : ∀ {rs : List (List Nat)} (last : List Nat), (∀ r ∈ rs, 10 ∉ r) → 10 ∉ last → TL.spl [10] 0 [] (txL rs ++ last) = rs ++ [last]
  | [], last, _, h => by
    show TL.spl [10] 0 [] last = [last]
    rw [TL.spl_last1 h, List.nil_append]
  | r :: rs, last, hr, h => by
    have e : txL (r :: rs) ++ last = r ++ ([10] ++ (txL rs ++ last)) := by
      show ((r ++ [10]) ++ txL rs) ++ last = _
      simp
    rw [e, TL.spl_part1 (hr r List.mem_cons_self), List.nil_append, spl_tx last (fun x hx => hr x (List.mem_cons_of_mem _ hx)) h]
    rfl
theorem splitN {l : List Nat} (h : l.length + 2 ≤ 16777216) : oSplit (.str (S l)) (.str "\n") = some (.list (rwD (TL.spl [10] 0 [] l))) := by
  show (if ((Str.ofString "\n").length == 0) = false ∧ (S l).length + 2 ≤ sizeLine then some (PyData.list ((Txt.split (S l) (Str.ofString "\n")).map PyData.str)) else none) = _
  rw [if_pos ⟨by decide +kernel, by rw [SX.S_len]; exact h⟩, nl_S, SX.split_S (by simp) (by decide), List.map_map]
  rfl
theorem splitB {l : List Nat} (h : l.length + 2 ≤ 16777216) : oSplit (.str (S l)) (.str " ") = some (.list (rwD (TL.spl [32] 0 [] l))) := by
  show (if ((Str.ofString " ").length == 0) = false ∧ (S l).length + 2 ≤ sizeLine then some (PyData.list ((Txt.split (S l) (Str.ofString " ")).map PyData.str)) else none) = _
  rw [if_pos ⟨by decide +kernel, by rw [SX.S_len]; exact h⟩, sp_S, SX.split_S (by simp) (by decide), List.map_map]
  rfl
theorem num_free (n c : Nat) (h : c < 48 ∨ 57 < c) : c ∉ numL n := TL.numL_free h
theorem pad_digits {n : Nat} : ∀ c ∈ pad4 n, 48 ≤ c ∧ c ≤ 57 := fun c hc => by
  unfold pad4 at hc
  rcases List.mem_append.mp hc with h | h
  · rw [List.eq_of_mem_replicate h]
    decide
  · exact TL.numL_digits n c h
theorem letters_in {c : Nat} (h : c ∈ letters.cps.toList) : 97 ≤ c ∧ c ≤ 122 := by
  have : ∀ c ∈ letters.cps.toList, 97 ≤ c ∧ c ≤ 122 := by decide +kernel
  exact this c h
theorem letters_of {c : Nat} (h : 97 ≤ c ∧ c ≤ 122) : c ∈ letters.cps.toList := by
  have : ∀ c : Nat, c < 26 → 97 + c ∈ letters.cps.toList := by decide +kernel
  have := this (c - 97) (by omega)
  rwa [show 97 + (c - 97) = c by omega] at this
theorem keyOk_in {s : Str} (h : keyOk s = true) : ∀ c ∈ s.cps.toList, 97 ≤ c ∧ c ≤ 122 := fun c hc => by
  unfold keyOk at h
  rw [Bool.and_eq_true, List.all_eq_true] at h
  exact letters_in (of_decide_eq_true (h.2 c hc))
theorem row_free {p : Str × Int} (h : keyOk p.1 = true) : 10 ∉ rowL p := fun hc => by
  unfold rowL at hc
  rcases List.mem_append.mp hc with hc | hc
  · have := keyOk_in h _ hc
    omega
  · rcases List.mem_cons.mp hc with hc | hc
    · omega
    · exact num_free _ _ (by omega) hc
theorem head_free (n mk k : Nat) : 10 ∉ headL n mk k := fun hc => by
  unfold headL at hc
  simp only [List.mem_append, List.mem_cons, List.not_mem_nil, or_false] at hc
  have h1 := num_free n 10 (by omega)
  have h2 := num_free mk 10 (by omega)
  have h3 := num_free k 10 (by omega)
  rcases hc with h | h | h | h | h | h | h
  · omega
  · omega
  · exact h1 h
  · omega
  · exact h2 h
  · omega
  · exact h3 h
theorem end_free (l : List Nat) : 10 ∉ endL l := fun hc => by
  unfold endL sum4 at hc
  rcases List.mem_append.mp hc with h | h
  · revert h
    decide
  · have := pad_digits _ h
    omega
theorem rows_free {n mk : Nat} {b : Mp Int} (hb : ∀ p ∈ b, keyOk p.1 = true) : ∀ r ∈ rowsL n mk b, 10 ∉ r := fun r hr => by
  rcases List.mem_cons.mp hr with rfl | hr
  · exact head_free _ _ _
  · obtain ⟨p, hp, rfl⟩ := List.mem_map.mp hr
    exact row_free (hb p hp)
/-- the rows of a save's text -/
theorem spl_wr {n mk : Nat} {b : Mp Int} (hb : ∀ p ∈ b, keyOk p.1 = true) : TL.spl [10] 0 [] (wrL n mk b) = rowsL n mk b ++ [endL (bodyL n mk b), []] := by
  have e : wrL n mk b = txL (rowsL n mk b ++ [endL (bodyL n mk b)]) ++ [] := by
    unfold wrL txL bodyL txL
    simp
  rw [e, spl_tx [] (fun r hr => (List.mem_append.mp hr).elim (rows_free hb r) fun h => by rw [List.mem_singleton.mp h]; exact end_free _) (by simp), List.append_assoc]
  rfl
theorem wrL_len {n mk : Nat} {b : Mp Int} (h1 : n < 1000000) (h2 : mk < 1000000) (hb : Sm b) : (wrL n mk b).length ≤ 26100 := by
  have := bodyL_len h1 h2 hb
  unfold wrL endL
  rw [List.length_append, List.length_append, List.length_append, sum4_len]
  simp only [List.length_cons, List.length_nil]
  omega
theorem Bk.keys {b : Mp Int} (h : Bk b) : ∀ p ∈ b, keyOk p.1 = true := fun p hp => (h.fb p.1 p.2 (val_of_mem h.rise.nd hp)).1
end Pu

set_option Elab.async false
set_option linter.all false
set_option autoImplicit false
set_option maxRecDepth 100000
set_option maxHeartbeats 1000000
namespace Pu
open PySem PySem.Spec PyProof.Rows L2
def B_step_done : MirS :=
  (sSeq (sAsg (mSl (mVar 1) oNone (oSome (mC (.int 2)))) (gT [2, 3]))
    (sIf (m2 oEq (mVar 2) (mC (.str "begin")))
      (sMPut 0 (mVar 3) (mC (.str "")))
      (sIf (m2 oEq (mVar 2) (mC (.str "drop")))
      (sMPop2 0 (mVar 3) (mC .none))
      (sIf (mDIn false (mVar 3) (dVar 0))
      (sIf (m2 oEq (mVar 2) (mC (.str "put")))
      (sMPut 0 (mVar 3) (m2 oAdd (mDGet (dVar 0) (mVar 3)) (m2 oIx (mVar 1) (mC (.int 2)))))
      (sSeq (sMPop1 4 0 (mVar 3))
    (sMPut 0 (m2 oIx (mVar 1) (mC (.int 2))) (mVar 4))))
      sNil))))
def U_step_done : MirU := runM 5 B_step_done

def B_done : MirS :=
  (sSeq (sDic 2 (dPairs (mVar 0)))
    (sSeq (sFor (iD (mVar 1)) (gN 3)
      (sMut 2 1 U_step_done (aCons (mVar 3) aNil)))
    (sRet (mA oTuple (aCons (mSItems (dVar 2)) aNil)))))
def F_done : MirF := runB 4 B_done

def B_name_of : MirS :=
  (sRet (m2 oAdd (mC (.str "s")) (mA oStr (aCons (mVar 0) aNil))))
def F_name_of : MirF := runB 1 B_name_of

def B_number_of : MirS :=
  (sSeq (sSet 1 (mSl (mVar 0) (oSome (mC (.int 1))) oNone))
    (sSeq (sIf (mOr (m1 oNot (mCh oLe oLe (mC (.int 1)) (mA oLen (aCons (mVar 1) aNil)) (mC (.int 4)))) (m1 oNot (mA oAll (aCons (mL (lLc [3] (iD (mVar 1)) (gN 3) mYes (m2 oIn (mVar 3) (mC (.str "0123456789"))))) aNil))))
      (sRet (mC (.int 0)))
      sNil)
    (sSeq (sSet 2 (mA oInt (aCons (mVar 1) aNil)))
    (sSeq (sIf (mOr (m2 oNe (mCall (F_name_of) (xDat (mVar 2) xNil)) (mVar 0)) (m2 oGt (mVar 2) (mC (.int 9999))))
      (sRet (mC (.int 0)))
      sNil)
    (sRet (mVar 2))))))
def F_number_of : MirF := runB 4 B_number_of

def B_numbers_on : MirS :=
  (sRet (mA oSorted (aCons (mL (lLc [1, 2] (iD (mVar 0)) (gT [1, 2]) (m2 oGt (mCall (F_number_of) (xDat (mVar 1) xNil)) (mC (.int 0))) (mCall (F_number_of) (xDat (mVar 1) xNil)))) aNil)))
def F_numbers_on : MirF := runB 3 B_numbers_on

def B_steps_for : MirS :=
  (sSeq (sOwn 3 (lLst (aCons (mTup (aCons (mC (.str "begin")) (aCons (mC (.str "new")) aNil))) aNil)))
    (sSeq (sExtend 3 (lLc [6] (iD (mSl (m2 oSplit (mCall (F_written) (xDat (mVar 1) xNil)) (mC (.str "\n"))) oNone (oSome (m1 oNeg (mC (.int 1)))))) (gN 6) mYes (mTup (aCons (mC (.str "put")) (aCons (mC (.str "new")) (aCons (m2 oAdd (mVar 6) (mC (.str "\n"))) aNil))))))
    (sSeq (sAppend 3 (mTup (aCons (mC (.str "move")) (aCons (mC (.str "new")) (aCons (mCall (F_name_of) (xDat (m2 oIx (mVar 1) (mC (.int 0))) xNil)) aNil)))))
    (sSeq (sSet 4 (m1 oSSet (m2 oAdd (mCall (F_numbers_on) (xDat (mVar 0) xNil)) (mLst (aCons (m2 oIx (mVar 1) (mC (.int 0))) aNil)))))
    (sSeq (sSet 5 (mSl (mVar 4) oNone (oSome (mA oMax2 (aCons (mC (.int 0)) (aCons (m2 oSub (mA oLen (aCons (mVar 4) aNil)) (mVar 2)) aNil))))))
    (sSeq (sExtend 3 (lLc [7] (iD (mVar 5)) (gN 7) mYes (mTup (aCons (mC (.str "drop")) (aCons (mCall (F_name_of) (xDat (mVar 7) xNil)) aNil)))))
    (sRet (mTupOwn 3))))))))
def F_steps_for : MirF := runB 8 B_steps_for

def B_law_disk : MirS :=
  (sSeq (sDic 1 dNil)
    (sSeq (sFor (iR1 (aCons (m2 oMod (mVar 0) (mC (.int 7))) aNil)) (gN 2)
      (sSeq (sSet 3 (m2 oDiv (mCall (F_law_drawn) (xDat (mVar 0) (xDat (m2 oAdd (mC (.int 90)) (mVar 2)) xNil))) (mC (.int 4))))
    (sSeq (sSet 4 (mTup (aCons (m2 oAdd (mC (.int 1)) (m2 oMod (mVar 3) (m2 oIx (mTup (aCons (mC (.int 12)) (aCons (mC (.int 9999)) aNil))) (m2 oDiv (m2 oMod (m2 oDiv (mVar 3) (mC (.int 16))) (mC (.int 8))) (mC (.int 7)))))) (aCons (m2 oAdd (mC (.int 1)) (m2 oMod (m2 oDiv (mVar 3) (mC (.int 256))) (mC (.int 4)))) (aCons (mCall (F_law_book) (xDat (m2 oDiv (mVar 3) (mC (.int 1024))) xNil)) aNil)))))
    (sSeq (sSet 5 (mCall (F_law_text) (xDat (mVar 4) xNil)))
    (sSeq (sIf (m2 oEq (m2 oMod (m2 oDiv (mVar 3) (mC (.int 64))) (mC (.int 4))) (mC (.int 1)))
      (sSet 5 (mSl (mVar 5) oNone (oSome (m2 oMod (m2 oDiv (mVar 3) (mC (.int 512))) (mA oLen (aCons (mVar 5) aNil))))))
      sNil)
    (sSeq (sSet 6 (m2 oAdd (mC (.str "s")) (mA oStr (aCons (m2 oIx (mVar 4) (mC (.int 0))) aNil))))
    (sSeq (sIf (m2 oEq (m2 oMod (m2 oDiv (mVar 3) (mC (.int 64))) (mC (.int 16))) (mC (.int 2)))
      (sSet 6 (m2 oIx (mTup (aCons (mC (.str "new")) (aCons (mC (.str "s0")) (aCons (mC (.str "s01")) (aCons (mC (.str "other")) (aCons (mC (.str "s10000")) (aCons (mC (.str "s7")) aNil))))))) (m2 oMod (m2 oDiv (mVar 3) (mC (.int 2048))) (mC (.int 6)))))
      sNil)
    (sDPut 1 (mVar 6) (mVar 5)))))))))
    (sRet (mA oTuple (aCons (mSItems (dVar 1)) aNil)))))
def F_law_disk : MirF := runB 7 B_law_disk

def B_law_stepped : MirS :=
  (sSeq (sAsg (mSl (mVar 1) oNone (oSome (mC (.int 2)))) (gT [2, 3]))
    (sSeq (sSet 4 (mA oTuple (aCons (mL (lLc [6] (iD (mVar 0)) (gN 6) (m2 oNe (m2 oIx (mVar 6) (mC (.int 0))) (mVar 3)) (mVar 6))) aNil)))
    (sSeq (sSet 5 (mDGet2 (dPairs (mVar 0)) (mVar 3) (mC .none)))
    (sSeq (sIf (m2 oEq (mVar 2) (mC (.str "begin")))
      (sRet (mA oTuple (aCons (mA oSorted (aCons (m2 oAdd (mVar 4) (mTup (aCons (mTup (aCons (mVar 3) (aCons (mC (.str "")) aNil))) aNil))) aNil)) aNil)))
      sNil)
    (sSeq (sIf (mOr (m2 oEq (mVar 2) (mC (.str "drop"))) (m2 oIs (mVar 5) (mC .none)))
      (sRet (mVar 4))
      sNil)
    (sSeq (sIf (m2 oEq (mVar 2) (mC (.str "put")))
      (sRet (mA oTuple (aCons (mA oSorted (aCons (m2 oAdd (mVar 4) (mTup (aCons (mTup (aCons (mVar 3) (aCons (m2 oAdd (mVar 5) (m2 oIx (mVar 1) (mC (.int 2)))) aNil))) aNil))) aNil)) aNil)))
      sNil)
    (sRet (mA oTuple (aCons (mA oSorted (aCons (m2 oAdd (mL (lLc [6] (iD (mVar 4)) (gN 6) (m2 oNe (m2 oIx (mVar 6) (mC (.int 0))) (m2 oIx (mVar 1) (mC (.int 2)))) (mVar 6))) (mLst (aCons (mTup (aCons (m2 oIx (mVar 1) (mC (.int 2))) (aCons (mVar 5) aNil))) aNil))) aNil)) aNil)))))))))
def F_law_stepped : MirF := runB 7 B_law_stepped

def B_law_number : MirS :=
  (sSeq (sIf (m2 oIn (mVar 0) (mL (lLc [1] (iR2 (aCons (mC (.int 1)) (aCons (mC (.int 13)) aNil))) (gN 1) mYes (m2 oAdd (mC (.str "s")) (mA oStr (aCons (mVar 1) aNil))))))
      (sRet (mA oInt (aCons (mSl (mVar 0) (oSome (mC (.int 1))) oNone) aNil)))
      sNil)
    (sSeq (sIf (mAnd (m2 oEq (mSl (mVar 0) oNone (oSome (mC (.int 1)))) (mC (.str "s"))) (mAnd (m2 oLt (mA oLen (aCons (mVar 0) aNil)) (mC (.int 6))) (m2 oEq (mL (lLc [2] (iD (mSl (mVar 0) (oSome (mC (.int 1))) oNone)) (gN 2) (m2 oNotIn (mVar 2) (mC (.str "0123456789"))) (mVar 2))) (mLst aNil))))
      (sIf (m2 oNotIn (mSl (mVar 0) (oSome (mC (.int 1))) (oSome (mC (.int 2)))) (mTup (aCons (mC (.str "")) (aCons (mC (.str "0")) aNil))))
      (sRet (mA oInt (aCons (mSl (mVar 0) (oSome (mC (.int 1))) oNone) aNil)))
      sNil)
      sNil)
    (sRet (mC (.int 0)))))
def F_law_number : MirF := runB 3 B_law_number

def B_law_steps : MirS :=
  (sSeq (sSet 3 (mSl (m2 oSplit (mCall (F_law_text) (xDat (mVar 1) xNil)) (mC (.str "\n"))) oNone (oSome (m1 oNeg (mC (.int 1))))))
    (sSeq (sOwn 4 (lAdd (mLst (aCons (mTup (aCons (mC (.str "begin")) (aCons (mC (.str "new")) aNil))) aNil)) (mL (lLc [6] (iD (mVar 3)) (gN 6) mYes (mTup (aCons (mC (.str "put")) (aCons (mC (.str "new")) (aCons (m2 oAdd (mVar 6) (mC (.str "\n"))) aNil))))))))
    (sSeq (sAppend 4 (mTup (aCons (mC (.str "move")) (aCons (mC (.str "new")) (aCons (m2 oAdd (mC (.str "s")) (mA oStr (aCons (m2 oIx (mVar 1) (mC (.int 0))) aNil))) aNil)))))
    (sSeq (sSet 5 (m2 oAdd (mL (lLc [7] (iD (mVar 0)) (gN 7) mYes (mCall (F_law_number) (xDat (m2 oIx (mVar 7) (mC (.int 0))) xNil)))) (mLst (aCons (m2 oIx (mVar 1) (mC (.int 0))) aNil))))
    (sSeq (sSet 5 (m1 oSSet (mL (lLc [8] (iD (mVar 5)) (gN 8) (m2 oGt (mVar 8) (mC (.int 0))) (mVar 8)))))
    (sSeq (sWhile 100 (m2 oGt (mA oLen (aCons (mVar 5) aNil)) (mVar 2))
      (sSeq (sAppend 4 (mTup (aCons (mC (.str "drop")) (aCons (m2 oAdd (mC (.str "s")) (mA oStr (aCons (m2 oIx (mVar 5) (mC (.int 0))) aNil))) aNil))))
    (sSet 5 (mSl (mVar 5) (oSome (mC (.int 1))) oNone))))
    (sRet (mTupOwn 4))))))))
def F_law_steps : MirF := runB 9 B_law_steps

end Pu

set_option Elab.async false
set_option linter.all false
set_option autoImplicit false
set_option maxRecDepth 100000
/-! disks: steps done -/
namespace Pu
open PySem PySem.Spec PyProof.Rows L2
open SX (S)
open TL (numL)
inductive Stp where
  | begin (k : Str)
  | put (k : Str) (t : List Nat)
  | move (k j : Str)
  | drop (k : Str)
def Stp.d : Stp → D
  | .begin k => .tuple [.str "begin", .str k]
  | .put k t => .tuple [.str "put", .str k, .str (S t)]
  | .move k j => .tuple [.str "move", .str k, .str j]
  | .drop k => .tuple [.str "drop", .str k]
/-- a text by its signs -/
abbrev Dk := Mp (List Nat)
def emT (l : List Nat) : D := .str (S l)
theorem emT_ok : EmOk emT := ⟨fun _ _ => by simp [emT, PySem.W.alike], fun _ => by simp [emT, PyData.depth], fun _ => rfl, fun _ => by simp [emT, PyData.eqv]⟩
def stM (m : Dk) : Stp → Dk
  | .begin k => Pu.put m k []
  | .drop k => del m k
  | .put k t => match val m k with
    | some v => Pu.put m k (v ++ t)
    | none => m
  | .move k j => match val m k with
    | some v => Pu.put (del m k) j v
    | none => m
def stF (f : Fm (List Nat)) : Stp → Fm (List Nat)
  | .begin k => fput f k []
  | .drop k => fdel f k
  | .put k t => match f k with
    | some v => fput f k (v ++ t)
    | none => f
  | .move k j => match f k with
    | some v => fput (fdel f k) j v
    | none => f
theorem val_st (m : Dk) (d : Stp) : val (stM m d) = stF (val m) d := by
  funext j
  cases d with
  | begin k => exact val_put ..
  | drop k => exact val_del ..
  | put k t =>
    simp only [stM, stF]
    cases val m k with
    | none => rfl
    | some v => exact val_put ..
  | move k i =>
    simp only [stM, stF]
    cases val m k with
    | none => rfl
    | some v =>
      show val (Pu.put (del m k) i v) j = fput (fdel (val m) k) i v j
      rw [val_put, val_del]
      rfl
theorem val_sts : ∀ (ds : List Stp) (m : Dk), val (ds.foldl stM m) = ds.foldl stF (val m)
  | [], _ => rfl
  | d :: ds, m => by
    rw [List.foldl_cons, List.foldl_cons, val_sts ds, val_st]
theorem nd_st {m : Dk} (h : Nd m) (d : Stp) : Nd (stM m d) := by
  cases d <;> simp only [stM]
  · exact nd_put h
  · split
    · exact nd_put h
    · exact h
  · split
    · exact nd_put (nd_del h)
    · exact h
  · exact nd_del h
theorem len_st {m : Dk} (d : Stp) : (stM m d).length ≤ m.length + 1 := by
  cases d <;> simp only [stM]
  · exact put_len
  · split
    · exact put_len
    · omega
  · split
    · exact Nat.le_trans put_len (Nat.succ_le_succ del_len)
    · omega
  · exact Nat.le_succ_of_le del_len
theorem nd_sts : ∀ {ds : List Stp} {m : Dk}, Nd m → Nd (ds.foldl stM m)
  | [], _, h => h
  | d :: ds, m, h => nd_sts (ds := ds) (nd_st h d)
theorem len_sts : ∀ {ds : List Stp} {m : Dk}, (ds.foldl stM m).length ≤ m.length + ds.length
  | [], _ => Nat.le_refl _
  | d :: ds, m => by
    have h1 := len_sts (ds := ds) (m := stM m d)
    have h2 := len_st (m := m) d
    rw [List.foldl_cons, List.length_cons]
    omega
/-- all texts of at most n signs -/
def Tl (n : Nat) (m : Dk) : Prop := ∀ k v, val m k = some v → v.length ≤ n
/-- a step's text of at most n signs -/
def Stp.tl (n : Nat) : Stp → Prop
  | .put _ t => t.length ≤ n
  | _ => True
theorem Tl.st {n a : Nat} {m : Dk} (h : Tl n m) {d : Stp} (hd : d.tl a) : Tl (n + a) (stM m d) := fun k v e => by
  rw [val_st] at e
  cases d with
  | begin j =>
    simp only [stF, fput] at e
    split at e
    · cases e
      exact Nat.zero_le _
    · exact Nat.le_trans (h k v e) (Nat.le_add_right _ _)
  | drop j =>
    simp only [stF, fdel] at e
    split at e
    · cases e
    · exact Nat.le_trans (h k v e) (Nat.le_add_right _ _)
  | put j t =>
    simp only [stF] at e
    cases hv : val m j with
    | none =>
      rw [hv] at e
      exact Nat.le_trans (h k v e) (Nat.le_add_right _ _)
    | some u =>
      rw [hv] at e
      simp only [fput] at e
      split at e
      · cases e
        have h1 := h j u hv
        have h2 : t.length ≤ a := hd
        rw [List.length_append]
        omega
      · exact Nat.le_trans (h k v e) (Nat.le_add_right _ _)
  | move j i =>
    simp only [stF] at e
    cases hv : val m j with
    | none =>
      rw [hv] at e
      exact Nat.le_trans (h k v e) (Nat.le_add_right _ _)
    | some u =>
      rw [hv] at e
      simp only [fput, fdel] at e
      split at e
      · cases e
        exact Nat.le_trans (h j _ hv) (Nat.le_add_right _ _)
      · split at e
        · cases e
        · exact Nat.le_trans (h k v e) (Nat.le_add_right _ _)
theorem does_st {m : Dk} (d : Stp) {n a : Nat} (hl : m.length < 16777216) (ht : Tl n m) (hd : d.tl a) (hna : n + a ≤ 16777216) : U_step_done (kvM emT m) [d.d] = some (kvM emT (stM m d)) := by
  have e2 : HT.sIx 3 3 (some 2) = 2 := by decide
  have e3 : HT.sIx 2 2 (some 2) = 2 := by decide
  cases d with
  | begin k =>
    have key : putD (kvM emT m) (.inr k) (.str "") = kvM emT (Pu.put m k []) := by
      rw [em_S]
      exact putD_kv m k []
    simp [U_step_done, runM, B_step_done, startR, Stp.d, mSl, oSl, oNone, oSome, cutD, HT.sIx_none, e2, e3, sMPut, kvM_len, hl, key, stM]
  | drop k =>
    simp [U_step_done, runM, B_step_done, startR, Stp.d, mSl, oSl, oNone, oSome, cutD, HT.sIx_none, e2, e3, sMPop2, kvM_len, hl, dropD_kv, stM]
  | put k t =>
    cases h : val m k with
    | none => simp [U_step_done, runM, B_step_done, startR, Stp.d, mSl, oSl, oNone, oSome, cutD, HT.sIx_none, e2, e3, mDIn, valD_kv, kvM_len, hl, stM, h]
    | some v =>
      have h1 := ht k v h
      have h2 : t.length ≤ a := hd
      have hadd : oAdd (emT v) (.str (S t)) = some (emT (v ++ t)) := addSS (by omega)
      simp [U_step_done, runM, B_step_done, startR, Stp.d, mSl, oSl, oNone, oSome, cutD, HT.sIx_none, e2, e3, mDIn, mDGet, sMPut, valD_kv, kvM_len, hl, stM, h, hadd, putD_kv]
  | move k j =>
    have hl2 : (del m k).length < 16777216 := Nat.lt_of_le_of_lt del_len hl
    cases h : val m k with
    | none => simp [U_step_done, runM, B_step_done, startR, Stp.d, mSl, oSl, oNone, oSome, cutD, HT.sIx_none, e2, e3, mDIn, valD_kv, kvM_len, hl, stM, h]
    | some v => simp [U_step_done, runM, B_step_done, startR, Stp.d, mSl, oSl, oNone, oSome, cutD, HT.sIx_none, e2, e3, mDIn, mDGet, sMPut, sMPop1, valD_kv, kvM_len, hl, hl2, stM, h, putD_kv, dropD_kv]
def doneM (m : Dk) (ds : List Stp) : Dk := srt (ds.foldl stM m)
def dkD (m : Dk) : D := .tuple (itM emT m)
def stD (ds : List Stp) : D := .tuple (ds.map Stp.d)
theorem done_loop : ∀ (ds : List Stp) (m : Dk) (n a : Nat) (x y z : Sl), m.length + ds.length < 16777216 → Tl n m → (∀ d ∈ ds, d.tl a) → n + a * ds.length ≤ 16777216 →
    ∃ w, sLoop (gN 3) (sMut 2 1 U_step_done (aCons (mVar 3) aNil)) (ds.map Stp.d) [x, y, .dic (kvM emT m), z] = some (.nx [x, y, .dic (kvM emT (ds.foldl stM m)), w])
  | [], m, n, a, x, y, z, _, _, _, _ => ⟨z, rfl⟩
  | d :: ds, m, n, a, x, y, z, hl, ht, hd, hna => by
    rw [List.length_cons] at hl
    rw [List.length_cons, Nat.mul_add] at hna
    have hd1 := hd d List.mem_cons_self
    have hln := len_st (m := m) d
    obtain ⟨w, e⟩ := done_loop ds (stM m d) (n + a) a x y (.dat d.d) (by omega) (ht.st hd1) (fun d' h => hd d' (List.mem_cons_of_mem _ h)) (by omega)
    refine ⟨w, ?_⟩
    rw [List.map_cons, v_loopS (ρ1 := [x, y, .dic (kvM emT m), .dat d.d]) (ρ2 := [x, y, .dic (kvM emT (stM m d)), .dat d.d]) rfl (by
      simp [sMut, does_st d (by omega : m.length < 16777216) ht hd1 (by omega)])]
    exact e
theorem done_is {m : Dk} {ds : List Stp} {n a : Nat} (nd : Nd m) (hl : m.length + ds.length < 16777216) (ht : Tl n m) (hd : ∀ d ∈ ds, d.tl a) (hna : n + a * ds.length ≤ 16777216) : F_done [.dat (dkD m), .dat (stD ds)] = some (dkD (doneM m ds)) := by
  obtain ⟨w, e⟩ := done_loop ds m n a (.dat (dkD m)) (.dat (stD ds)) .no hl ht hd hna
  have hdp : dPairs (mVar 0) [.dat (dkD m), .dat (stD ds), .no, .no] = some (kvM emT m) := dPairs_it (.inl rfl) nd
  have h2 := len_sts (ds := ds) (m := m)
  have hs := mSItems_kv emT_ok (g := dVar 2) (ρ := [.dat (dkD m), .dat (stD ds), .dic (kvM emT (ds.foldl stM m)), w]) (m := ds.foldl stM m) rfl (nd_sts nd) (by rw [sizeLine_is]; omega)
  refine run_rt ?_
  simp [B_done, startR, hdp]
  rw [v_seqN (ρ' := [.dat (dkD m), .dat (stD ds), .dic (kvM emT (ds.foldl stM m)), w]) (by rw [v_sFor]; exact e)]
  simp [hs]
  rfl
theorem doneM_rise {m : Dk} (nd : Nd m) (ds : List Stp) : Rise (doneM m ds) := srt_rise (nd_sts nd)
theorem doneM_val {m : Dk} (nd : Nd m) (ds : List Stp) : val (doneM m ds) = ds.foldl stF (val m) := by
  funext k
  unfold doneM
  rw [srt_val (nd_sts nd), val_sts]
theorem doneM_len {m : Dk} (ds : List Stp) : (doneM m ds).length ≤ m.length + ds.length := by
  unfold doneM
  rw [srt_len]
  exact len_sts
theorem Tl.sts : ∀ {ds : List Stp} {n a : Nat} {m : Dk}, Tl n m → (∀ d ∈ ds, d.tl a) → Tl (n + a * ds.length) (ds.foldl stM m)
  | [], n, a, m, h, _ => by rw [List.length_nil, Nat.mul_zero]; exact h
  | d :: ds, n, a, m, h, hd => by
    have := Tl.sts (ds := ds) (h.st (hd d List.mem_cons_self)) fun d' h' => hd d' (List.mem_cons_of_mem _ h')
    rw [List.length_cons, Nat.mul_add]
    rw [show n + (a * ds.length + a * 1) = n + a + a * ds.length by omega]
    exact this
theorem Tl.done {ds : List Stp} {n a : Nat} {m : Dk} (nd : Nd m) (h : Tl n m) (hd : ∀ d ∈ ds, d.tl a) : Tl (n + a * ds.length) (doneM m ds) := fun k v e => by
  unfold doneM at e
  rw [srt_val (nd_sts nd)] at e
  exact h.sts hd k v e
end Pu

set_option Elab.async false
set_option linter.all false
set_option autoImplicit false
set_option maxRecDepth 100000
/-! names of numbers -/
namespace Pu
open PySem PySem.Spec PyProof.Rows L2
open SX (S)
open TL (numL)
open NumText (digitsVal AllDigits)
/-! ### parts of texts -/
def cutN (l : List Nat) (lo hi : Option Int) : List Nat := (l.drop (HT.sIx l.length 0 lo)).take (HT.sIx l.length l.length hi - HT.sIx l.length 0 lo)
theorem cutS_S (l : List Nat) (lo hi : Option Int) : cutS (S l) lo hi = S (cutN l lo hi) := by
  unfold cutS cutN
  rw [SX.S_len]
theorem sIx_some {n d : Nat} {i : Int} (h : 0 ≤ i) : HT.sIx n d (some i) = min i.toNat n := by
  show (if i < 0 then _ else min i.toNat n) = _
  rw [if_neg (by omega)]
theorem cutN_from {l : List Nat} {i : Int} (h : 0 ≤ i) : cutN l (some i) none = l.drop i.toNat := by
  unfold cutN
  rw [HT.sIx_none, sIx_some h]
  by_cases h2 : i.toNat ≤ l.length
  · rw [Nat.min_eq_left h2]
    exact List.take_of_length_le (by rw [List.length_drop]; omega)
  · rw [Nat.min_eq_right (by omega), List.drop_of_length_le (Nat.le_refl _), List.drop_of_length_le (by omega), List.take_nil]
theorem cutN_to {l : List Nat} {i : Int} (h : 0 ≤ i) : cutN l none (some i) = l.take i.toNat := by
  unfold cutN
  rw [HT.sIx_none, sIx_some h, List.drop_zero, Nat.sub_zero]
  by_cases h2 : i.toNat ≤ l.length
  · rw [Nat.min_eq_left h2]
  · rw [Nat.min_eq_right (by omega), List.take_of_length_le (Nat.le_refl _), List.take_of_length_le (by omega)]
theorem cutN_mid {l : List Nat} {i j : Int} (h : 0 ≤ i) (h' : 0 ≤ j) : cutN l (some i) (some j) = (l.drop i.toNat).take (j.toNat - i.toNat) := by
  unfold cutN
  rw [sIx_some h, sIx_some h']
  by_cases h2 : i.toNat ≤ l.length
  · rw [Nat.min_eq_left h2]
    by_cases h3 : j.toNat ≤ l.length
    · rw [Nat.min_eq_left h3]
    · rw [Nat.min_eq_right (by omega), List.take_of_length_le (by rw [List.length_drop]; omega), List.take_of_length_le (by rw [List.length_drop]; omega)]
  · rw [show min i.toNat l.length = l.length from Nat.min_eq_right (by omega), List.drop_of_length_le (Nat.le_refl _), List.drop_of_length_le (show l.length ≤ i.toNat by omega), List.take_nil, List.take_nil]
theorem oSl_S {l : List Nat} {lo hi : Option Int} (h : l.length ≤ 16777216) : oSl (.str (S l)) lo hi = some (.str (S (cutN l lo hi))) := by
  show (if (S l).length ≤ sizeLine then some (PyData.str (cutS (S l) lo hi)) else none) = _
  rw [if_pos (show (S l).length ≤ sizeLine by rw [SX.S_len]; exact h), cutS_S]
/-! ### names -/
def nmL (n : Nat) : Str := S (115 :: numL n)
theorem s_S : (Str.ofString "s") = S [115] := by decide +kernel
theorem num12 {n : Nat} (h : n < 1000000000000) : (numL n).length ≤ 12 := TL.numL_len (by decide) (by omega)
theorem name_is {n : Nat} (h : n < 1000000000000) : F_name_of [.dat (.int n)] = some (.str (nmL n)) := by
  have h1 := oStr_n (n := n) (by omega)
  have h2 : oAdd (.str "s") (.str (S (numL n))) = some (.str (nmL n)) := by
    rw [s_S, addSS (by have := num12 h; simp only [List.length_cons, List.length_nil]; omega)]
    rfl
  refine run_rt ?_
  simp [B_name_of, startR, h1, h2]
theorem nmL_inj {m n : Nat} (h : nmL m = nmL n) : m = n := TL.numL_inj (List.cons.inj (SX.S_inj h)).2
def figB (l : List Nat) : Bool := l.all fun c => decide (48 ≤ c ∧ c ≤ 57)
theorem figB_all {l : List Nat} (h : figB l = true) : AllDigits l := fun c hc => by
  have := List.all_eq_true.mp h c hc
  exact of_decide_eq_true this
theorem figB_of {l : List Nat} (h : AllDigits l) : figB l = true := List.all_eq_true.mpr fun c hc => decide_eq_true (h c hc)
theorem figB_num (n : Nat) : figB (numL n) = true := figB_of (TL.numL_digits n)
theorem val_bound : ∀ {l : List Nat} {a : Nat}, AllDigits l → l.foldl (fun acc c => acc * 10 + (c - 48)) a < (a + 1) * 10 ^ l.length
  | [], a, _ => by simp
  | c :: l, a, h => by
    have hc := h c List.mem_cons_self
    have ih := val_bound (l := l) (a := a * 10 + (c - 48)) fun x hx => h x (List.mem_cons_of_mem _ hx)
    rw [List.foldl_cons, List.length_cons, Nat.pow_succ]
    have h1 : (a * 10 + (c - 48) + 1) * 10 ^ l.length ≤ ((a + 1) * 10) * 10 ^ l.length := Nat.mul_le_mul_right _ (by omega)
    rw [show (a + 1) * (10 ^ l.length * 10) = ((a + 1) * 10) * 10 ^ l.length by rw [Nat.mul_comm (10 ^ l.length) 10, Nat.mul_assoc]]
    omega
theorem digitsVal_lt {l : List Nat} (h : AllDigits l) : digitsVal l < 10 ^ l.length := by
  have := val_bound (a := 0) h
  simpa [digitsVal] using this
theorem digits4 {l : List Nat} (h : AllDigits l) (hl : l.length ≤ 4) : digitsVal l < 10000 := by
  have h1 := digitsVal_lt h
  have h2 : 10 ^ l.length ≤ 10 ^ 4 := Nat.pow_le_pow_right (by decide) hl
  omega
theorem oInt_S {l : List Nat} (h : figB l = true) (hne : l ≠ []) (hl : l.length ≤ 640) : oInt [.str (S l)] = some (.int (digitsVal l)) := by
  show (if (S l).length ≤ 640 then (intText? (S l)).map PyData.int else none) = _
  rw [if_pos (by rw [SX.S_len]; exact hl), SX.int_S (by
    refine List.all_eq_true.mpr fun c hc => ?_
    have := figB_all h c hc
    simp only [Bool.and_eq_true, decide_eq_true_eq]
    exact this) hne (by omega)]
  rfl
theorem figs_S : (Str.ofString "0123456789").cps.toList = [48, 49, 50, 51, 52, 53, 54, 55, 56, 57] := by decide +kernel
theorem fig_in (c : Nat) : decide (c ∈ (Str.ofString "0123456789").cps.toList) = decide (48 ≤ c ∧ c ≤ 57) := by
  rw [figs_S, decide_eq_decide]
  simp only [List.mem_cons, List.not_mem_nil, or_false]
  omega
/-- the number that a name is the name of, or 0 -/
def numOf (s : Str) : Nat := if 1 ≤ (s.cps.toList.drop 1).length ∧ (s.cps.toList.drop 1).length ≤ 4 ∧ figB (s.cps.toList.drop 1) = true ∧ nmL (digitsVal (s.cps.toList.drop 1)) = s then digitsVal (s.cps.toList.drop 1) else 0
theorem numOf_nm {n : Nat} (h : n ≤ 9999) : numOf (nmL n) = n := by
  unfold numOf
  have e : (nmL n).cps.toList.drop 1 = numL n := rfl
  have hl : (numL n).length ≤ 4 := TL.numL_len (by decide) (by omega)
  have hp : 1 ≤ (numL n).length := List.length_pos_iff.mpr (TL.numL_ne n)
  rw [e, TL.numL_val, if_pos ⟨hp, hl, figB_num n, rfl⟩]
theorem numOf_pos {s : Str} (h : 0 < numOf s) : s = nmL (numOf s) ∧ numOf s ≤ 9999 := by
  unfold numOf at h ⊢
  split at h
  · rename_i c
    rw [if_pos c]
    have := digits4 (figB_all c.2.2.1) c.2.1
    exact ⟨c.2.2.2.symm, by omega⟩
  · omega
theorem numOf_le (s : Str) : numOf s ≤ 9999 := by
  by_cases h : 0 < numOf s
  · exact (numOf_pos h).2
  · omega
theorem number_is {s : Str} (hs : s.length ≤ 1000000) : F_number_of [.dat (.str s)] = some (.int (numOf s)) := by
  obtain ⟨l, rfl⟩ : ∃ l, s = S l := ⟨_, (SX.S_tl s).symm⟩
  rw [SX.S_len] at hs
  have e1 : mSl (mVar 0) (oSome (mC (.int 1))) oNone [.dat (.str (S l)), .no, .no, .no] = some (.str (S (l.drop 1))) := by
    show (oSl (.str (S l)) (some 1) none) = _
    rw [oSl_S (by omega), cutN_from (by decide)]
    rfl
  have hdl : (l.drop 1).length ≤ 1000000 := by rw [List.length_drop]; omega
  have hlen : oLen [.str (S (l.drop 1))] = some (.int (l.drop 1).length) := by rw [oLen_s (by rw [SX.S_len]; omega), SX.S_len]
  have e2 : mCh oLe oLe (mC (.int 1)) (mA oLen (aCons (mVar 1) aNil)) (mC (.int 4)) [.dat (.str (S l)), .dat (.str (S (l.drop 1))), .no, .no] = some (.bool (decide (1 ≤ ((l.drop 1).length : Int) ∧ ((l.drop 1).length : Int) ≤ 4))) := v_chain rfl (by rw [v_mA, v_aCons]; exact hlen) rfl
  have e3 := v_allLc (fun c => PyData.str (sgn c)) (fun c => decide (48 ≤ c ∧ c ≤ 57)) (ρ := [.dat (.str (S l)), .dat (.str (S (l.drop 1))), .no, .no]) (vs := [3]) (fi := iD (mVar 1)) (m := gN 3) (te := m2 oIn (mVar 3) (mC (.str "0123456789"))) (l := l.drop 1) rfl (by omega) fun c hc => ⟨_, rfl, by
    rw [← fig_in]
    simp [oIn_sgn]⟩
  have es : (S l).cps.toList.drop 1 = l.drop 1 := rfl
  refine run_rt ?_
  unfold numOf
  rw [es]
  generalize hd : l.drop 1 = t at *
  by_cases c1 : 1 ≤ (t.length : Int) ∧ (t.length : Int) ≤ 4
  · have c1' : 1 ≤ t.length ∧ t.length ≤ 4 := by omega
    by_cases c2 : figB t = true
    · have c2' : (t.all fun c => decide (48 ≤ c ∧ c ≤ 57)) = true := c2
      rw [c2'] at e3
      have hne : t ≠ [] := fun z => by
        rw [z] at c1'
        simp at c1'
      have h4 := digits4 (figB_all c2) c1'.2
      have hi := oInt_S c2 hne (by omega)
      have hn := name_is (n := digitsVal t) (by omega)
      have h9 : ¬ (9999 : Int) < (digitsVal t : Int) := by omega
      by_cases c3 : nmL (digitsVal t) = S l
      · rw [if_pos ⟨c1'.1, c1'.2, c2, c3⟩]
        rw [c3] at hn
        simp (maxDischargeDepth := 10) (implicitDefEqProofs := false) [B_number_of, startR, e1, e2, c1, ↓e3, hi, hn, h9]
      · rw [if_neg fun z => c3 z.2.2.2]
        simp (maxDischargeDepth := 10) (implicitDefEqProofs := false) [B_number_of, startR, e1, e2, c1, ↓e3, hi, hn, c3]
    · have c2' : (t.all fun c => decide (48 ≤ c ∧ c ≤ 57)) = false := by
        cases h : figB t
        · exact h
        · exact absurd h c2
      rw [c2'] at e3
      rw [if_neg fun z => c2 z.2.2.1]
      simp (maxDischargeDepth := 10) (implicitDefEqProofs := false) [B_number_of, startR, e1, e2, c1, ↓e3]
  · rw [if_neg fun z => c1 ⟨by omega, by omega⟩]
    simp (maxDischargeDepth := 10) (implicitDefEqProofs := false) [B_number_of, startR, e1, e2, c1]
end Pu

set_option Elab.async false
set_option linter.all false
set_option autoImplicit false
set_option maxRecDepth 100000
/-! the law's own numbers of names -/
namespace Pu
open PySem PySem.Spec PyProof.Rows L2
open SX (S)
open TL (numL)
open NumText (digitsVal AllDigits)
theorem inQ_strs (s : Str) : ∀ ks : List Str, inQ (.str s) (ks.map .str) = decide (s ∈ ks)
  | [] => by simp [inQ]
  | k :: ks => by
    have ih := inQ_strs s ks
    unfold inQ at ih ⊢
    rw [List.map_cons, List.any_cons, ih, PyData.eqv, beqS]
    by_cases h : k = s
    · simp [h]
    · have h' : ¬ s = k := fun z => h z.symm
      simp [h, h']
theorem flat_strs (ks : List Str) : (ks.map PyData.str).all flatD = true := by
  rw [List.all_map]
  exact List.all_eq_true.mpr fun _ _ => rfl
theorem oIn_L (s : Str) (ks : List Str) : oIn (.str s) (.list (ks.map .str)) = some (.bool (decide (s ∈ ks))) := by
  show Option.map PyData.bool (if flatD (.str s) = true ∧ (ks.map PyData.str).all flatD = true then some (inQ (.str s) (ks.map .str)) else none) = _
  rw [if_pos ⟨rfl, flat_strs ks⟩, inQ_strs]
  rfl
theorem oNotIn_T (s : Str) (ks : List Str) : oNotIn (.str s) (.tuple (ks.map .str)) = some (.bool (decide (s ∉ ks))) := by
  show Option.map (fun b => PyData.bool (!b)) (if flatD (.str s) = true ∧ (ks.map PyData.str).all flatD = true then some (inQ (.str s) (ks.map .str)) else none) = _
  rw [if_pos ⟨rfl, flat_strs ks⟩, inQ_strs, decide_not]
  rfl
theorem oIn_T (s : Str) (ks : List Str) : oIn (.str s) (.tuple (ks.map .str)) = some (.bool (decide (s ∈ ks))) := by
  show Option.map PyData.bool (if flatD (.str s) = true ∧ (ks.map PyData.str).all flatD = true then some (inQ (.str s) (ks.map .str)) else none) = _
  rw [if_pos ⟨rfl, flat_strs ks⟩, inQ_strs]
  rfl
theorem oNotIn_sgn (c : Nat) (z : Str) : oNotIn (.str (sgn c)) (.str z) = some (.bool (!decide (c ∈ z.cps.toList))) := by
  show Option.map (fun b => PyData.bool (!b)) ((if (sgn c).cps.size = 1 then some (decide ((sgn c).cps.getD 0 0 ∈ z.cps.toList)) else none).orElse _) = _
  rw [if_pos (show (sgn c).cps.size = 1 from rfl)]
  rfl
/-- the text of a number, back -/
theorem num_back {t : List Nat} (h : figB t = true) (hne : t ≠ []) (h0 : ∀ c r, t = c :: r → c ≠ 48) : numL (digitsVal t) = t := by
  have hd := figB_all h
  cases t with
  | nil => exact absurd rfl hne
  | cons c r =>
    have hc := hd c List.mem_cons_self
    have hc0 := h0 c r rfl
    have e := NumText.toDigits_digitsVal r.length (c :: r) rfl hd (.inr ⟨c, r, rfl, by omega⟩)
    unfold TL.numL
    rw [e, List.map_map]
    have key : ∀ l : List Nat, AllDigits l → l.map (Char.toNat ∘ Char.ofNat) = l := fun l hl => by
      conv => rhs; rw [← List.map_id l]
      refine List.map_congr_left fun x hx => ?_
      have := hl x hx
      show (Char.ofNat x).toNat = x
      have hv : ∀ n : Nat, n < 58 → (Char.ofNat n).toNat = n := by decide +kernel
      exact hv x (by omega)
    exact key _ hd
theorem num_head {n : Nat} (h : 1 ≤ n) : ∀ c r, numL n = c :: r → c ≠ 48 := by
  induction n using Nat.strongRecOn with
  | _ n ih =>
    intro c r e
    by_cases hn : n < 10
    · rw [TL.numL_lt hn] at e
      have := (List.cons.inj e).1
      omega
    · rw [TL.numL_step (by omega)] at e
      cases hq : numL (n / 10) with
      | nil => exact absurd hq (TL.numL_ne _)
      | cons c' r' =>
        rw [hq] at e
        have := (List.cons.inj e).1
        subst this
        exact ih (n / 10) (by omega) (by omega) c' r' hq
theorem numOf_spec {s : Str} {t : List Nat} (e : s = S (115 :: t)) (h : figB t = true) (hne : t ≠ []) (h0 : ∀ c r, t = c :: r → c ≠ 48) (hl : t.length ≤ 4) : numOf s = digitsVal t := by
  subst e
  have hb := num_back h hne h0
  have h4 := digits4 (figB_all h) hl
  have : nmL (digitsVal t) = S (115 :: t) := by
    unfold nmL
    rw [hb]
  rw [← this, numOf_nm (by omega)]
theorem eq_nil_list {xs : List D} (h : ∀ x ∈ xs, Pl 50 x) : oEq (.list xs) (.list []) = some (.bool (decide (xs = []))) := by
  unfold oEq
  rw [if_pos (Nat.le_trans (pl_lst h).depth (by decide))]
  cases xs with
  | nil => rfl
  | cons x xs =>
    rw [PyData.eqv]
    rfl
def ks12 : List Str := (List.range 12).map fun i => nmL (1 + i)
theorem lawnumber_is {s : Str} (hs : s.length ≤ 1000000) : F_law_number [.dat (.str s)] = some (.int (numOf s)) := by
  obtain ⟨l, rfl⟩ : ∃ l, s = S l := ⟨_, (SX.S_tl s).symm⟩
  rw [SX.S_len] at hs
  have a0 : mL (lLc [1] (iR2 (aCons (mC (.int 1)) (aCons (mC (.int 13)) aNil))) (gN 1) mYes (m2 oAdd (mC (.str "s")) (mA oStr (aCons (mVar 1) aNil)))) [.dat (.str (S l)), .no, .no] = some (.list (ks12.map .str)) := by
    have hi : iR2 (aCons (mC (.int 1)) (aCons (mC (.int 13)) aNil)) [.dat (.str (S l)), .no, .no] = some ((List.range 12).map fun (i : Nat) => PyData.int (1 + (i : Int))) := by
      rw [iR2_i (i := 1) (j := 13) rfl (by decide) (by decide) (by decide) (by decide)]
      rfl
    have := v_listLc (vs := [1]) (m := gN 1) (tt := mYes) (te := m2 oAdd (mC (.str "s")) (mA oStr (aCons (mVar 1) aNil))) hi (by simp) (lc_mapT (fun (i : Nat) => PyData.int (1 + (i : Int))) (fun i => PyData.str (nmL (1 + i))) (List.range 12) fun i hi => ⟨_, rfl, by
      have hi := List.mem_range.mp hi
      have h1 := oStr_i (i := 1 + (i : Int)) (by omega) (by omega)
      rw [show (1 + (i : Int)).toNat = 1 + i by omega] at h1
      have h2 : oAdd (.str "s") (.str (S (numL (1 + i)))) = some (.str (nmL (1 + i))) := by
        rw [s_S, addSS (by have := num12 (n := 1 + i) (by omega); simp only [List.length_cons, List.length_nil]; omega)]
        rfl
      simp [h1, h2]⟩)
    rw [this]
    unfold ks12
    rw [List.map_map]
    rfl
  have a1 : m2 oIn (mVar 0) (mL (lLc [1] (iR2 (aCons (mC (.int 1)) (aCons (mC (.int 13)) aNil))) (gN 1) mYes (m2 oAdd (mC (.str "s")) (mA oStr (aCons (mVar 1) aNil))))) [.dat (.str (S l)), .no, .no] = some (.bool (decide (S l ∈ ks12))) := by
    rw [v_m2, a0]
    exact oIn_L (S l) ks12
  have b1 : mSl (mVar 0) (oSome (mC (.int 1))) oNone [.dat (.str (S l)), .no, .no] = some (.str (S (l.drop 1))) := by
    show (oSl (.str (S l)) (some 1) none) = _
    rw [oSl_S (by omega), cutN_from (by decide)]
    rfl
  have b2 : mSl (mVar 0) oNone (oSome (mC (.int 1))) [.dat (.str (S l)), .no, .no] = some (.str (S (l.take 1))) := by
    show (oSl (.str (S l)) none (some 1)) = _
    rw [oSl_S (by omega), cutN_to (by decide)]
    rfl
  have b3 : mSl (mVar 0) (oSome (mC (.int 1))) (oSome (mC (.int 2))) [.dat (.str (S l)), .no, .no] = some (.str (S ((l.drop 1).take 1))) := by
    show (oSl (.str (S l)) (some 1) (some 2)) = _
    rw [oSl_S (by omega), cutN_mid (by decide) (by decide)]
    rfl
  refine run_rt ?_
  by_cases hk : S l ∈ ks12
  · obtain ⟨i, hi, hSl⟩ := List.mem_map.mp hk
    have hi := List.mem_range.mp hi
    have hn : numOf (S l) = 1 + i := by rw [← hSl, numOf_nm (by omega)]
    have hl1 : l.drop 1 = numL (1 + i) := by
      have := SX.S_inj (show S (115 :: numL (1 + i)) = S l from hSl)
      rw [← this]
      rfl
    have hint : oInt [.str (S (numL (1 + i)))] = some (.int ((1 + i : Nat) : Int)) := by
      rw [oInt_S (figB_num _) (TL.numL_ne _) (by have := num12 (n := 1 + i) (by omega); omega), TL.numL_val]
    rw [hl1] at b1
    simp (maxDischargeDepth := 10) (implicitDefEqProofs := false) [B_law_number, startR, ↓a1, hk, b1, hint, hn]
  · have hdl : (l.drop 1).length ≤ 1000000 := by rw [List.length_drop]; omega
    have c3 : m2 oEq (mL (lLc [2] (iD (mSl (mVar 0) (oSome (mC (.int 1))) oNone)) (gN 2) (m2 oNotIn (mVar 2) (mC (.str "0123456789"))) (mVar 2))) (mLst aNil) [.dat (.str (S l)), .no, .no] = some (.bool (figB (l.drop 1))) := by
      have hL := v_listLc (ρ := [.dat (.str (S l)), .no, .no]) (vs := [2]) (fi := iD (mSl (mVar 0) (oSome (mC (.int 1))) oNone)) (m := gN 2) (tt := m2 oNotIn (mVar 2) (mC (.str "0123456789"))) (te := mVar 2) (ds := (l.drop 1).map fun c => PyData.str (sgn c)) (by rw [v_iD, b1]; rfl) (by rw [List.length_map]; omega)
        (lc_filterT (fun c => PyData.str (sgn c)) (fun c => PyData.str (sgn c)) (fun c => !decide (48 ≤ c ∧ c ≤ 57)) (l.drop 1) fun c hc => ⟨_, rfl, by
          rw [← fig_in]
          simp [oNotIn_sgn], fun _ => rfl⟩)
      rw [v_m2, hL]
      show oEq (.list _) (.list []) = _
      rw [eq_nil_list fun x hx => by
        obtain ⟨c, _, rfl⟩ := List.mem_map.mp hx
        exact pl_str ..]
      congr 2
      rw [Bool.eq_iff_iff, decide_eq_true_eq, List.map_eq_nil_iff, List.filter_eq_nil_iff]
      unfold figB
      rw [List.all_eq_true]
      constructor
      · intro h c hc
        have := h c hc
        simpa using this
      · intro h c hc
        have := h c hc
        simpa using this
    have hlen : oLen [.str (S l)] = some (.int l.length) := by rw [oLen_s (by rw [SX.S_len]; omega), SX.S_len]
    have e0 : (S l).cps.toList.drop 1 = l.drop 1 := rfl
    have hz : ¬ (S (l.take 1) = Str.ofString "s" ∧ l.length < 6 ∧ figB (l.drop 1) = true ∧ S ((l.drop 1).take 1) ≠ Str.ofString "" ∧ S ((l.drop 1).take 1) ≠ Str.ofString "0") → numOf (S l) = 0 := fun hc => by
      apply Classical.byContradiction
      intro hn
      obtain ⟨p1, p2⟩ := numOf_pos (Nat.pos_of_ne_zero hn)
      generalize hN : numOf (S l) = n at *
      have hl : l = 115 :: numL n := SX.S_inj p1
      have hn1 : 1 ≤ n := by omega
      have hh := num_head hn1
      have hln : (numL n).length ≤ 4 := TL.numL_len (by decide) (by omega)
      refine hc ⟨?_, ?_, ?_, ?_, ?_⟩
      · rw [hl, s_S]
        rfl
      · rw [hl, List.length_cons]
        omega
      · rw [hl]
        exact figB_num n
      · rw [hl, em_S]
        intro z
        have := SX.S_inj z
        cases hq : numL n with
        | nil => exact TL.numL_ne n hq
        | cons c r =>
          rw [hq] at this
          cases this
      · rw [hl, zero_S]
        intro z
        have := SX.S_inj z
        cases hq : numL n with
        | nil => exact TL.numL_ne n hq
        | cons c r =>
          rw [hq] at this
          exact hh c r hq (List.cons.inj this).1
    by_cases d1 : S (l.take 1) = Str.ofString "s"
    rotate_left
    · rw [hz fun z => d1 z.1]
      simp (maxDischargeDepth := 10) (implicitDefEqProofs := false) [B_law_number, startR, ↓a1, hk, b2, d1]
    by_cases d2 : (l.length : Int) < 6
    rotate_left
    · rw [hz fun z => d2 (by omega)]
      simp (maxDischargeDepth := 10) (implicitDefEqProofs := false) [B_law_number, startR, ↓a1, hk, b2, d1, hlen, d2]
    cases d3 : figB (l.drop 1)
    · rw [d3] at c3
      rw [hz fun z => by rw [d3] at z; cases z.2.2.1]
      simp (maxDischargeDepth := 10) (implicitDefEqProofs := false) [B_law_number, startR, ↓a1, hk, b2, d1, hlen, d2, ↓c3]
    · rw [d3] at c3
      have c4 : m2 oNotIn (mSl (mVar 0) (oSome (mC (.int 1))) (oSome (mC (.int 2)))) (mTup (aCons (mC (.str "")) (aCons (mC (.str "0")) aNil))) [.dat (.str (S l)), .no, .no] = some (.bool (decide (S ((l.drop 1).take 1) ∉ [Str.ofString "", Str.ofString "0"]))) := by
        rw [v_m2, b3]
        exact oNotIn_T (S ((l.drop 1).take 1)) ["", "0"]
      by_cases d4 : S ((l.drop 1).take 1) ∉ [Str.ofString "", Str.ofString "0"]
      · rw [decide_eq_true d4] at c4
        simp only [List.mem_cons, List.not_mem_nil, or_false, not_or] at d4
        have hne : l.drop 1 ≠ [] := fun z => d4.1 (by rw [z, em_S]; rfl)
        have hl : l = 115 :: l.drop 1 := by
          cases l with
          | nil => exact absurd rfl hne
          | cons c r =>
            rw [s_S] at d1
            have := (List.cons.inj (SX.S_inj d1)).1
            rw [this]
            rfl
        have h0 : ∀ c r, l.drop 1 = c :: r → c ≠ 48 := fun c r e z => d4.2 (by rw [e, z, zero_S]; rfl)
        have hln : (l.drop 1).length ≤ 4 := by rw [List.length_drop]; omega
        have hsp := numOf_spec (s := S l) (t := l.drop 1) (by rw [← hl]) d3 hne h0 hln
        have hint := oInt_S d3 hne (by omega)
        rw [hsp]
        generalize l.drop 1 = t at *
        simp (maxDischargeDepth := 10) (implicitDefEqProofs := false) [B_law_number, startR, ↓a1, hk, b2, d1, hlen, d2, ↓c3, ↓c4, b1, hint]
      · rw [decide_eq_false d4] at c4
        rw [hz fun z => d4 (by simp only [List.mem_cons, List.not_mem_nil, or_false, not_or]; exact z.2.2.2)]
        simp (maxDischargeDepth := 10) (implicitDefEqProofs := false) [B_law_number, startR, ↓a1, hk, b2, d1, hlen, d2, ↓c3, ↓c4]
end Pu

set_option Elab.async false
set_option linter.all false
set_option autoImplicit false
set_option maxRecDepth 100000
/-! the steps that put a save on a disk -/
namespace Pu
open PySem PySem.Spec PyProof.Rows L2
open SX (S)
open TL (numL)
section
variable {ρ : Rho} {i : Nat} {f : Mir} {l : MirL} {ds es : List D} {d : D}
theorem v_own (h : l ρ = some es) : sOwn i l ρ = some (.nx (ρ.set i (.own es))) := by
  unfold sOwn
  rw [h]
  rfl
theorem v_extend (h : lOwn i ρ = some ds) (h2 : l ρ = some es) (hl : ds.length + es.length ≤ 16777216) : sExtend i l ρ = some (.nx (ρ.set i (.own (ds ++ es)))) := by
  unfold sExtend
  rw [h, h2]
  exact if_pos hl
theorem v_append (h : lOwn i ρ = some ds) (h2 : f ρ = some d) (hl : ds.length < 16777216) : sAppend i f ρ = some (.nx (ρ.set i (.own (ds ++ [d])))) := by
  unfold sAppend
  rw [h, h2]
  exact if_pos hl
end
/-- names are not too long -/
def Kl (m : Dk) : Prop := ∀ p ∈ m, p.1.length ≤ 1000000
def nsOn (m : Dk) : List Int := (m.map fun p => (numOf p.1 : Int)).filter fun z => decide (0 < z)
def srtI (l : List Int) : List Int := l.mergeSort fun a b => decide (a ≤ b)
theorem leD_int (a b : Int) : leD (.int a) (.int b) = decide (a ≤ b) := by
  have := congrFun (congrFun (PySem.W.dataLe_int (β := Int) fun z => z) a) b
  exact this
theorem sortOk_ints {l : List Int} (h : l.length ≤ 16777216) : sortOk (l.map .int) = true := by
  unfold sortOk
  simp only [Bool.and_eq_true, Bool.or_eq_true, List.all_eq_true, decide_eq_true_eq]
  refine ⟨⟨⟨fun d hd d' hd' => ?_, .inr fun d hd => ?_⟩, fun d hd => ?_⟩, by rw [List.length_map]; exact h⟩
  · obtain ⟨p, _, rfl⟩ := List.mem_map.mp hd
    obtain ⟨q, _, rfl⟩ := List.mem_map.mp hd'
    simp [PySem.W.alike]
  · obtain ⟨p, _, rfl⟩ := List.mem_map.mp hd
    rfl
  · obtain ⟨p, _, rfl⟩ := List.mem_map.mp hd
    simp [PyData.depth]
theorem sorted_ints_is {l : List Int} (h : l.length ≤ 16777216) : oSorted [.list (l.map .int)] = some (.list ((srtI l).map .int)) := by
  show (if sortOk (l.map .int) = true then some (PyData.list ((l.map PyData.int).mergeSort leD)) else none) = _
  rw [if_pos (sortOk_ints h)]
  unfold srtI
  rw [PySem.W.sort_maps (r := fun a b => decide (a ≤ b)) (s := leD) PyData.int fun a _ b _ => (leD_int a b).symm]
theorem nsOn_len (m : Dk) : (nsOn m).length ≤ m.length := by
  unfold nsOn
  exact Nat.le_trans (List.length_filter_le _ _) (by rw [List.length_map]; exact Nat.le_refl _)
theorem numbers_is {m : Dk} (hl : m.length ≤ 1000000) (hk : Kl m) : F_numbers_on [.dat (dkD m)] = some (.list ((srtI (nsOn m)).map .int)) := by
  have hL := v_listLc (ρ := [.dat (dkD m), .no, .no]) (vs := [1, 2]) (fi := iD (mVar 0)) (m := gT [1, 2]) (tt := m2 oGt (mCall (F_number_of) (xDat (mVar 1) xNil)) (mC (.int 0))) (te := mCall (F_number_of) (xDat (mVar 1) xNil)) (ds := itM emT m) rfl (by rw [itM_len]; omega)
    (lc_filterT (prD emT) (fun p => PyData.int (numOf p.1 : Int)) (fun p => decide (0 < (numOf p.1 : Int))) m fun p hp => ⟨_, rfl, by simp [number_is (hk p hp)], fun _ => by simp [number_is (hk p hp)]⟩)
  have e : ((m.filter fun p => decide (0 < (numOf p.1 : Int))).map fun p => PyData.int (numOf p.1 : Int)) = (nsOn m).map .int := by
    unfold nsOn
    rw [List.filter_map, List.map_map]
    rfl
  rw [e] at hL
  have hs := sorted_ints_is (l := nsOn m) (by have := nsOn_len m; omega)
  refine run_rt ?_
  show Option.map Out.rt (mA oSorted (aCons _ aNil) [.dat (dkD m), .no, .no]) = _
  rw [v_mA, v_aCons, hL]
  simp only [v_aNil, Option.bind_some, hs]
  rfl
/-- the numbers on a disk and one more, rising -/
def numsT (m : Dk) (n : Nat) : List Int := ssetI (nsOn m ++ [(n : Int)])
theorem sset_congr {l l' : List Int} (h : ∀ z, z ∈ l ↔ z ∈ l') : ssetI l = ssetI l' := rise_ext (ssetI_rise l) (ssetI_rise l') fun z => by rw [mem_ssetI, mem_ssetI, h z]
theorem mem_srtI (l : List Int) (z : Int) : z ∈ srtI l ↔ z ∈ l := (List.mergeSort_perm l _).mem_iff
theorem srtI_len (l : List Int) : (srtI l).length = l.length := (List.mergeSort_perm l _).length_eq
theorem numsT_in {m : Dk} {n : Nat} (hn : 1 ≤ n) (hn9 : n ≤ 9999) : ∀ z ∈ numsT m n, 1 ≤ z ∧ z ≤ 9999 := fun z hz => by
  unfold numsT at hz
  rw [mem_ssetI] at hz
  rcases List.mem_append.mp hz with h | h
  · unfold nsOn at h
    obtain ⟨h1, h2⟩ := List.mem_filter.mp h
    obtain ⟨p, _, rfl⟩ := List.mem_map.mp h1
    have := numOf_le p.1
    have := of_decide_eq_true h2
    omega
  · rw [List.mem_singleton.mp h]
    omega
theorem insI_len (x : Int) : ∀ l : List Int, (insI x l).length ≤ l.length + 1
  | [] => by simp [insI]
  | y :: l => by
    unfold insI
    have := insI_len x l
    split
    · simp
    · split
      · simp
      · simp only [List.length_cons]
        omega
theorem ssetI_len : ∀ l : List Int, (ssetI l).length ≤ l.length
  | [] => Nat.le_refl _
  | x :: l => by
    have h1 := ssetI_len l
    have h2 := insI_len x (ssetI l)
    show (insI x (ssetI l)).length ≤ l.length + 1
    omega
theorem numsT_len (m : Dk) (n : Nat) : (numsT m n).length ≤ m.length + 1 := by
  have h1 := ssetI_len (nsOn m ++ [(n : Int)])
  have h2 := nsOn_len m
  rw [List.length_append, List.length_singleton] at h1
  unfold numsT
  omega
/-- the steps -/
def putsT (n mk : Nat) (b : Mp Int) : List Stp := (rowsL n mk b ++ [endL (bodyL n mk b)]).map fun r => Stp.put "new" (r ++ [10])
def dropsT (l : List Int) : List Stp := l.map fun z => Stp.drop (nmL z.toNat)
def stepsT (m : Dk) (n mk : Nat) (b : Mp Int) (many : Nat) : List Stp := (Stp.begin "new" :: putsT n mk b) ++ [Stp.move "new" (nmL n)] ++ dropsT ((numsT m n).take ((numsT m n).length - many))
theorem rows_split {n mk : Nat} {b : Mp Int} (h1 : n < 1000000) (h2 : mk < 1000000) (hb : Sm b) (hk : ∀ p ∈ b, keyOk p.1 = true) : oSl (.list (rwD (TL.spl [10] 0 [] (wrL n mk b)))) none (some (-1)) = some (.list (rwD (rowsL n mk b ++ [endL (bodyL n mk b)]))) := by
  rw [spl_wr hk]
  show some (PyData.list (cutD _ none (some (-1)))) = _
  rw [cut_last]
  congr 2
  unfold rwD
  rw [← List.map_dropLast]
  congr 1
  rw [show rowsL n mk b ++ [endL (bodyL n mk b), []] = (rowsL n mk b ++ [endL (bodyL n mk b)]) ++ [[]] by simp, List.dropLast_concat]
theorem endL_len (l : List Nat) : (endL l).length = 8 := by
  unfold endL
  rw [List.length_append, sum4_len]
  rfl
theorem puts_each {n mk : Nat} {b : Mp Int} (h1 : n < 1000000) (h2 : mk < 1000000) (hb : Sm b) : ∀ r ∈ rowsL n mk b ++ [endL (bodyL n mk b)], r.length ≤ 25 := fun r hr => by
  rcases List.mem_append.mp hr with h | h
  · exact rowsL_each h1 h2 hb r h
  · rw [List.mem_singleton.mp h, endL_len]
    decide
theorem puts_lc {ρ : Rho} {i : Nat} {rs : List (List Nat)} (h : ∀ r ∈ rs, r.length ≤ 25) (hρ : ∀ d, mVar i (ρ.set i (.dat d)) = some d) : lcGo (gN i) mYes (mTup (aCons (mC (.str "put")) (aCons (mC (.str "new")) (aCons (m2 oAdd (mVar i) (mC (.str "\n"))) aNil)))) ρ (rwD rs) = some ((rs.map fun r => Stp.put "new" (r ++ [10])).map Stp.d) := by
  rw [List.map_map]
  refine lc_mapT (fun r => PyData.str (S r)) _ rs fun r hr => ⟨_, rfl, ?_⟩
  have := h r hr
  have ha : oAdd (.str (S r)) (.str "\n") = some (.str (S (r ++ [10]))) := by
    rw [nl_S]
    exact addSS (by simp only [List.length_cons, List.length_nil]; omega)
  simp [hρ, ha, Stp.d]
theorem steps_is {m : Dk} {n mk : Nat} {b : Mp Int} {many : Nat} (hm : m.length ≤ 60) (hk : Kl m) (hn : 1 ≤ n) (hn9 : n ≤ 9999) (h2 : mk < 1000000) (hb : Sm b) (hbk : ∀ p ∈ b, keyOk p.1 = true) :
    F_steps_for [.dat (dkD m), .dat (svD n mk b), .dat (.int many)] = some (stD (stepsT m n mk b many)) := by
  have hw := written_is (n := n) (by omega) h2 hb
  have hwl := wrL_len (n := n) (by omega) h2 hb
  have hsp := splitN (l := wrL n mk b) (by omega)
  have hrs := rows_split (n := n) (by omega) h2 hb hbk
  have hpe := puts_each (n := n) (by omega) h2 hb
  have hnm := name_is (n := n) (by omega)
  have hno := numbers_is (m := m) (by omega) hk
  have hrl : (rowsL n mk b ++ [endL (bodyL n mk b)]).length = b.length + 2 := by
    rw [List.length_append, rowsL_len]
    rfl
  have hbl := hb.len
  have f1 : ∀ x3 x4 x5 x6 x7, lLc [6] (iD (mSl (m2 oSplit (mCall (F_written) (xDat (mVar 1) xNil)) (mC (.str "\n"))) oNone (oSome (m1 oNeg (mC (.int 1)))))) (gN 6) mYes (mTup (aCons (mC (.str "put")) (aCons (mC (.str "new")) (aCons (m2 oAdd (mVar 6) (mC (.str "\n"))) aNil)))) [.dat (dkD m), .dat (svD n mk b), .dat (.int many), x3, x4, x5, x6, x7] = some ((putsT n mk b).map Stp.d) := fun x3 x4 x5 x6 x7 => by
    have hi : iD (mSl (m2 oSplit (mCall (F_written) (xDat (mVar 1) xNil)) (mC (.str "\n"))) oNone (oSome (m1 oNeg (mC (.int 1))))) [.dat (dkD m), .dat (svD n mk b), .dat (.int many), x3, x4, x5, x6, x7] = some (rwD (rowsL n mk b ++ [endL (bodyL n mk b)])) := by
      have : mSl (m2 oSplit (mCall (F_written) (xDat (mVar 1) xNil)) (mC (.str "\n"))) oNone (oSome (m1 oNeg (mC (.int 1)))) [.dat (dkD m), .dat (svD n mk b), .dat (.int many), x3, x4, x5, x6, x7] = some (.list (rwD (rowsL n mk b ++ [endL (bodyL n mk b)]))) := by
        unfold mSl
        rw [v_m2, v_call, v_xDat]
        simp only [v_varS, v_var0, Option.bind_some, v_xNil, hw, v_C, hsp]
        exact hrs
      rw [v_iD, this]
      rfl
    rw [v_lLc, hi]
    show (if (rwD (rowsL n mk b ++ [endL (bodyL n mk b)])).length < sizeLine then _ else _) = _
    rw [if_pos (show _ < sizeLine by unfold rwD; rw [List.length_map, hrl, sizeLine_is]; omega)]
    exact puts_lc hpe fun d => rfl
  have hnl := nsOn_len m
  have hset : oSSet (.list ((srtI (nsOn m) ++ [(n : Int)]).map .int)) = some (.list ((numsT m n).map .int)) := by
    show ((allD intD ((srtI (nsOn m) ++ [(n : Int)]).map PyData.int)).bind fun ns => if ns.length < 64 then some (PyData.list ((ssetI ns).map PyData.int)) else none) = _
    rw [allD_map (f := intD) (g := PyData.int) (fun _ => rfl)]
    show (if (srtI (nsOn m) ++ [(n : Int)]).length < 64 then _ else _) = _
    rw [if_pos (by rw [List.length_append, srtI_len]; simp only [List.length_cons, List.length_nil]; omega)]
    have : ssetI (srtI (nsOn m) ++ [(n : Int)]) = numsT m n := sset_congr fun z => by
      rw [List.mem_append, List.mem_append, mem_srtI]
    rw [this]
  have hadd : oAdd (.list ((srtI (nsOn m)).map .int)) (.list [.int n]) = some (.list ((srtI (nsOn m) ++ [(n : Int)]).map .int)) := by
    rw [oAdd_l (by rw [List.length_map, srtI_len]; simp only [List.length_cons, List.length_nil]; omega), List.map_append]
    rfl
  have hmx : oMax2 [.int 0, .int ((((numsT m n).map PyData.int).length : Int) - (many : Int))] = some (.int (((numsT m n).length - many : Nat) : Int)) := by
    show some (PyData.int (if (((numsT m n).map PyData.int).length : Int) - (many : Int) > 0 then _ else 0)) = _
    rw [List.length_map]
    congr 2
    split <;> omega
  have hnT := numsT_len m n
  have hcut : oSl (.list ((numsT m n).map .int)) none (some (((numsT m n).length - many : Nat) : Int)) = some (.list (((numsT m n).take ((numsT m n).length - many)).map .int)) := by
    show some (PyData.list (cutD _ none (some _))) = _
    rw [cutD_to (by omega), Int.toNat_natCast, List.map_take]
  have f2 : ∀ x0 x1 x2 x3 x4 x6 x7, lLc [7] (iD (mVar 5)) (gN 7) mYes (mTup (aCons (mC (.str "drop")) (aCons (mCall (F_name_of) (xDat (mVar 7) xNil)) aNil))) [x0, x1, x2, x3, x4, .dat (.list (((numsT m n).take ((numsT m n).length - many)).map .int)), x6, x7] = some ((dropsT ((numsT m n).take ((numsT m n).length - many))).map Stp.d) := fun x0 x1 x2 x3 x4 x6 x7 => by
    rw [v_lLc, v_iD]
    show (if (((numsT m n).take ((numsT m n).length - many)).map PyData.int).length < sizeLine then _ else _) = _
    rw [if_pos (show _ < sizeLine by rw [List.length_map, List.length_take, sizeLine_is]; omega)]
    unfold dropsT
    rw [List.map_map]
    refine lc_mapT PyData.int _ _ fun z hz => ⟨_, rfl, ?_⟩
    have hzz := numsT_in (m := m) hn hn9 z (List.mem_of_mem_take hz)
    have hnz := name_is (n := z.toNat) (by omega)
    rw [show ((z.toNat : Nat) : Int) = z by omega] at hnz
    simp [hnz, Stp.d]
  have hpl : (putsT n mk b).length = b.length + 2 := by
    unfold putsT
    rw [List.length_map, hrl]
  have hdl : (dropsT ((numsT m n).take ((numsT m n).length - many))).length ≤ 61 := by
    unfold dropsT
    rw [List.length_map, List.length_take]
    omega
  refine run_rt ?_
  rw [B_steps_for]
  rw [v_seqN (ρ' := [.dat (dkD m), .dat (svD n mk b), .dat (.int many), .own [(Stp.begin "new").d], .no, .no, .no, .no]) (v_own (es := [(Stp.begin "new").d]) rfl)]
  rw [v_seqN (ρ' := [.dat (dkD m), .dat (svD n mk b), .dat (.int many), .own ([(Stp.begin "new").d] ++ (putsT n mk b).map Stp.d), .no, .no, .no, .no]) (v_extend rfl (f1 _ _ _ _ _) (by rw [List.length_map]; simp only [List.length_cons, List.length_nil]; omega))]
  have hmv : mTup (aCons (mC (.str "move")) (aCons (mC (.str "new")) (aCons (mCall (F_name_of) (xDat (m2 oIx (mVar 1) (mC (.int 0))) xNil)) aNil))) [.dat (dkD m), .dat (svD n mk b), .dat (.int many), .own ([(Stp.begin "new").d] ++ (putsT n mk b).map Stp.d), .no, .no, .no, .no] = some (Stp.move "new" (nmL n)).d := by
    simp [svD, hnm, Stp.d]
  rw [v_seqN (ρ' := [.dat (dkD m), .dat (svD n mk b), .dat (.int many), .own ([(Stp.begin "new").d] ++ (putsT n mk b).map Stp.d ++ [(Stp.move "new" (nmL n)).d]), .no, .no, .no, .no]) (v_append rfl hmv (by rw [List.length_append, List.length_map]; simp only [List.length_cons, List.length_nil]; omega))]
  generalize hO : [(Stp.begin "new").d] ++ (putsT n mk b).map Stp.d ++ [(Stp.move "new" (nmL n)).d] = own
  have hol : own.length = b.length + 4 := by
    rw [← hO, List.length_append, List.length_append, List.length_map, hpl]
    simp only [List.length_cons, List.length_nil]
    omega
  have hs4 : sSet 4 (m1 oSSet (m2 oAdd (mCall (F_numbers_on) (xDat (mVar 0) xNil)) (mLst (aCons (m2 oIx (mVar 1) (mC (.int 0))) aNil)))) [.dat (dkD m), .dat (svD n mk b), .dat (.int many), .own own, .no, .no, .no, .no] = some (.nx [.dat (dkD m), .dat (svD n mk b), .dat (.int many), .own own, .dat (.list ((numsT m n).map .int)), .no, .no, .no]) := by
    rw [v_sSet, v_m1, v_m2, v_call, v_xDat]
    simp only [v_var0, Option.bind_some, v_xNil, hno]
    show Option.map _ ((oAdd (.list ((srtI (nsOn m)).map .int)) (.list [.int n])).bind oSSet) = _
    rw [hadd, Option.bind_some, hset]
    rfl
  rw [v_seqN hs4]
  have hs5 : sSet 5 (mSl (mVar 4) oNone (oSome (mA oMax2 (aCons (mC (.int 0)) (aCons (m2 oSub (mA oLen (aCons (mVar 4) aNil)) (mVar 2)) aNil))))) [.dat (dkD m), .dat (svD n mk b), .dat (.int many), .own own, .dat (.list ((numsT m n).map .int)), .no, .no, .no] = some (.nx [.dat (dkD m), .dat (svD n mk b), .dat (.int many), .own own, .dat (.list ((numsT m n).map .int)), .dat (.list (((numsT m n).take ((numsT m n).length - many)).map .int)), .no, .no]) := by
    have e : mA oMax2 (aCons (mC (.int 0)) (aCons (m2 oSub (mA oLen (aCons (mVar 4) aNil)) (mVar 2)) aNil)) [.dat (dkD m), .dat (svD n mk b), .dat (.int many), .own own, .dat (.list ((numsT m n).map .int)), .no, .no, .no] = some (.int (((numsT m n).length - many : Nat) : Int)) := hmx
    rw [v_sSet]
    unfold mSl oSome
    rw [e]
    show Option.map _ (oSl (.list ((numsT m n).map .int)) none (some (((numsT m n).length - many : Nat) : Int))) = _
    rw [hcut]
    rfl
  rw [v_seqN hs5]
  rw [v_seqN (ρ' := [.dat (dkD m), .dat (svD n mk b), .dat (.int many), .own (own ++ (dropsT ((numsT m n).take ((numsT m n).length - many))).map Stp.d), .dat (.list ((numsT m n).map .int)), .dat (.list (((numsT m n).take ((numsT m n).length - many)).map .int)), .no, .no]) (v_extend rfl (f2 _ _ _ _ _ _ _) (by rw [List.length_map]; omega))]
  show some (Out.rt (.tuple (own ++ (dropsT ((numsT m n).take ((numsT m n).length - many))).map Stp.d))) = _
  rw [← hO]
  unfold stD stepsT
  simp
end Pu

set_option Elab.async false
set_option linter.all false
set_option autoImplicit false
set_option maxRecDepth 100000
/-! the law's own steps -/
namespace Pu
open PySem PySem.Spec PyProof.Rows L2
open SX (S)
open TL (numL)
theorem v_while0 {n : Nat} {c : Mir} {F : MirS} {ρ : Rho} (h : c ρ = some (.bool false)) : sWhile (n + 1) c F ρ = some (.nx ρ) := by
  unfold sWhile
  rw [h]
theorem v_while1 {n : Nat} {c : Mir} {F : MirS} {ρ ρ' : Rho} (h : c ρ = some (.bool true)) (h2 : F ρ = some (.nx ρ')) : sWhile (n + 1) c F ρ = sWhile n c F ρ' := by
  rw [sWhile, h]
  show ((F ρ).bind _) = _
  rw [h2]
  rfl
theorem lawdrop_loop (many : Nat) (x0 x1 x3 x6 x7 x8 : Sl) : ∀ (k : Nat) (zs : List Int) (own : List D) (fuel : Nat), zs.length - many = k → k < fuel → own.length + zs.length ≤ 1000000 → (∀ z ∈ zs, 1 ≤ z ∧ z ≤ 9999) →
    sWhile fuel (m2 oGt (mA oLen (aCons (mVar 5) aNil)) (mVar 2))
      (sSeq (sAppend 4 (mTup (aCons (mC (.str "drop")) (aCons (m2 oAdd (mC (.str "s")) (mA oStr (aCons (m2 oIx (mVar 5) (mC (.int 0))) aNil))) aNil))))
    (sSet 5 (mSl (mVar 5) (oSome (mC (.int 1))) oNone))) [x0, x1, .dat (.int many), x3, .own own, .dat (.list (zs.map .int)), x6, x7, x8] = some (.nx [x0, x1, .dat (.int many), x3, .own (own ++ (dropsT (zs.take (zs.length - many))).map Stp.d), .dat (.list ((zs.drop (zs.length - many)).map .int)), x6, x7, x8])
  | 0, zs, own, fuel + 1, hk, _, _, _ => by
    have : ¬ (many : Int) < (zs.length : Int) := by omega
    rw [v_while0 (by simp [this]), hk]
    simp [dropsT]
  | k + 1, [], own, fuel + 1, hk, _, _, _ => by simp at hk
  | k + 1, z :: zs, own, fuel + 1, hk, hf, hl, hz => by
    rw [List.length_cons] at hk hl
    have hzz := hz z List.mem_cons_self
    have h1 := oStr_i (i := z) (by omega) (by omega)
    have h2 : oAdd (.str "s") (.str (S (numL z.toNat))) = some (.str (nmL z.toNat)) := by
      rw [s_S, addSS (by have := num12 (n := z.toNat) (by omega); simp only [List.length_cons, List.length_nil]; omega)]
      rfl
    have ih := lawdrop_loop many x0 x1 x3 x6 x7 x8 k zs (own ++ [(Stp.drop (nmL z.toNat)).d]) fuel (by omega) (by omega) (by rw [List.length_append, List.length_singleton]; omega) fun y hy => hz y (List.mem_cons_of_mem _ hy)
    have hc : (many : Int) < (((z :: zs).length : Nat) : Int) := by rw [List.length_cons]; omega
    rw [v_while1 (ρ' := [x0, x1, .dat (.int many), x3, .own (own ++ [(Stp.drop (nmL z.toNat)).d]), .dat (.list (zs.map .int)), x6, x7, x8]) ?_ ?_, ih]
    · rw [show (z :: zs).length - many = (zs.length - many) + 1 by rw [List.length_cons]; omega]
      simp [dropsT]
    · show (some (PyData.bool (decide ((many : Int) < ((((z :: zs).map PyData.int).length : Nat) : Int))))) = _
      rw [List.length_map, decide_eq_true hc]
    · rw [v_seqN (ρ' := [x0, x1, .dat (.int many), x3, .own (own ++ [(Stp.drop (nmL z.toNat)).d]), .dat (.list ((z :: zs).map .int)), x6, x7, x8]) (v_append rfl (by simp [h1, h2, Stp.d]) (by omega))]
      have : mSl (mVar 5) (oSome (mC (.int 1))) oNone [x0, x1, .dat (.int many), x3, .own (own ++ [(Stp.drop (nmL z.toNat)).d]), .dat (.list ((z :: zs).map .int)), x6, x7, x8] = some (.list (zs.map .int)) := by
        show some (PyData.list (cutD ((z :: zs).map PyData.int) (some 1) none)) = _
        rw [cut_tail]
        rfl
      rw [v_sSet, this]
      rfl
theorem lawsteps_is {m : Dk} {n mk : Nat} {b : Mp Int} {many : Nat} (hm : m.length ≤ 60) (hk : Kl m) (hn : 1 ≤ n) (hn9 : n ≤ 9999) (h2 : mk < 1000000) (hb : Sm b) (hbk : ∀ p ∈ b, keyOk p.1 = true) :
    F_law_steps [.dat (dkD m), .dat (svD n mk b), .dat (.int many)] = some (stD (stepsT m n mk b many)) := by
  have hw := ltext_is (n := n) (by omega) h2 hb
  have hwl := wrL_len (n := n) (by omega) h2 hb
  have hsp := splitN (l := wrL n mk b) (by omega)
  have hrs := rows_split (n := n) (by omega) h2 hb hbk
  have hpe := puts_each (n := n) (by omega) h2 hb
  have hrl : (rowsL n mk b ++ [endL (bodyL n mk b)]).length = b.length + 2 := by
    rw [List.length_append, rowsL_len]
    rfl
  have hbl := hb.len
  have hnL := nsOn_len m
  have hnT := numsT_len m n
  have hpl : (putsT n mk b).length = b.length + 2 := by
    unfold putsT
    rw [List.length_map, hrl]
  refine run_rt ?_
  rw [B_law_steps]
  have s1 : mSl (m2 oSplit (mCall (F_law_text) (xDat (mVar 1) xNil)) (mC (.str "\n"))) oNone (oSome (m1 oNeg (mC (.int 1)))) (startR 9 [.dat (dkD m), .dat (svD n mk b), .dat (.int many)]) = some (.list (rwD (rowsL n mk b ++ [endL (bodyL n mk b)]))) := by
    unfold mSl
    rw [v_m2, v_call, v_xDat]
    simp only [startR, List.cons_append, v_varS, v_var0, Option.bind_some, v_xNil, hw, v_C, hsp]
    exact hrs
  rw [v_seqN (ρ' := [.dat (dkD m), .dat (svD n mk b), .dat (.int many), .dat (.list (rwD (rowsL n mk b ++ [endL (bodyL n mk b)]))), .no, .no, .no, .no, .no]) (by rw [v_sSet, s1]; rfl)]
  generalize hR : rowsL n mk b ++ [endL (bodyL n mk b)] = rs at *
  have hput : (putsT n mk b) = rs.map fun r => Stp.put "new" (r ++ [10]) := by
    unfold putsT
    rw [hR]
  have s2 : lAdd (mLst (aCons (mTup (aCons (mC (.str "begin")) (aCons (mC (.str "new")) aNil))) aNil)) (mL (lLc [6] (iD (mVar 3)) (gN 6) mYes (mTup (aCons (mC (.str "put")) (aCons (mC (.str "new")) (aCons (m2 oAdd (mVar 6) (mC (.str "\n"))) aNil)))))) [.dat (dkD m), .dat (svD n mk b), .dat (.int many), .dat (.list (rwD rs)), .no, .no, .no, .no, .no] = some ([(Stp.begin "new").d] ++ (putsT n mk b).map Stp.d) := by
    have hL := v_listLc (ρ := [.dat (dkD m), .dat (svD n mk b), .dat (.int many), .dat (.list (rwD rs)), .no, .no, .no, .no, .no]) (vs := [6]) (fi := iD (mVar 3)) (ds := rwD rs) rfl (by unfold rwD; rw [List.length_map]; omega) (puts_lc (i := 6) hpe fun d => rfl)
    unfold lAdd
    rw [hL, hput]
    show (if _ then _ else _) = _
    rw [if_pos (show _ ≤ sizeLine by rw [List.length_map, List.length_map, sizeLine_is]; simp only [List.length_cons, List.length_nil]; omega)]
    rfl
  rw [v_seqN (v_own s2)]
  have hst := oStr_n (n := n) (by omega)
  have hnm : oAdd (.str "s") (.str (S (numL n))) = some (.str (nmL n)) := by
    rw [s_S, addSS (by have := num12 (n := n) (by omega); simp only [List.length_cons, List.length_nil]; omega)]
    rfl
  have hmv : mTup (aCons (mC (.str "move")) (aCons (mC (.str "new")) (aCons (m2 oAdd (mC (.str "s")) (mA oStr (aCons (m2 oIx (mVar 1) (mC (.int 0))) aNil))) aNil))) [.dat (dkD m), .dat (svD n mk b), .dat (.int many), .dat (.list (rwD rs)), .own ([(Stp.begin "new").d] ++ (putsT n mk b).map Stp.d), .no, .no, .no, .no] = some (Stp.move "new" (nmL n)).d := by
    simp [svD, hst, hnm, Stp.d]
  rw [v_seqN (ρ' := [.dat (dkD m), .dat (svD n mk b), .dat (.int many), .dat (.list (rwD rs)), .own ([(Stp.begin "new").d] ++ (putsT n mk b).map Stp.d ++ [(Stp.move "new" (nmL n)).d]), .no, .no, .no, .no]) (v_append rfl hmv (by rw [List.length_append, List.length_map]; simp only [List.length_cons, List.length_nil]; omega))]
  generalize hO : [(Stp.begin "new").d] ++ (putsT n mk b).map Stp.d ++ [(Stp.move "new" (nmL n)).d] = own
  have hol : own.length = b.length + 4 := by
    rw [← hO, List.length_append, List.length_append, List.length_map, hpl]
    simp only [List.length_cons, List.length_nil]
    omega
  have s5 : sSet 5 (m2 oAdd (mL (lLc [7] (iD (mVar 0)) (gN 7) mYes (mCall (F_law_number) (xDat (m2 oIx (mVar 7) (mC (.int 0))) xNil)))) (mLst (aCons (m2 oIx (mVar 1) (mC (.int 0))) aNil))) [.dat (dkD m), .dat (svD n mk b), .dat (.int many), .dat (.list (rwD rs)), .own own, .no, .no, .no, .no] = some (.nx [.dat (dkD m), .dat (svD n mk b), .dat (.int many), .dat (.list (rwD rs)), .own own, .dat (.list (((m.map fun p => (numOf p.1 : Int)) ++ [(n : Int)]).map .int)), .no, .no, .no]) := by
    have hL := v_listLc (ρ := [.dat (dkD m), .dat (svD n mk b), .dat (.int many), .dat (.list (rwD rs)), .own own, .no, .no, .no, .no]) (vs := [7]) (fi := iD (mVar 0)) (m := gN 7) (tt := mYes) (te := mCall (F_law_number) (xDat (m2 oIx (mVar 7) (mC (.int 0))) xNil)) (ds := itM emT m) rfl (by rw [itM_len]; omega)
      (lc_mapT (prD emT) (fun p => PyData.int (numOf p.1 : Int)) m fun p hp => ⟨_, rfl, by simp [prD, lawnumber_is (hk p hp)]⟩)
    rw [v_sSet, v_m2, hL]
    show Option.map _ (oAdd (.list (m.map fun p => PyData.int (numOf p.1 : Int))) (.list [.int n])) = _
    rw [oAdd_l (by rw [List.length_map]; simp only [List.length_cons, List.length_nil]; omega)]
    show some _ = some _
    congr 2
    rw [List.map_append, List.map_map]
    rfl
  rw [v_seqN s5]
  have s6 : sSet 5 (m1 oSSet (mL (lLc [8] (iD (mVar 5)) (gN 8) (m2 oGt (mVar 8) (mC (.int 0))) (mVar 8)))) [.dat (dkD m), .dat (svD n mk b), .dat (.int many), .dat (.list (rwD rs)), .own own, .dat (.list (((m.map fun p => (numOf p.1 : Int)) ++ [(n : Int)]).map .int)), .no, .no, .no] = some (.nx [.dat (dkD m), .dat (svD n mk b), .dat (.int many), .dat (.list (rwD rs)), .own own, .dat (.list ((numsT m n).map .int)), .no, .no, .no]) := by
    generalize hz : (m.map fun p => (numOf p.1 : Int)) ++ [(n : Int)] = zs
    have hzl : zs.length = m.length + 1 := by
      rw [← hz, List.length_append, List.length_map]
      rfl
    have hL := v_listLc (ρ := [.dat (dkD m), .dat (svD n mk b), .dat (.int many), .dat (.list (rwD rs)), .own own, .dat (.list (zs.map .int)), .no, .no, .no]) (vs := [8]) (fi := iD (mVar 5)) (m := gN 8) (tt := m2 oGt (mVar 8) (mC (.int 0))) (te := mVar 8) (ds := zs.map .int) rfl (by rw [List.length_map]; omega)
      (lc_filterT PyData.int PyData.int (fun z => decide (0 < z)) zs fun z hz => ⟨_, rfl, by simp, fun _ => rfl⟩)
    have hset : oSSet (.list ((zs.filter fun z => decide (0 < z)).map .int)) = some (.list ((numsT m n).map .int)) := by
      show ((allD intD ((zs.filter fun z => decide (0 < z)).map PyData.int)).bind fun ns => if ns.length < 64 then some (PyData.list ((ssetI ns).map PyData.int)) else none) = _
      rw [allD_map (f := intD) (g := PyData.int) (fun _ => rfl)]
      show (if (zs.filter fun z => decide (0 < z)).length < 64 then _ else _) = _
      have := List.length_filter_le (fun z : Int => decide (0 < z)) zs
      rw [if_pos (by omega)]
      have : ssetI (zs.filter fun z => decide (0 < z)) = numsT m n := sset_congr fun z => by
        rw [← hz, List.filter_append]
        unfold nsOn
        rw [List.mem_append, List.mem_append, show ([(n : Int)].filter fun z => decide (0 < z)) = [(n : Int)] from List.filter_cons_of_pos (by simp; omega)]
      rw [this]
    rw [v_sSet, v_m1, hL, Option.bind_some, hset]
    rfl
  rw [v_seqN s6]
  have hloop := lawdrop_loop many (.dat (dkD m)) (.dat (svD n mk b)) (.dat (.list (rwD rs))) .no .no .no _ (numsT m n) own 100 rfl (by omega) (by omega) (numsT_in hn hn9)
  rw [v_seqN hloop]
  show some (Out.rt (.tuple (own ++ (dropsT ((numsT m n).take ((numsT m n).length - many))).map Stp.d))) = _
  rw [← hO]
  unfold stD stepsT
  simp
end Pu

set_option Elab.async false
set_option linter.all false
set_option autoImplicit false
set_option maxRecDepth 100000
/-! the law's own way to do a step; drawn disks -/
namespace Pu
open PySem PySem.Spec PyProof.Rows L2
open SX (S)
open TL (numL)
theorem del_rise {α : Type} {m : Mp α} {k : Str} (h : Rise m) : Rise (del m k) := List.Pairwise.sublist List.filter_sublist h
theorem del_none {α : Type} {m : Mp α} {k : Str} (h : val m k = none) : del m k = m := by
  unfold del
  rw [List.filter_eq_self]
  intro q hq
  rw [val_none_iff] at h
  simp only [decide_eq_true_eq]
  exact fun z => h (List.mem_map.mpr ⟨q, hq, z⟩)
theorem done_of_val {m m' : Dk} {d : Stp} (hm : Rise m) (nd : Nd m') (h : val m' = stF (val m) d) : srt m' = doneM m [d] := by
  refine Rise.ext (srt_rise nd) (doneM_rise hm.nd _) fun k => ?_
  rw [srt_val nd, doneM_val hm.nd, h]
  rfl
theorem done_rise_of {m m' : Dk} {d : Stp} (hm : Rise m) (hr : Rise m') (h : val m' = stF (val m) d) : m' = doneM m [d] := by
  rw [← done_of_val hm hr.nd h, srt_self hr]
theorem done_cons {m : Dk} {d : Stp} {ds : List Stp} (hm : Rise m) : doneM (doneM m [d]) ds = doneM m (d :: ds) := by
  have h1 := doneM_rise hm.nd [d]
  refine Rise.ext (doneM_rise h1.nd _) (doneM_rise hm.nd _) fun k => ?_
  rw [doneM_val h1.nd, doneM_val hm.nd, doneM_val hm.nd]
  rfl
theorem done_nil {m : Dk} (hm : Rise m) : doneM m [] = m := srt_self hm
theorem done_append {m : Dk} (hm : Rise m) (ds es : List Stp) : doneM (doneM m ds) es = doneM m (ds ++ es) := by
  have h1 := doneM_rise hm.nd ds
  refine Rise.ext (doneM_rise h1.nd _) (doneM_rise hm.nd _) fun k => ?_
  rw [doneM_val h1.nd, doneM_val hm.nd, doneM_val hm.nd, List.foldl_append]
theorem sorted_dkT {m : Dk} (nd : Nd m) (hl : m.length ≤ 16777216) : oSorted [.tuple (itM emT m)] = some (.list (itM emT (srt m))) := by
  show (if sortOk (itM emT m) = true then some (PyData.list ((itM emT m).mergeSort leD)) else none) = _
  rw [if_pos (sortOk_it emT_ok hl), sort_it emT_ok nd]
theorem sorted_dkL {m : Dk} (nd : Nd m) (hl : m.length ≤ 16777216) : oSorted [.list (itM emT m)] = some (.list (itM emT (srt m))) := by
  show (if sortOk (itM emT m) = true then some (PyData.list ((itM emT m).mergeSort leD)) else none) = _
  rw [if_pos (sortOk_it emT_ok hl), sort_it emT_ok nd]
theorem stepped_is {m : Dk} {d : Stp} {n a : Nat} (hm : Rise m) (hl : m.length ≤ 1000000) (ht : Tl n m) (hd : d.tl a) (hna : n + a ≤ 16777216) : F_law_stepped [.dat (dkD m), .dat d.d] = some (dkD (doneM m [d])) := by
  have nd := hm.nd
  have e2 : HT.sIx 3 3 (some 2) = 2 := by decide
  have e3 : HT.sIx 2 2 (some 2) = 2 := by decide
  -- the rest
  have hrest : ∀ (k : Str) (x1 x2 x4 x5 x6 : Sl), mA oTuple (aCons (mL (lLc [6] (iD (mVar 0)) (gN 6) (m2 oNe (m2 oIx (mVar 6) (mC (.int 0))) (mVar 3)) (mVar 6))) aNil) [.dat (dkD m), x1, x2, .dat (.str k), x4, x5, x6] = some (.tuple (itM emT (del m k))) := fun k x1 x2 x4 x5 x6 =>
    v_tupLc (ds := itM emT m) rfl (by rw [itM_len]; omega) (lc_filterT (prD emT) (prD emT) (fun p => decide (p.1 ≠ k)) m fun p hp => ⟨_, rfl, by simp [prD], fun _ => rfl⟩)
  have hold : ∀ (k : Str) (x1 x2 x4 x5 x6 : Sl), mDGet2 (dPairs (mVar 0)) (mVar 3) (mC .none) [.dat (dkD m), x1, x2, .dat (.str k), x4, x5, x6] = some (((val m k).map emT).getD .none) := fun k x1 x2 x4 x5 x6 => by
    unfold mDGet2
    rw [dPairs_it (m := m) (em := emT) (.inl rfl) nd]
    show some ((valD (kvM emT m) (.inr k)).getD .none) = _
    rw [valD_kv]
  have dl : ∀ k, (del m k).length ≤ m.length := fun k => del_len
  have hadd : ∀ (k : Str) (t : List Nat), oAdd (.tuple (itM emT (del m k))) (.tuple [.tuple [.str k, .str (S t)]]) = some (.tuple (itM emT (del m k ++ [(k, t)]))) := fun k t => by
    have := dl k
    rw [oAdd_t (by rw [itM_len]; simp only [List.length_cons, List.length_nil]; omega)]
    unfold itM
    rw [List.map_append]
    rfl
  have ndk : ∀ (k : Str) (t : List Nat), Nd (del m k ++ [(k, t)]) := fun k t => nd_snoc (nd_del nd) (by rw [val_del]; simp)
  have hsrt : ∀ (k : Str) (t : List Nat), oSorted [.tuple (itM emT (del m k ++ [(k, t)]))] = some (.list (itM emT (srt (del m k ++ [(k, t)])))) := fun k t => sorted_dkT (ndk k t) (by
    have := dl k
    rw [List.length_append]
    simp only [List.length_cons, List.length_nil]
    omega)
  have hvk : ∀ (k : Str) (t : List Nat), val (del m k ++ [(k, t)]) = fput (val m) k t := fun k t => by
    funext j
    rw [val_append, val_del, val_cons, val_nil]
    unfold fput
    by_cases h : j = k
    · simp [h]
    · have h' : ¬ k = j := fun z => h z.symm
      simp [h, h']
  refine run_rt ?_
  cases d with
  | begin k =>
    have e := done_of_val (d := .begin k) hm (ndk k []) (by rw [hvk]; rfl)
    have hs := hsrt k []
    rw [e] at hs
    have ha := hadd k []
    rw [← em_S] at ha
    simp (maxDischargeDepth := 10) (implicitDefEqProofs := false) [B_law_stepped, startR, Stp.d, mSl, oSl, oNone, oSome, cutD, HT.sIx_none, e3, ↓hrest, ↓hold, ha, hs]
    rfl
  | drop k =>
    have e := done_rise_of (d := .drop k) hm (del_rise (k := k) hm) (by funext j; rw [val_del]; rfl)
    simp (maxDischargeDepth := 10) (implicitDefEqProofs := false) [B_law_stepped, startR, Stp.d, mSl, oSl, oNone, oSome, cutD, HT.sIx_none, e3, ↓hrest, ↓hold]
    rw [e]
    rfl
  | put k t =>
    cases hv : val m k with
    | none =>
      have e := done_rise_of (d := .put k t) (m' := m) hm hm (by simp only [stF, hv])
      have hd' := del_none hv
      simp (maxDischargeDepth := 10) (implicitDefEqProofs := false) [B_law_stepped, startR, Stp.d, mSl, oSl, oNone, oSome, cutD, HT.sIx_none, e2, ↓hrest, ↓hold, hv, oIs, isN]
      rw [hd', ← e]
      rfl
    | some v =>
      have hv1 := ht k v hv
      have ht1 : t.length ≤ a := hd
      have e := done_of_val (d := .put k t) hm (ndk k (v ++ t)) (by rw [hvk]; simp only [stF, hv])
      have hs := hsrt k (v ++ t)
      rw [e] at hs
      have ha := hadd k (v ++ t)
      have hcat : oAdd (.str (S v)) (.str (S t)) = some (.str (S (v ++ t))) := addSS (by omega)
      have hold' : ∀ (x1 x2 x4 x5 x6 : Sl), mDGet2 (dPairs (mVar 0)) (mVar 3) (mC .none) [.dat (dkD m), x1, x2, .dat (.str k), x4, x5, x6] = some (.str (S v)) := fun x1 x2 x4 x5 x6 => by
        rw [hold, hv]
        rfl
      simp (maxDischargeDepth := 10) (implicitDefEqProofs := false) [B_law_stepped, startR, Stp.d, mSl, oSl, oNone, oSome, cutD, HT.sIx_none, e2, ↓hrest, ↓hold', oIs, isN, hcat, ha, hs, -List.append_assoc]
      rfl
  | move k j =>
    cases hv : val m k with
    | none =>
      have e := done_rise_of (d := .move k j) (m' := m) hm hm (by simp only [stF, hv])
      have hd' := del_none hv
      simp (maxDischargeDepth := 10) (implicitDefEqProofs := false) [B_law_stepped, startR, Stp.d, mSl, oSl, oNone, oSome, cutD, HT.sIx_none, e2, ↓hrest, ↓hold, hv, oIs, isN]
      rw [hd', ← e]
      rfl
    | some v =>
      have hold' : ∀ (x1 x2 x4 x5 x6 : Sl), mDGet2 (dPairs (mVar 0)) (mVar 3) (mC .none) [.dat (dkD m), x1, x2, .dat (.str k), x4, x5, x6] = some (.str (S v)) := fun x1 x2 x4 x5 x6 => by
        rw [hold, hv]
        rfl
      have ndj : Nd (del (del m k) j ++ [(j, v)]) := nd_snoc (nd_del (nd_del nd)) (by rw [val_del]; simp)
      have hl2 : (del (del m k) j).length ≤ m.length := Nat.le_trans del_len del_len
      have e := done_of_val (d := .move k j) hm ndj (by
        funext i
        rw [val_append, val_del, val_del, val_cons, val_nil]
        simp only [stF, hv, fput, fdel]
        by_cases h : i = j
        · simp [h]
        · have h' : ¬ j = i := fun z => h z.symm
          simp [h, h'])
      have hs := sorted_dkL ndj (by
        rw [List.length_append]
        simp only [List.length_cons, List.length_nil]
        omega)
      rw [e] at hs
      have hL : ∀ (x2 x3 x5 x6 : Sl), mL (lLc [6] (iD (mVar 4)) (gN 6) (m2 oNe (m2 oIx (mVar 6) (mC (.int 0))) (m2 oIx (mVar 1) (mC (.int 2)))) (mVar 6)) [.dat (dkD m), .dat (.tuple [.str "move", .str k, .str j]), x2, x3, .dat (.tuple (itM emT (del m k))), x5, x6] = some (.list (itM emT (del (del m k) j))) := fun x2 x3 x5 x6 =>
        v_listLc (ds := itM emT (del m k)) rfl (by rw [itM_len]; have := dl k; omega) (lc_filterT (prD emT) (prD emT) (fun p => decide (p.1 ≠ j)) (del m k) fun p hp => ⟨_, rfl, by simp [prD], fun _ => rfl⟩)
      have ha : oAdd (.list (itM emT (del (del m k) j))) (.list [.tuple [.str j, .str (S v)]]) = some (.list (itM emT (del (del m k) j ++ [(j, v)]))) := by
        rw [oAdd_l (by rw [itM_len]; simp only [List.length_cons, List.length_nil]; omega)]
        unfold itM
        rw [List.map_append]
        rfl
      simp (maxDischargeDepth := 10) (implicitDefEqProofs := false) [B_law_stepped, startR, Stp.d, mSl, oSl, oNone, oSome, cutD, HT.sIx_none, e2, ↓hrest, ↓hold', oIs, isN, ↓hL, ha, hs, -List.append_assoc]
      rfl
end Pu

set_option Elab.async false
set_option linter.all false
set_option autoImplicit false
set_option maxRecDepth 100000
/-! drawn disks -/
namespace Pu
open PySem PySem.Spec PyProof.Rows L2
open SX (S)
open TL (numL)
def dkNum (d : Int) : Nat := 1 + (d % (if d / 16 % 8 / 7 = 0 then 12 else 9999)).toNat
def dkMk (d : Int) : Nat := 1 + (d / 256 % 4).toNat
def dkBk (d : Int) : Mp Int := bkN (d / 1024)
def dkAll (d : Int) : List Nat := wrL (dkNum d) (dkMk d) (dkBk d)
def dkTx (d : Int) : List Nat := if d / 64 % 4 = 1 then (dkAll d).take (d / 512 % ((dkAll d).length : Int)).toNat else dkAll d
def name6 (x : Int) : Str := if x % 6 = 0 then "new" else if x % 6 = 1 then "s0" else if x % 6 = 2 then "s01" else if x % 6 = 3 then "other" else if x % 6 = 4 then "s10000" else "s7"
def dkNm (d : Int) : Str := if d / 64 % 16 = 2 then name6 (d / 2048) else nmL (dkNum d)
def dkDr (n : Int) (k : Nat) : Int := drN n (90 + (k : Int)) / 4
def dkGo (n : Int) (m : Dk) (l : List Nat) : Dk := l.foldl (fun m k => put m (dkNm (dkDr n k)) (dkTx (dkDr n k))) m
def dkN (n : Int) : Dk := srt (dkGo n [] (List.range (n % 7).toNat))
theorem name6_ix (x : Int) : atI [PyData.str "new", PyData.str "s0", PyData.str "s01", PyData.str "other", PyData.str "s10000", PyData.str "s7"] (x % 6) = some (PyData.str (name6 x)) := by
  unfold name6
  rcases (by omega : x % 6 = 0 ∨ x % 6 = 1 ∨ x % 6 = 2 ∨ x % 6 = 3 ∨ x % 6 = 4 ∨ x % 6 = 5) with h | h | h | h | h | h <;> rw [h] <;> rfl
theorem dkNum_le {d : Int} (h : 0 ≤ d) : 1 ≤ dkNum d ∧ dkNum d ≤ 9999 := by
  unfold dkNum
  split <;> omega
theorem dkMk_le {d : Int} : 1 ≤ dkMk d ∧ dkMk d ≤ 4 := by
  unfold dkMk
  omega
theorem dkBk_bk (d : Int) : Bk (dkBk d) := bkN_bk _
theorem dkBk_len (d : Int) : (dkBk d).length ≤ 5 := bkN_len _
theorem dkBk_sm (d : Int) : Sm (dkBk d) := (dkBk_bk d).sm (by have := dkBk_len d; omega)
theorem dkAll_len {d : Int} (h : 0 ≤ d) : (dkAll d).length ≤ 26100 := wrL_len (by have := dkNum_le h; omega) (by have := dkMk_le (d := d); omega) (dkBk_sm d)
theorem dkAll_pos (d : Int) : 1 ≤ (dkAll d).length := by
  unfold dkAll wrL
  rw [List.length_append, List.length_append]
  simp only [List.length_cons, List.length_nil]
  omega
theorem dkTx_len {d : Int} (h : 0 ≤ d) : (dkTx d).length ≤ 26100 := by
  have := dkAll_len h
  unfold dkTx
  split
  · rw [List.length_take]
    omega
  · exact this
theorem name6_len (x : Int) : (name6 x).length ≤ 6 := by
  unfold name6
  split
  · decide +kernel
  split
  · decide +kernel
  split
  · decide +kernel
  split
  · decide +kernel
  split <;> decide +kernel
theorem nmL_len {n : Nat} (h : n ≤ 9999) : (nmL n).length ≤ 5 := by
  unfold nmL
  have : (numL n).length ≤ 4 := TL.numL_len (by decide) (by omega)
  rw [SX.S_len, List.length_cons]
  omega
theorem dkNm_len {d : Int} (h : 0 ≤ d) : (dkNm d).length ≤ 6 := by
  unfold dkNm
  split
  · exact name6_len _
  · have := nmL_len (dkNum_le h).2
    omega
theorem dkDr_nn (n : Int) (k : Nat) : 0 ≤ dkDr n k := by
  have := drN_nn n (90 + (k : Int))
  unfold dkDr
  omega
def G_disk : MirS := (sSeq (sSet 3 (m2 oDiv (mCall (F_law_drawn) (xDat (mVar 0) (xDat (m2 oAdd (mC (.int 90)) (mVar 2)) xNil))) (mC (.int 4))))
    (sSeq (sSet 4 (mTup (aCons (m2 oAdd (mC (.int 1)) (m2 oMod (mVar 3) (m2 oIx (mTup (aCons (mC (.int 12)) (aCons (mC (.int 9999)) aNil))) (m2 oDiv (m2 oMod (m2 oDiv (mVar 3) (mC (.int 16))) (mC (.int 8))) (mC (.int 7)))))) (aCons (m2 oAdd (mC (.int 1)) (m2 oMod (m2 oDiv (mVar 3) (mC (.int 256))) (mC (.int 4)))) (aCons (mCall (F_law_book) (xDat (m2 oDiv (mVar 3) (mC (.int 1024))) xNil)) aNil)))))
    (sSeq (sSet 5 (mCall (F_law_text) (xDat (mVar 4) xNil)))
    (sSeq (sIf (m2 oEq (m2 oMod (m2 oDiv (mVar 3) (mC (.int 64))) (mC (.int 4))) (mC (.int 1)))
      (sSet 5 (mSl (mVar 5) oNone (oSome (m2 oMod (m2 oDiv (mVar 3) (mC (.int 512))) (mA oLen (aCons (mVar 5) aNil))))))
      sNil)
    (sSeq (sSet 6 (m2 oAdd (mC (.str "s")) (mA oStr (aCons (m2 oIx (mVar 4) (mC (.int 0))) aNil))))
    (sSeq (sIf (m2 oEq (m2 oMod (m2 oDiv (mVar 3) (mC (.int 64))) (mC (.int 16))) (mC (.int 2)))
      (sSet 6 (m2 oIx (mTup (aCons (mC (.str "new")) (aCons (mC (.str "s0")) (aCons (mC (.str "s01")) (aCons (mC (.str "other")) (aCons (mC (.str "s10000")) (aCons (mC (.str "s7")) aNil))))))) (m2 oMod (m2 oDiv (mVar 3) (mC (.int 2048))) (mC (.int 6)))))
      sNil)
    (sDPut 1 (mVar 6) (mVar 5))))))))
theorem B_disk_is : B_law_disk = sSeq (sDic 1 dNil) (sSeq (sFor (iR1 (aCons (m2 oMod (mVar 0) (mC (.int 7))) aNil)) (gN 2) G_disk) (sRet (mA oTuple (aCons (mSItems (dVar 1)) aNil)))) := rfl
theorem two_ix2 {x : Int} (h : 0 ≤ x) : atI [PyData.int 12, PyData.int 9999] (x / 16 % 8 / 7) = some (PyData.int (if x / 16 % 8 / 7 = 0 then 12 else 9999)) := by
  rcases (by omega : x / 16 % 8 / 7 = 0 ∨ x / 16 % 8 / 7 = 1) with h | h <;> rw [h] <;> simp
theorem disk_step (n : Int) (k : Nat) (m : Dk) (x3 x4 x5 x6 : Sl) (hl : m.length ≤ 1000) : ∃ y3 y4 y5 y6, G_disk [.dat (.int n), .dic (kvM emT m), .dat (.int k), x3, x4, x5, x6] = some (.nx [.dat (.int n), .dic (kvM emT (put m (dkNm (dkDr n k)) (dkTx (dkDr n k)))), .dat (.int k), y3, y4, y5, y6]) := by
  have hdr := drawn n (90 + (k : Int))
  have h0 := dkDr_nn n k
  have hd : drN n (90 + (k : Int)) / 4 = dkDr n k := rfl
  generalize hD : dkDr n k = d at *
  have hbk := book (d / 1024)
  have hn := dkNum_le h0
  have hmk := dkMk_le (d := d)
  have htx := ltext_is (n := dkNum d) (mk := dkMk d) (b := dkBk d) (by omega) (by omega) (dkBk_sm d)
  have hsv : PyData.tuple [PyData.int (1 + d % (if d / 16 % 8 / 7 = 0 then 12 else 9999)), PyData.int (1 + d / 256 % 4), bkD (bkN (d / 1024))] = svD (dkNum d) (dkMk d) (dkBk d) := by
    unfold svD dkBk
    have e1 : 1 + d % (if d / 16 % 8 / 7 = 0 then 12 else 9999) = ((dkNum d : Nat) : Int) := by
      unfold dkNum
      split <;> omega
    have e2 : 1 + d / 256 % 4 = ((dkMk d : Nat) : Int) := by
      unfold dkMk
      omega
    rw [e1, e2]
  have hpos : (0 : Int) < (if d / 16 % 8 / 7 = 0 then 12 else 9999) := by split <;> omega
  have hx := two_ix2 h0
  generalize hq : (if d / 16 % 8 / 7 = 0 then (12 : Int) else 9999) = q at *
  have hal := dkAll_len h0
  have hap := dkAll_pos d
  have hlen : oLen [.str (S (dkAll d))] = some (.int (dkAll d).length) := by rw [oLen_s (by rw [SX.S_len]; omega), SX.S_len]
  have htx' : F_law_text [.dat (svD (dkNum d) (dkMk d) (dkBk d))] = some (.str (S (dkAll d))) := htx
  have hcut : ∀ i : Int, 0 ≤ i → oSl (.str (S (dkAll d))) none (some i) = some (.str (S ((dkAll d).take i.toNat))) := fun i hi => by
    rw [oSl_S (by omega), cutN_to hi]
  have hst := oStr_n (n := dkNum d) (by omega)
  have hnm : oAdd (.str "s") (.str (S (numL (dkNum d)))) = some (.str (nmL (dkNum d))) := by
    rw [s_S, addSS (by have := num12 (n := dkNum d) (by omega); simp only [List.length_cons, List.length_nil]; omega)]
    rfl
  have hi0 : m2 oIx (mVar 4) (mC (.int 0)) = m2 oIx (mVar 4) (mC (.int 0)) := rfl
  have hsix := name6_ix (d / 2048)
  -- in steps
  have s3 : sSet 3 (m2 oDiv (mCall (F_law_drawn) (xDat (mVar 0) (xDat (m2 oAdd (mC (.int 90)) (mVar 2)) xNil))) (mC (.int 4))) [.dat (.int n), .dic (kvM emT m), .dat (.int k), x3, x4, x5, x6] = some (.nx [.dat (.int n), .dic (kvM emT m), .dat (.int k), .dat (.int d), x4, x5, x6]) := by
    simp [hdr, hd]
  have s4 : sSet 4 (mTup (aCons (m2 oAdd (mC (.int 1)) (m2 oMod (mVar 3) (m2 oIx (mTup (aCons (mC (.int 12)) (aCons (mC (.int 9999)) aNil))) (m2 oDiv (m2 oMod (m2 oDiv (mVar 3) (mC (.int 16))) (mC (.int 8))) (mC (.int 7)))))) (aCons (m2 oAdd (mC (.int 1)) (m2 oMod (m2 oDiv (mVar 3) (mC (.int 256))) (mC (.int 4)))) (aCons (mCall (F_law_book) (xDat (m2 oDiv (mVar 3) (mC (.int 1024))) xNil)) aNil)))) [.dat (.int n), .dic (kvM emT m), .dat (.int k), .dat (.int d), x4, x5, x6] = some (.nx [.dat (.int n), .dic (kvM emT m), .dat (.int k), .dat (.int d), .dat (svD (dkNum d) (dkMk d) (dkBk d)), x5, x6]) := by
    rw [← hsv]
    simp [hx, hpos, hbk]
  have s5 : sSet 5 (mCall (F_law_text) (xDat (mVar 4) xNil)) [.dat (.int n), .dic (kvM emT m), .dat (.int k), .dat (.int d), .dat (svD (dkNum d) (dkMk d) (dkBk d)), x5, x6] = some (.nx [.dat (.int n), .dic (kvM emT m), .dat (.int k), .dat (.int d), .dat (svD (dkNum d) (dkMk d) (dkBk d)), .dat (.str (S (dkAll d))), x6]) := by
    simp [htx']
  have s6 : sIf (m2 oEq (m2 oMod (m2 oDiv (mVar 3) (mC (.int 64))) (mC (.int 4))) (mC (.int 1)))
      (sSet 5 (mSl (mVar 5) oNone (oSome (m2 oMod (m2 oDiv (mVar 3) (mC (.int 512))) (mA oLen (aCons (mVar 5) aNil))))))
      sNil [.dat (.int n), .dic (kvM emT m), .dat (.int k), .dat (.int d), .dat (svD (dkNum d) (dkMk d) (dkBk d)), .dat (.str (S (dkAll d))), x6] = some (.nx [.dat (.int n), .dic (kvM emT m), .dat (.int k), .dat (.int d), .dat (svD (dkNum d) (dkMk d) (dkBk d)), .dat (.str (S (dkTx d))), x6]) := by
    unfold dkTx
    by_cases h : d / 64 % 4 = 1
    · have hp : (0 : Int) < ((dkAll d).length : Int) := by omega
      have hc := hcut (d / 512 % ((dkAll d).length : Int)) (Int.emod_nonneg _ (by omega))
      have hmod : oMod (.int (d / 512)) (.int ((dkAll d).length : Int)) = some (.int (d / 512 % ((dkAll d).length : Int))) := oMod_i hp
      rw [if_pos h]
      generalize d / 512 % ((dkAll d).length : Int) = ix at *
      simp (maxDischargeDepth := 10) (implicitDefEqProofs := false) [h, mSl, oNone, oSome, hlen, ↓hmod, hc]
    · rw [if_neg h]
      simp (maxDischargeDepth := 10) (implicitDefEqProofs := false) [h]
  have s7 : sSet 6 (m2 oAdd (mC (.str "s")) (mA oStr (aCons (m2 oIx (mVar 4) (mC (.int 0))) aNil))) [.dat (.int n), .dic (kvM emT m), .dat (.int k), .dat (.int d), .dat (svD (dkNum d) (dkMk d) (dkBk d)), .dat (.str (S (dkTx d))), x6] = some (.nx [.dat (.int n), .dic (kvM emT m), .dat (.int k), .dat (.int d), .dat (svD (dkNum d) (dkMk d) (dkBk d)), .dat (.str (S (dkTx d))), .dat (.str (nmL (dkNum d)))]) := by
    simp [svD, hst, hnm]
  have s8 : sIf (m2 oEq (m2 oMod (m2 oDiv (mVar 3) (mC (.int 64))) (mC (.int 16))) (mC (.int 2)))
      (sSet 6 (m2 oIx (mTup (aCons (mC (.str "new")) (aCons (mC (.str "s0")) (aCons (mC (.str "s01")) (aCons (mC (.str "other")) (aCons (mC (.str "s10000")) (aCons (mC (.str "s7")) aNil))))))) (m2 oMod (m2 oDiv (mVar 3) (mC (.int 2048))) (mC (.int 6)))))
      sNil [.dat (.int n), .dic (kvM emT m), .dat (.int k), .dat (.int d), .dat (svD (dkNum d) (dkMk d) (dkBk d)), .dat (.str (S (dkTx d))), .dat (.str (nmL (dkNum d)))] = some (.nx [.dat (.int n), .dic (kvM emT m), .dat (.int k), .dat (.int d), .dat (svD (dkNum d) (dkMk d) (dkBk d)), .dat (.str (S (dkTx d))), .dat (.str (dkNm d))]) := by
    unfold dkNm
    by_cases h : d / 64 % 16 = 2
    · rw [if_pos h]
      simp (maxDischargeDepth := 10) (implicitDefEqProofs := false) [h, hsix]
    · rw [if_neg h]
      simp (maxDischargeDepth := 10) (implicitDefEqProofs := false) [h]
  refine ⟨.dat (.int d), .dat (svD (dkNum d) (dkMk d) (dkBk d)), .dat (.str (S (dkTx d))), .dat (.str (dkNm d)), ?_⟩
  rw [G_disk, v_seqN s3, v_seqN s4, v_seqN s5, v_seqN s6, v_seqN s7, v_seqN s8]
  have hlt : List.length m < 16777216 := by omega
  have hput : putD (kvM emT m) (.inr (dkNm d)) (.str (S (dkTx d))) = kvM emT (put m (dkNm d) (dkTx d)) := putD_kv m (dkNm d) (dkTx d)
  simp [sDPut, kvM_len, hlt, hput]
theorem disk_loop (n : Int) : ∀ (l : List Nat) (m : Dk) (x2 x3 x4 x5 x6 : Sl), m.length + l.length ≤ 1000 → ∃ y2 y3 y4 y5 y6, sLoop (gN 2) G_disk (l.map fun (k : Nat) => PyData.int (k : Int)) [.dat (.int n), .dic (kvM emT m), x2, x3, x4, x5, x6] = some (.nx [.dat (.int n), .dic (kvM emT (dkGo n m l)), y2, y3, y4, y5, y6])
  | [], m, x2, x3, x4, x5, x6, _ => ⟨x2, x3, x4, x5, x6, rfl⟩
  | k :: l, m, x2, x3, x4, x5, x6, hl => by
    rw [List.length_cons] at hl
    obtain ⟨y3, y4, y5, y6, e⟩ := disk_step n k m x3 x4 x5 x6 (by omega)
    have hp := put_len (m := m) (k := dkNm (dkDr n k)) (v := dkTx (dkDr n k))
    obtain ⟨z2, z3, z4, z5, z6, e2⟩ := disk_loop n l (put m (dkNm (dkDr n k)) (dkTx (dkDr n k))) (.dat (.int k)) y3 y4 y5 y6 (by omega)
    refine ⟨z2, z3, z4, z5, z6, ?_⟩
    rw [List.map_cons, v_loopS (ρ1 := [.dat (.int n), .dic (kvM emT m), .dat (.int k), x3, x4, x5, x6]) rfl e, e2]
    rfl
theorem dkGo_nd (n : Int) : ∀ (l : List Nat) (m : Dk), Nd m → Nd (dkGo n m l)
  | [], _, h => h
  | k :: l, m, h => dkGo_nd n l _ (nd_put h)
theorem dkGo_len (n : Int) : ∀ (l : List Nat) (m : Dk), (dkGo n m l).length ≤ m.length + l.length
  | [], _ => Nat.le_refl _
  | k :: l, m => by
    have h1 := dkGo_len n l (put m (dkNm (dkDr n k)) (dkTx (dkDr n k)))
    have h2 := put_len (m := m) (k := dkNm (dkDr n k)) (v := dkTx (dkDr n k))
    show (dkGo n (put m (dkNm (dkDr n k)) (dkTx (dkDr n k))) l).length ≤ _
    rw [List.length_cons]
    omega
theorem nd0 {α : Type} : Nd ([] : Mp α) := by
  unfold Nd
  simp
theorem dkN_rise (n : Int) : Rise (dkN n) := srt_rise (dkGo_nd n _ [] nd0)
theorem dkN_len (n : Int) : (dkN n).length ≤ 6 := by
  have := dkGo_len n (List.range (n % 7).toNat) []
  unfold dkN
  rw [srt_len]
  rw [List.length_range, List.length_nil] at this
  omega
/-- each one is drawn -/
theorem dkGo_from (n : Int) : ∀ (l : List Nat) (m : Dk) (k : Str) (v : List Nat), val (dkGo n m l) k = some v → val m k = some v ∨ ∃ d : Int, 0 ≤ d ∧ k = dkNm d ∧ v = dkTx d
  | [], _, _, _, h => .inl h
  | i :: l, m, k, v, h => by
    rcases dkGo_from n l _ k v h with h | h
    · rw [val_put] at h
      split at h
      · rename_i e
        cases h
        exact .inr ⟨_, dkDr_nn n i, e, rfl⟩
      · exact .inl h
    · exact .inr h
theorem dkN_from {n : Int} {k : Str} {v : List Nat} (h : val (dkN n) k = some v) : ∃ d : Int, 0 ≤ d ∧ k = dkNm d ∧ v = dkTx d := by
  unfold dkN at h
  rw [srt_val (dkGo_nd n _ [] nd0)] at h
  rcases dkGo_from n _ [] k v h with h | h
  · cases h
  · exact h
theorem disk_is (n : Int) : F_law_disk [.dat (.int n)] = some (dkD (dkN n)) := by
  have hi : iR1 (aCons (m2 oMod (mVar 0) (mC (.int 7))) aNil) [.dat (.int n), .dic [], .no, .no, .no, .no, .no] = some ((List.range (n % 7).toNat).map fun (k : Nat) => PyData.int (k : Int)) := by
    rw [iR1_i (j := n % 7) (by simp) (by omega) (by omega), rgD_is]
  obtain ⟨y2, y3, y4, y5, y6, e⟩ := disk_loop n (List.range (n % 7).toNat) [] .no .no .no .no .no (by rw [List.length_range, List.length_nil]; omega)
  have hl := dkGo_len n (List.range (n % 7).toNat) []
  rw [List.length_range, List.length_nil] at hl
  have hs := mSItems_kv emT_ok (g := dVar 1) (ρ := [.dat (.int n), .dic (kvM emT (dkGo n [] (List.range (n % 7).toNat))), y2, y3, y4, y5, y6]) (m := dkGo n [] (List.range (n % 7).toNat)) rfl (dkGo_nd n _ [] nd0) (by rw [sizeLine_is]; omega)
  refine run_rt ?_
  rw [B_disk_is, v_seqN (ρ' := [.dat (.int n), .dic [], .no, .no, .no, .no, .no]) rfl, v_seqN (by rw [v_sFor, hi]; exact e)]
  simp [hs]
  rfl
theorem dkN_tl (n : Int) : Tl 26100 (dkN n) := fun k v h => by
  obtain ⟨d, hd, _, rfl⟩ := dkN_from h
  exact dkTx_len hd
theorem dkN_kl (n : Int) : Kl (dkN n) := fun p hp => by
  obtain ⟨d, hd, e, _⟩ := dkN_from (val_of_mem (dkN_rise n).nd (k := p.1) (v := p.2) hp)
  rw [e]
  have := dkNm_len hd
  omega
end Pu

set_option Elab.async false
set_option linter.all false
set_option autoImplicit false
set_option maxRecDepth 100000
/-! comparing disks and steps -/
namespace Pu
open PySem PySem.Spec PyProof.Rows L2
open SX (S)
open TL (numL)
theorem pl_strs {n : Nat} (ks : List Str) : ∀ x ∈ ks.map PyData.str, Pl n x := fun x hx => by
  obtain ⟨k, _, rfl⟩ := List.mem_map.mp hx
  exact pl_str n k
theorem pl_step (d : Stp) : Pl 1 d.d := by
  cases d
  · exact pl_tup (n := 0) (pl_strs ["begin", _])
  · exact pl_tup (n := 0) (pl_strs ["put", _, _])
  · exact pl_tup (n := 0) (pl_strs ["move", _, _])
  · exact pl_tup (n := 0) (pl_strs ["drop", _])
theorem pl_st (ds : List Stp) : Pl 2 (stD ds) := pl_tup fun x hx => by
  obtain ⟨k, _, rfl⟩ := List.mem_map.mp hx
  exact pl_step k
theorem pl_prT (p : Str × List Nat) : Pl 1 (prD emT p) := pl_tup (n := 0) (pl_strs [p.1, S p.2])
theorem pl_itT (m : Dk) : ∀ x ∈ itM emT m, Pl 1 x := fun x hx => by
  obtain ⟨k, _, rfl⟩ := List.mem_map.mp hx
  exact pl_prT k
theorem pl_dk (m : Dk) : Pl 2 (dkD m) := pl_tup (pl_itT m)
@[simp] theorem st_ne (ds : List Stp) : oNe (stD ds) (stD ds) = some (.bool false) := ((pl_st ds).mono (by decide)).ne
@[simp] theorem st_eq (ds : List Stp) : oEq (stD ds) (stD ds) = some (.bool true) := ((pl_st ds).mono (by decide)).eq
@[simp] theorem dk_ne (m : Dk) : oNe (dkD m) (dkD m) = some (.bool false) := ((pl_dk m).mono (by decide)).ne
@[simp] theorem dk_eq (m : Dk) : oEq (dkD m) (dkD m) = some (.bool true) := ((pl_dk m).mono (by decide)).eq
theorem ix_in {xs : List D} {x : Int} {n : Nat} (hn : xs.length = n) (hp : 0 < n) : ∃ d, d ∈ xs ∧ atI xs (x % (n : Int)) = some d := by
  have h1 : 0 ≤ x % (n : Int) := Int.emod_nonneg _ (by omega)
  have h2 : x % (n : Int) < n := Int.emod_lt_of_pos _ (by omega)
  obtain ⟨k, hk⟩ : ∃ k : Nat, x % (n : Int) = (k : Int) := ⟨(x % (n : Int)).toNat, by omega⟩
  rw [hk] at h2 ⊢
  have hk2 : k < xs.length := by omega
  exact ⟨xs[k], List.getElem_mem _, L2.atI_nat (List.getElem?_eq_getElem hk2)⟩
end Pu

set_option Elab.async false
set_option linter.all false
set_option autoImplicit false
set_option maxRecDepth 100000
/-! a list comprehension whose element may let a call's exception out -/
namespace Pu
open PySem PySem.Spec PyProof.Rows L2
section
variable {X : Cx} {W : WX} {E : XK}
/-- the block: an exception that leaves its code came out of a call -/
abbrev blkX (X : Cx) (E : XK) (s : Shared) (H : Hp) (scope : Scope) (ce : Env) (fp : List Addr) : Cx := (X.blk s H scope ce fp).tr [] (fun u s' => ∃ (pins : List (Addr × Obj)) (σ : L2.St) (H' : Hp) (s'' : Shared), Inv (X.blk s H scope ce fp) pins σ H' s'' ∧ L2.CX X.prog X.w X.stack H' s'' E u s')
theorem blk_pass {s : Shared} {H : Hp} {scope : Scope} {ce : Env} {fp : List Addr} : ∀ σ, PassesAt (L2.CX X.prog X.w) (blkX X E s H scope ce fp) σ E := fun σ pins H' s'' e s' I c =>
  ⟨[], σ, H', s'', Inv.ofTry (X := X.blk s H scope ce fp) (pins := []) I (Cx.Ok.ofTry I.ok), c⟩
theorem traced_sub {h : Heap} {B B' : Heap} {a : Addr} {Z : Obj → Prop} {fl : Value} (sub : ∀ b, B.get? b = none → B'.get? b = none) (t : HandSPX.TracedZ h B a Z fl) : HandSPX.TracedZ h B' a Z fl := by
  obtain ⟨oe, vs, T, oT, ts, x1, x2, x3, x4, x5, x6⟩ := t
  exact ⟨oe, vs, T, oT, ts, x1, x2, x3, x4, sub _ x5, x6⟩
theorem traced_but {h h' : Heap} {B : Heap} {a C : Addr} {Z : Obj → Prop} {fl : Value} {m : Str → Option Value} (hn : h.Ns C m) (sb : Heap.SameBut C h h') (t : HandSPX.TracedZ h B a Z fl) : HandSPX.TracedZ h' B a Z fl := by
  obtain ⟨oe, vs, T, oT, ts, x1, x2, x3, x4, x5, x6, x7, x8, x9⟩ := t
  obtain ⟨oC, es, ep, hC, hd, _⟩ := hn
  have ne : ∀ b o ws, h.get? b = some o → o.data = .fields ws → b ≠ C := fun b o ws e1 e2 z => by
    rw [z, hC] at e1
    cases e1
    rw [hd] at e2
    cases e2
  exact ⟨oe, vs, T, oT, ts, (sb.2 _ (ne _ _ _ x1 x3)).trans x1, x2, x3, x4, x5, x6, (sb.2 _ (ne _ _ _ x7 x8)).trans x7, x8, x9⟩
theorem blk_noted {pins : List (Addr × Obj)} {σ : L2.St} {H3 : Hp} {s3 : Shared} {scope : Scope} {ce : Env} {fp : List Addr} (hs : X.stack = X.env :: X.outer) (hf : X.env.frame = some X.env.locals) (tk : Takes X W) (hW : ∀ cls d H', E cls d H' → W cls d σ H')
    (I3 : Inv X pins σ H3 s3) (f3 : ∀ b ∈ fp, FpOk X pins H3 b ∧ b < s3.heap.objs.size) (cL : ce.locals = s3.heap.objs.size) (cF : ce.frame = X.env.frame)
    {u : Value} {s' : Shared} (h : ∃ (pins : List (Addr × Obj)) (σ : L2.St) (H' : Hp) (s'' : Shared), Inv (X.blk s3 H3 scope ce fp) pins σ H' s'' ∧ L2.CX X.prog X.w X.stack H' s'' E u s') :
    notedBy (model X.prog X.w) X.A ce (CompFails (model X.prog X.w) X.A X.xe ce) u s' := by
  obtain ⟨pins', σ', H', s'', I'', a, B, H2, cls, d, rfl, fl, hok, ub, na, os, ag, hE⟩ := h
  have hC : H' ce.locals = none := I''.free
  obtain ⟨m, hn, _⟩ := I''.loc
  have hn : s''.heap.Ns ce.locals m := hn
  obtain ⟨oC, es, ep, hoC, hdC, rC⟩ := hn
  have nst : ce.locals ∉ frs X.stack := fun hm => by
    obtain ⟨_, o', e', _⟩ := I3.stack.mem hm
    rw [cL] at e'
    exact absurd (Heap.lt_size e') (Nat.lt_irrefl _)
  have bC : B.get? ce.locals = some oC := ub.keep _ _ hoC hC nst
  -- the ground without the block
  obtain ⟨B', hB'⟩ : ∃ B', B' = PySem.W.hideAll B [ce.locals] := ⟨_, rfl⟩
  have b1 : ∀ b o, B'.get? b = some o → B.get? b = some o ∧ b ≠ ce.locals := fun b o e => by
    rw [hB'] at e
    refine ⟨PySem.W.of_hideAll _ e, fun z => ?_⟩
    rw [z, PySem.W.hideAll_none _ (List.mem_singleton.mpr rfl)] at e
    cases e
  have b2 : ∀ b o, b ≠ ce.locals → B.get? b = some o → B'.get? b = some o := fun b o hb e => by
    rw [hB']
    exact PySem.W.hideAll_get _ e fun z => hb (List.mem_singleton.mp z)
  have b3 : ∀ b, B.get? b = none → B'.get? b = none := fun b e => by
    cases q : B'.get? b with
    | none => rfl
    | some o =>
      have z := (b1 b o q).1
      rw [e] at z
      cases z
  obtain ⟨st, ban, ff, tr⟩ := fl
  have fl' : HandSPX.FlyingZ B' X.stack a (Zc cls d) s'.heap := ⟨fun b o e => st b o (b1 b o e).1, b3 _ ban, funFrames_none ff fun L hL => b3 _ (ff.mem hL).1, traced_sub b3 tr⟩
  -- the state ahead of the call, without the block
  have hcD : ∀ b o, H' b = some o → b ≠ ce.locals := fun b o e z => by
    rw [z, hC] at e
    cases e
  have IX : Inv X pins σ H' { s'' with heap := PySem.W.hideAll s''.heap [ce.locals] } := by
    have hu := I''.base
    have k1 : ∀ b o, s3.heap.get? b = some o → b ≠ ce.locals := fun b o e z => by
      rw [z, cL] at e
      exact absurd (Heap.lt_size e) (Nat.lt_irrefl _)
    have hid1 : ∀ b o, b ≠ ce.locals → s''.heap.get? b = some o → (PySem.W.hideAll s''.heap [ce.locals]).get? b = some o := fun b o hb e => PySem.W.hideAll_get _ e fun z => hb (List.mem_singleton.mp z)
    refine I3.call' (ch := fp) I''.os ⟨fun b o e n hb hx => ?_, fun b o e n hb hx => ?_, fun b o e n hx => hu.free b o e n hx, fun b o e hx => ?_, hu.tups, hu.frzs, hu.tbls⟩ (fun b o q => ?_) I''.bare fun b hb => ⟨(f3 b hb).1.2.2.2.1, (f3 b hb).1.2.1, (f3 b hb).1.2.2.2.2.1, (f3 b hb).1.2.2.2.2.2⟩
    · exact hid1 b o (k1 b o e) (hu.keep b o e n hb hx)
    · obtain ⟨sl, q⟩ := hu.slot b o e n hb hx
      exact ⟨sl, hid1 b _ (k1 b o e) q⟩
    · obtain ⟨o', q⟩ := hu.there b o e hx
      exact ⟨o', hid1 b _ (k1 b o e) q⟩
    · refine (I''.hok b o q).stay (fun c v hc r => hid1 c v ?_ r) (fun _ r => r) fun _ _ r => r
      rcases hc with hc | hc
      · rw [hc]
        exact hcD b o q
      · exact hcD c _ hc
  obtain ⟨G, g1, g2⟩ := restrict s'.heap fun b => (B'.get? b).isSome || decide (b ∈ frs X.stack)
  have gB : ∀ b o, B'.get? b = some o → G.get? b = some o := fun b o e => (g1 b (by simp [e])).trans (fl'.1 b o e)
  have gF : ∀ b, b ∈ frs X.stack → G.get? b = s'.heap.get? b := fun b hb => g1 b (by simp [hb])
  have og : ∀ b o, G.get? b = some o → s'.heap.get? b = some o ∧ ((B'.get? b).isSome = true ∨ b ∈ frs X.stack) := fun b o e => by
    cases q : ((B'.get? b).isSome || decide (b ∈ frs X.stack)) with
    | false =>
      rw [g2 b q] at e
      cases e
    | true => exact ⟨(g1 b q).symm.trans e, by simpa [Bool.or_eq_true] using q⟩
  have gC : ∀ b o, G.get? b = some o → b ≠ ce.locals := fun b o e z => by
    rcases (og b o e).2 with q | q
    · obtain ⟨o', q⟩ := Option.isSome_iff_exists.mp q
      exact (b1 b o' q).2 z
    · exact nst (z ▸ q)
  have II : Inv X pins σ H2 { s'' with heap := G, gens := s'.gens, drawn := s'.drawn, toks := s'.toks } := by
    have un : ∀ b o, (PySem.W.hideAll s''.heap [ce.locals]).get? b = some o → s''.heap.get? b = some o ∧ b ≠ ce.locals := fun b o e => ⟨PySem.W.of_hideAll _ e, fun z => by
      rw [z, PySem.W.hideAll_none _ (List.mem_singleton.mpr rfl)] at e
      cases e⟩
    have u1 : Un (frs X.stack) [] H' H2 (PySem.W.hideAll s''.heap [ce.locals]) G := by
      refine ⟨fun b o e n hb _ => gB b o (b2 b o (un b o e).2 (ub.keep b o (un b o e).1 n hb)), fun b o e n hb _ => ?_, fun b o e n _ => ub.free b o (un b o e).1 n, fun b o e _ => ?_, ub.tups, ub.frzs, ub.tbls⟩
      · obtain ⟨sl, q⟩ := ub.slot b o (un b o e).1 hb
        exact ⟨sl, (gF b hb).trans q⟩
      · by_cases hb : b ∈ frs X.stack
        · obtain ⟨sl, q⟩ := ub.slot b o (un b o e).1 hb
          exact ⟨_, (gF b hb).trans q⟩
        · obtain ⟨o', q⟩ := ub.there b o (un b o e).1 hb
          exact ⟨o', gB b o' (b2 b o' (un b o e).2 q)⟩
    have ok2 : HOk X.prog X.w H2 G := fun b o q => by
      have h2C : H2 ce.locals = none := ub.free _ _ hoC hC
      have ne : ∀ c o', H2 c = some o' → c ≠ ce.locals := fun c o' r z => by
        rw [z, h2C] at r
        cases r
      refine (hok b o q).stay (fun c v hc r => gB c v (b2 c v ?_ r)) (fun _ r => r) fun _ _ r => r
      rcases hc with hc | hc
      · rw [hc]
        exact ne b o q
      · exact ne c _ hc
    exact L2.Inv.call (s := { s'' with heap := PySem.W.hideAll s''.heap [ce.locals] }) (ch := []) (h' := G) (g' := s'.gens) (d' := s'.drawn) (t' := s'.toks) IX u1 ok2 ag (fun _ z => nomatch z)
  -- noted
  show wpAny _ _ (noteFrame (.ref a) ce) _ _ s'
  rw [noteFrame_env _ cF]
  have hfr : X.A.frames = some (X.env :: X.outer) := I3.ok.frames.trans (congrArg some hs)
  rw [hs] at fl'
  refine HandSPX.looks_onZ Zc.steady hfr hf fl' fun h1 hh up => ?_
  have hC1 : s'.heap.get? ce.locals = some oC := st _ _ bC
  obtain ⟨sl, e1⟩ := up _ _ hC1 fun vs z => by
    rw [hdC] at z
    cases z
  have hn1 : h1.Ns ce.locals m := ⟨_, es, ep, e1, hdC, rC⟩
  refine ⟨m, hn1, fun h2 m2 hn2 sb => ?_⟩
  obtain ⟨y1, y2, y3, y4⟩ := hh
  have t2 := traced_but hn1 sb y4
  have hh2 : HandSPX.HeldZ B' (X.env :: X.outer) a (Zc cls d) X.env.locals h2 := ⟨fun b o e => (sb.2 b (b1 b o e).2).trans (y1 b o e), y2, Heap.FunFrames.sameBut sb hn2 y3, t2⟩
  obtain ⟨oe, vs, T, oT, ts, he, hz, hd, hv1, _⟩ := t2
  unfold PySem.passOn
  refine wpAny_bind (wpAny_field he hd hv1 ?_)
  rw [if_neg (show ¬ ((Value.ref T == Value.none) = true) from fun z => by simp at z), cF, hf]
  refine wpAny_bind (HandSPX.setFlight_onZ (s := { s' with heap := h2 }) hh2 fun h3 hh3 up3 => wpAny_throw ?_)
  refine tk _ _ ⟨a, B', _, pins, σ, H2, cls, d, rfl, II, fun b o e hb => ?_, fun b o e hnf => ?_, .inr (.inr ?_), na, os, ag, hW _ _ _ hE⟩
  · obtain ⟨e', q⟩ := og b o e
    rcases q with q | q
    · obtain ⟨o', q⟩ := Option.isSome_iff_exists.mp q
      have z := fl'.1 b o' q
      rw [e'] at z
      cases z
      exact q
    · exact absurd q hb
  · obtain ⟨sl1, q1⟩ := up b o (og b o e).1 hnf
    have q2 := (sb.2 b (gC b o e)).trans q1
    obtain ⟨sl3, q3⟩ := up3 b _ q2 hnf
    exact ⟨sl3, q3⟩
  · rw [hs]
    exact hh3
/-- the loop and its block -/
theorem lc_coreX {pins : List (Addr × Obj)} {s : Shared} {σ : L2.St} {H : Hp} {Q : VK} {elt tg iter : Expr} {ifs : List Expr} {scope : Scope} {own : List (Str × Nat)} {pos pos' : Pos} {wi : TI} {g : TG} {tt : TT} {te : TE} (hsk : X.stack = X.env :: X.outer) (hfr : X.env.frame = some X.env.locals) (tk : Takes X W) (hW : ∀ cls d H', E cls d H' → W cls d σ H')
    (hc : X.calm = true) (hN : X.N.Nodup) (I : Inv X pins σ H s) (hi : PI X tg iter wi) (ok : BlkOk X.N X.env.scope scope own)
    (hg : ∀ (s : Shared) (H : Hp) (C : Addr) (cl : List (Str × Addr)) (fp : List Addr), PG (blkX X E s H scope (compEnvC scope cl C X.env) fp) tg g)
    (ht : ∀ (s : Shared) (H : Hp) (C : Addr) (cl : List (Str × Addr)) (fp : List Addr), PTs (blkX X E s H scope (compEnvC scope cl C X.env) fp) ifs tt)
    (he : ∀ (s : Shared) (H : Hp) (C : Addr) (cl : List (Str × Addr)) (fp : List Addr), PE (blkX X E s H scope (compEnvC scope cl C X.env) fp) elt te)
    (hs : ∀ x, foldedSetIterable iter X.env x = pure x) (h : tLc wi g tt te (own.map (·.2)) σ H Q) :
    wpAny (model X.prog X.w) X.A (comprehension (.ListComp elt [⟨tg, iter, ifs, 0⟩] scope pos) scope X.env pos' (newList []) false (eval iter X.env) none) (EP X pins σ Q) X.xe s := by
  have hfree : ∀ y ∈ scope.names, y.2 = .free → ∃ c, X.env.cells.lookup y.1 = some c := fun y hy e => (ok.free y hy e).elim (fun k => I.ok.has _ (.inl k)) fun k => I.ok.has _ (.inr k)
  refine comprehension_at (use := none) rfl hs (closure_ok hfree) ok.kind (fun y hy e => (ok.uniq y hy).trans (congrArg some e))
    (thn (hi.run pins s σ H _ I h) fun xv s1 hx => thn hx fun itv s2 ⟨it, fp, tn, J, H2, e, I2, T, st2, f2, q⟩ => ?_)
  subst e
  refine wpAny_newObj_type (newEnv_comp ?_) (by show 0 ≤ sizeLine; decide)
  generalize hD : s2.heap.objs.size = D
  obtain ⟨Wi, ⟨m0, w0⟩, turn⟩ := q D (I2.hok.fresh (Nat.le_of_eq hD))
  generalize hs3 : ({ s2 with heap := s2.heap.push { cls := .type "list", data := .seq ([] : List Value).toArray } } : Shared) = s3
  have h3 : s3.heap = s2.heap.push { cls := .type "list", data := .seq ([] : List Value).toArray } := (congrArg Shared.heap hs3).symm
  have I3 : Inv X pins σ (upd H2 D (.lst [])) s3 := by
    rw [← hs3]
    exact I2.laid (t' := s2.toks) (fun b o e => Heap.get?_push_of_some _ e) (Nat.le_of_eq hD) ⟨Nat.zero_le _, [], 0, .nil, hD ▸ Heap.get?_push_size _ rfl⟩
  have f3 : ∀ b ∈ fp, FpOk X pins (upd H2 D (.lst [])) b ∧ b < s3.heap.objs.size := fun b hb => by
    obtain ⟨o, e, _⟩ := T.obj _ _ st2 b hb
    have hlt := Heap.lt_size e
    refine ⟨⟨(upd_ne (fun z => absurd (hD ▸ z ▸ hlt) (Nat.lt_irrefl _))).trans (f2 b hb).1, (f2 b hb).2⟩, ?_⟩
    rw [h3, Heap.size_push]
    exact Nat.lt_succ_of_lt hlt
  have st3 : tn 0 s3.heap := T.keep _ _ _ st2 fun b _ o e => h3 ▸ Heap.get?_push_of_some _ e
  have I4 := block_start I3 ok hN f3
  have pg := hg s3 (upd H2 D (.lst [])) s3.heap.objs.size (cellsFrom (s3.heap.objs.size + 1) scope.names (cloFrom X.env.cells scope.names [])) fp
  have pt := ht s3 (upd H2 D (.lst [])) s3.heap.objs.size (cellsFrom (s3.heap.objs.size + 1) scope.names (cloFrom X.env.cells scope.names [])) fp
  have pe := he s3 (upd H2 D (.lst [])) s3.heap.objs.size (cellsFrom (s3.heap.objs.size + 1) scope.names (cloFrom X.env.cells scope.names [])) fp
  have nfp : ∀ b ∈ fp, (upd H2 D (.lst [])) b = none := fun b hb => (f3 b hb).1.1
  show codeAny _ _ (.compStart (.ListComp elt [⟨tg, iter, ifs, 0⟩] scope pos) 0 (.ref it) (.ref D) (compEnvC scope (cellsFrom (s3.heap.objs.size + 1) scope.names (cloFrom X.env.cells scope.names [])) s3.heap.objs.size X.env)) (compEnds (model X.prog X.w) X.A X.xe none (EP X pins σ Q) (.ref D) (compEnvC scope (cellsFrom (s3.heap.objs.size + 1) scope.names (cloFrom X.env.cells scope.names [])) s3.heap.objs.size X.env)) { s3 with heap := pushCells (s3.heap.push { cls := .type "dict", data := .dict #[] }) scope.names }
  have cF : (compEnvC scope (cellsFrom (s3.heap.objs.size + 1) scope.names (cloFrom X.env.cells scope.names [])) s3.heap.objs.size X.env).frame = X.env.frame := rfl
  generalize hce : compEnvC scope (cellsFrom (s3.heap.objs.size + 1) scope.names (cloFrom X.env.cells scope.names [])) s3.heap.objs.size X.env = ce at I4 pg pt pe cF ⊢
  have cL : ce.locals = s3.heap.objs.size := by
    subst hce
    rfl
  generalize hH3 : upd H2 D (.lst []) = H3 at I3 I4 pg pt pe w0 nfp f3
  generalize hs4 : ({ s3 with heap := pushCells (s3.heap.push { cls := .type "dict", data := .dict #[] }) scope.names } : Shared) = s4 at I4 ⊢
  have st4 : tn 0 s4.heap := T.keep _ _ _ st3 fun b _ o e => hs4 ▸ pushCells_keeps _ _ _ _ (Heap.get?_push_of_some _ e)
  have err : ∀ {u : Value} {s' : Shared}, (blkX X E s3 H3 scope ce fp).xe u s' → notedBy (model X.prog X.w) X.A ce (fun e s' => compEnds (model X.prog X.w) X.A X.xe none (EP X pins σ Q) (.ref D) ce (.error e) s') u s' := fun {u s'} x => blk_noted hsk hfr tk hW I3 f3 cL cF x
  have I4' : Inv (blkX X E s3 H3 scope ce fp) [] (wipe σ (own.map (·.2))) H3 s4 := Inv.toTry (X := X.blk s3 H3 scope ce fp) I4 _
  have stat : ∀ {σ' : L2.St} {H' : Hp} {s' : Shared}, Inv (blkX X E s3 H3 scope ce fp) [] σ' H' s' → (∀ b ∈ fp, H' b = none) → ∀ b ∈ fp, FpOk (blkX X E s3 H3 scope ce fp) [] H' b := fun {σ' H' s'} I' hn b hb =>
    ⟨hn b hb, (I'.ok.exf b hb).1, I'.ok.exfs b hb, .inl hb, fun x c e => (I'.ok.exf b hb).2 x c e, fun p hp => absurd (show p ∈ ([] : List (Addr × Obj)) ++ [] from hp) (by simp)⟩
  have loop : codeAny (model X.prog X.w) X.A (.compLoop (.ListComp elt [⟨tg, iter, ifs, 0⟩] scope pos) 0 (.ref it) (.ref D) ce) (compEnds (model X.prog X.w) X.A X.xe none (EP X pins σ Q) (.ref D) ce) s4 := by
    refine compLoop_any (fun n s' => ∃ i H', Inv (blkX X E s3 H3 scope ce fp) [] (wipe σ (own.map (·.2))) H' s' ∧ tn i s'.heap ∧ (∀ b ∈ fp, H' b = none) ∧ Wi i n H') ?_ m0 ⟨0, H3, I4', st4, nfp, w0⟩
    rintro n s5 ⟨i, H5, I5, st5, n5, w5⟩
    rcases turn i n H5 w5 with ⟨stop, qq⟩ | ⟨go, Nx, hNx, step⟩
    · refine thnF (T.done (blkX X E s3 H3 scope ce fp) rfl rfl rfl hc i [] s5 _ H5 (fun _ _ => False) I5 (stat I5 n5) st5 stop) fun r s6 ⟨hr, I6⟩ => ?_
      subst hr
      have I7 : Inv X pins σ H5 s6 := I3.call' (ch := fp) I6.os I6.base I6.hok I6.bare fun b hb => ⟨(f3 b hb).1.2.2.2.1, (f3 b hb).1.2.1, (f3 b hb).1.2.2.2.2.1, (f3 b hb).1.2.2.2.2.2⟩
      have z : H5 ce.locals = none := I6.free
      obtain ⟨m, hn, _⟩ := I6.loc
      refine ⟨m, hn, fun h'' sb => ?_⟩
      obtain ⟨k0, k1, k2, k3, k4, k5⟩ := I3.fpOk (H' := H5) (Nat.le_of_eq cL.symm) z
      exact ⟨.ref D, H5, I7.turned (t' := s6.toks) (fun b o hb e => (sb.2 b hb).trans e) k0 k1 k3 k4 k5, rfl, qq⟩
    · refine thnF (T.item (blkX X E s3 H3 scope ce fp) rfl rfl rfl hc i [] s5 _ H5 (fun _ _ => False) I5 (stat I5 n5) st5 go) fun r s6 ⟨u, hr, h6⟩ => ?_
      subst hr
      refine thnF h6 fun _ s7 ⟨x, H7, I7, r7, y7, st7, n7⟩ => ?_
      have I7' := I7.pinned (stat I7 n7) (T.obj _ _ st7)
      refine wpAny_mono (pg.run _ s7 _ H7 x u _ I7' r7 (step x H7 y7)) (fun _ s8 ⟨σ8, H8, I8, hw8, q8⟩ => ?_) fun _ _ z => err z
      refine wpAny_mono (pt.run _ s8 σ8 H8 _ I8 q8) (fun b s9 ⟨H9, I9, q9⟩ => ?_) fun _ _ z => err z
      have fin : ∀ {s' : Shared} {H' : Hp}, Inv (blkX X E s3 H3 scope ce fp) ([] ++ pinsAt fp s7.heap) σ8 H' s' → Nx H' → ∃ m, m < n ∧ ∃ i H', Inv (blkX X E s3 H3 scope ce fp) [] (wipe σ (own.map (·.2))) H' s' ∧ tn i s'.heap ∧ (∀ b ∈ fp, H' b = none) ∧ Wi i m H' := fun {s' H'} I' nx => by
        obtain ⟨m', hm, w'⟩ := hNx H' nx
        have pin' : ∀ b ∈ fp, ∀ o, s7.heap.get? b = some o → s'.heap.get? b = some o ∧ H' b = none := fun b hb o e => ⟨(I'.pin (b, o) (List.mem_append_right _ (List.mem_append_right _ (mem_pinsAt hb e)))).1, (I'.pin (b, o) (List.mem_append_right _ (List.mem_append_right _ (mem_pinsAt hb e)))).2.1⟩
        refine ⟨m', hm, i + 1, H', (I'.unpinned (pins := [])).weak (by rw [← hw8, wipe_length]) (fun j v e => ?_), T.keep _ _ _ st7 fun b hb o e => (pin' b hb o e).1, fun b hb => ?_, w'⟩
        · rw [← hw8] at e
          exact (wipe_some e).1
        · obtain ⟨o, e, _⟩ := T.obj _ _ st7 b hb
          exact (pin' b hb o e).2
      cases b with
      | false =>
        simp only [Bool.false_eq_true, if_false] at q9 ⊢
        exact fin I9 q9
      | true =>
        simp only [if_true] at q9 ⊢
        refine wpAny_mono (pe.run _ s9 σ8 H9 _ I9 q9) (fun z s10 ⟨yv, H10, I10, r10, acc, hD10, hz10, nx⟩ => ?_) fun _ _ z => err z
        exact app_ok (X := blkX X E s3 H3 scope ce fp) I10 hD10 hz10 r10 fun s11 I11 => fin I11 nx
  exact codeAny_compStart_list loop (T.self X.A 0 _ _ _ st4 loop)
theorem pe_lcX {elt tg iter : Expr} {ifs : List Expr} {scope : Scope} {own : List (Str × Nat)} {pos : Pos} {wi : TI} {g : TG} {tt : TT} {te : TE} (hsk : X.stack = X.env :: X.outer) (hfr : X.env.frame = some X.env.locals) (tk : Takes X fun cls d _ H => E cls d H)
    (hc : X.calm = true) (hN : X.N.Nodup) (hi : PI X tg iter wi) (ok : BlkOk X.N X.env.scope scope own)
    (hg : ∀ (s : Shared) (H : Hp) (C : Addr) (cl : List (Str × Addr)) (fp : List Addr), PG (blkX X E s H scope (compEnvC scope cl C X.env) fp) tg g)
    (ht : ∀ (s : Shared) (H : Hp) (C : Addr) (cl : List (Str × Addr)) (fp : List Addr), PTs (blkX X E s H scope (compEnvC scope cl C X.env) fp) ifs tt)
    (he : ∀ (s : Shared) (H : Hp) (C : Addr) (cl : List (Str × Addr)) (fp : List Addr), PE (blkX X E s H scope (compEnvC scope cl C X.env) fp) elt te) (hs : ∀ x, foldedSetIterable iter X.env x = pure x := by intro _; rfl) :
    PE X (.ListComp elt [⟨tg, iter, ifs, 0⟩] scope pos) (tLc wi g tt te (own.map (·.2))) :=
  ⟨fun pins s σ H Q I h => by
    rw [eval_ListComp]
    exact lc_coreX hsk hfr tk (fun _ _ _ z => z) hc hN I hi ok hg ht he hs h⟩
end
end Pu

set_option Elab.async false
set_option linter.all false
set_option autoImplicit false
set_option maxRecDepth 100000
/-! defs that may raise one class of the program's own -/
namespace Pu
open PySem PySem.Spec PyProof.Rows L2
/-- an answer, or a refusal -/
inductive Rz (α : Type) where
  | ok (a : α)
  | ex
abbrev MirE := Rho → Option (Rz D)
abbrev MirAE := Rho → Option (Rz (List D))
abbrev MirFX := List Sl → Option (Rz D)
/-- what is known of the class at C -/
structure NoS (K : PySem.W.Frag) (mg : Str → Option Value) (C : Addr) : Prop where
  xP : PySem.W.excIn K C [.type "ValueError", .type "Exception", .type "BaseException", .type "object"] "ValueError.__new__" = true
  gP : mg "NoSave" = some (.ref C)
  kP : PySem.W.keepIn K (.ref C) = true
  bP : PySem.W.subIn K (.ref C) (.type "BaseException") = some true
  tP : PySem.W.typeIn K (.ref C) = some (.type "type")
  eP : PySem.W.exmOne K (.ref C) (.ref C) = some true
def tOfX (K : PySem.W.Frag) (C : Addr) (E : L2.St → XK) (f : MirE) : TE := fun σ H Q => ∃ S B ρ r, EnvOk K S B H σ ρ ∧ f ρ = some r ∧ (∀ d, r = .ok d → ∀ v H', Same H H' → Dq K (hid S H') v d → Q v H') ∧ (r = .ex → ∀ H', Same H H' → E σ (.ref C) none H')
def taOfX (K : PySem.W.Frag) (C : Addr) (E : L2.St → XK) (f : MirAE) : TA := fun σ H Q => ∃ S B ρ r, EnvOk K S B H σ ρ ∧ f ρ = some r ∧ (∀ ds, r = .ok ds → ∀ vs H', Same H H' → DqAll K (hid S H') vs ds → Q vs H') ∧ (r = .ex → ∀ H', Same H H' → E σ (.ref C) none H')
def tlOfX (K : PySem.W.Frag) (C : Addr) (E : L2.St → XK) (f : MirAE) : TE := fun σ H Q => ∃ S B ρ r, EnvOk K S B H σ ρ ∧ f ρ = some r ∧ (∀ ds, r = .ok ds → ∀ p vs H', Same H H' → H p = none → H' p = some (.lst vs) → DqAll K (hid (plus S p) H') vs ds → Q (.ref p) H') ∧ (r = .ex → ∀ H', Same H H' → E σ (.ref C) none H')
abbrev PDX (X : Cx) (C : Addr) (E : L2.St → XK) (e : Expr) (f : MirE) : Prop := PE X e (tOfX X.K C E f)
abbrev PADX (X : Cx) (C : Addr) (E : L2.St → XK) (es : List Expr) (f : MirAE) : Prop := PA X es (taOfX X.K C E f)
def spOfX (K : PySem.W.Frag) (C : Addr) (n : Nat) (F : MirFX) : Sp := fun vs H Q E => ∃ S xs r, Sub S H ∧ ArgsOk K S H vs xs ∧ xs.length = n ∧ F xs = some r ∧ (∀ d, r = .ok d → ∀ v H', Same H H' → Dq K (hid S H') v d → Q v H') ∧ (r = .ex → ∀ H', Same H H' → E (.ref C) none H')
def OkX (P : Program) (w : World) (K : PySem.W.Frag) (mg : Str → Option Value) (base : Heap) (C : Addr) (k : Nat) (x : Str) (n : Nat) (F : MirFX) : Prop :=
  ∃ (a : Addr) (fd : FuncData) (ps : List Str), FnOk P w K mg base (L2.CX P w) k a fd ps (spOfX K C n F) ∧ mg x = some (.ref a) ∧ PySem.W.keepIn K (.ref a) = true ∧ Binds K fd ps []
section
variable {X : Cx} {K : PySem.W.Frag} {C : Addr} {E : L2.St → XK} {tg e : Expr} {f g : Mir} {fx gx : MirE} {pos : Pos} {S : Addr → Prop} {B : Base} {H H' : Hp} {σ : L2.St} {ρ : Rho}
/-! ### expressions -/
def eUp (f : Mir) : MirE := fun ρ => (f ρ).map Rz.ok
theorem pdx_up (h : PD X e f) : PDX X C E e (eUp f) := weak h fun σ H Q ⟨S, B, ρ, r, V, e, k, _⟩ => by
  obtain ⟨d, e1, rfl⟩ := map_some e
  exact ⟨S, B, ρ, d, V, e1, k d rfl⟩
def xCall (F : MirFX) (r : MirX) : MirE := fun ρ => (r ρ).bind F
theorem pdx_call {F : MirFX} {n k : Nat} {x : Str} {p : Pos} {es : List Expr} {r : MirX} (hF : OkX X.prog X.w X.K X.mg X.base C k x n F) (hr : Room k X.A) (hn : XLen r n) (ha : PXD X (e :: es) r) (hx : ∀ σ, PassesAt (L2.CX X.prog X.w) X σ (E σ)) (hg : Gl X x := by rfl) (hdb : (x == ("__debug__" : Str)) = false := by decide) (he : starEach (e :: es) X.env = (false, eval e X.env) :: starEach es X.env := by rfl) (hpl : (backTo pos (starEach es X.env)).any (·.1) = false := by rfl) : PDX X C E (.Call (.Name x p) (e :: es) [] pos) (xCall F r) := by
  obtain ⟨a, fd, ps, h1, h2, h3, h4⟩ := hF
  refine weak (pe_callS h1 hr hg h2 h3 h4 hx ha hdb he hpl) fun σ H Q ⟨S, B, ρ, z, V, e, k1, k2⟩ => ?_
  obtain ⟨xs, e1, e2⟩ := bind_some e
  exact ⟨S, B, ρ, xs, V, e1, fun vs H1 s1 p1 => ⟨S, xs, z, (V.step s1).sub, p1, hn ρ xs e1, e2, fun d hd v H' s p => k1 d hd v H' (s1.trans s) p, fun hz H' s => k2 hz H' (s1.trans s)⟩⟩
/-- where it answers -/
def mCallX (F : MirFX) (r : MirX) : Mir := fun ρ => (r ρ).bind fun xs => match F xs with
  | some (.ok d) => some d
  | _ => none
theorem pd_callX {F : MirFX} {n k : Nat} {x : Str} {p : Pos} {es : List Expr} {r : MirX} (hF : OkX X.prog X.w X.K X.mg X.base C k x n F) (hr : Room k X.A) (hn : XLen r n) (ha : PXD X (e :: es) r) (hg : Gl X x := by rfl) (hdb : (x == ("__debug__" : Str)) = false := by decide) (he : starEach (e :: es) X.env = (false, eval e X.env) :: starEach es X.env := by rfl) (hpl : (backTo pos (starEach es X.env)).any (·.1) = false := by rfl) : PD X (.Call (.Name x p) (e :: es) [] pos) (mCallX F r) := by
  refine weak (pdx_call (E := fun _ => E0) hF hr hn ha (fun σ pins H s e s' I h => passL pins σ H s e s' I h) hg hdb he hpl) fun σ H Q ⟨S, B, ρ, d, V, e, k⟩ => ?_
  obtain ⟨xs, e1, e2⟩ := bind_some e
  cases q : F xs with
  | none =>
    rw [q] at e2
    cases e2
  | some z =>
    rw [q] at e2
    cases z with
    | ex => cases e2
    | ok d' =>
      cases e2
      refine ⟨S, B, ρ, .ok d, V, ?_, fun d' hd => ?_, fun z => nomatch z⟩
      · unfold xCall
        rw [e1]
        exact q
      · cases hd
        exact k
/-- several, from the left -/
def aeNil : MirAE := fun _ => some (.ok [])
def aeCons (f : MirE) (r : MirAE) : MirAE := fun ρ => (f ρ).bind fun
  | .ex => some .ex
  | .ok x => (r ρ).map fun
    | .ex => .ex
    | .ok xs => .ok (x :: xs)
theorem adx_nil : PADX X C E [] aeNil := weakA pa_nil fun σ H Q ⟨S, B, ρ, r, V, e, k, _⟩ => by
  cases e
  exact k [] rfl [] H (Same.refl H) .nil
theorem adx_cons {es : List Expr} {r : MirAE} (ha : PDX X C E e fx) (hr : PADX X C E es r) (hs : starEach (e :: es) X.env = (false, eval e X.env) :: starEach es X.env := by rfl) : PADX X C E (e :: es) (aeCons fx r) :=
  weakA (pa_cons ha hr hs) fun σ H Q ⟨S, B, ρ, z, V, e, k1, k2⟩ => by
    obtain ⟨y, e1, e2⟩ := bind_some e
    cases y with
    | ex =>
      cases e2
      exact ⟨S, B, ρ, .ex, V, e1, fun d hd => (nomatch hd), fun _ => k2 rfl⟩
    | ok x =>
      obtain ⟨w, e3, e4⟩ := map_some e2
      refine ⟨S, B, ρ, .ok x, V, e1, fun d hd v H1 s1 p1 => ?_, fun z => nomatch z⟩
      cases hd
      cases w with
      | ex =>
        cases e4
        exact ⟨S, B, ρ, .ex, V.step s1, e3, fun d hd => (nomatch hd), fun _ H2 s2 => k2 rfl H2 (s1.trans s2)⟩
      | ok xs =>
        cases e4
        refine ⟨S, B, ρ, .ok xs, V.step s1, e3, fun ds hd vs H2 s2 p2 => ?_, fun z => nomatch z⟩
        cases hd
        exact k1 _ rfl _ H2 (s1.trans s2) (.cons (Dq.mono (same_hid s2) p1) p2)
def eTup (r : MirAE) : MirE := fun ρ => (r ρ).bind fun
  | .ex => some .ex
  | .ok xs => if xs.length ≤ sizeLine then some (.ok (.tuple xs)) else none
theorem pdx_tup {es : List Expr} {r : MirAE} {x1} (h : PADX X C E es r) : PDX X C E (.Tuple es x1 pos) (eTup r) := weak (pe_tupF h) fun σ H Q ⟨S, B, ρ, z, V, e, k1, k2⟩ => by
  obtain ⟨y, e1, e2⟩ := bind_some e
  cases y with
  | ex =>
    cases e2
    exact ⟨S, B, ρ, .ex, V, e1, fun d hd => (nomatch hd), fun _ => k2 rfl⟩
  | ok xs =>
    obtain ⟨c, rfl⟩ := ite_some e2
    refine ⟨S, B, ρ, .ok xs, V, e1, fun ds hd vs H1 s1 p1 => ?_, fun z => nomatch z⟩
    cases hd
    refine ⟨by rw [p1.length]; exact c, fun p o hp ho => ?_⟩
    obtain ⟨s2, n2⟩ := new_tup (V.step s1).sub hp ho p1
    exact k1 _ rfl _ _ (s1.trans s2) n2
/-! ### a comprehension -/
def lcGoX (m : MirG) (te : MirE) (ρ0 : Rho) : List D → Option (Rz (List D))
  | [] => some (.ok [])
  | d :: ds => (m d ρ0).bind fun ρ1 => (te ρ1).bind fun
    | .ex => some .ex
    | .ok y => (lcGoX m te ρ0 ds).map fun
      | .ex => .ex
      | .ok r => .ok (y :: r)
def eLc (vs : List Nat) (fi : MirI) (m : MirG) (te : MirE) : MirAE := fun ρ => (fi ρ).bind fun ds => if ds.length < sizeLine then lcGoX m te (wipeR ρ vs) ds else none
/-- what is made so far, and the rest -/
def andThen (acc : List D) : Rz (List D) → Rz (List D)
  | .ex => .ex
  | .ok r => .ok (acc ++ r)
theorem lcx_of {y : Bool} {vs : List Nat} {fi : MirI} {m : MirG} {te : MirE} {E : XK} : ∀ σ H Q, tlOfX K C (fun _ => E) (eLc vs fi m te) σ H Q → tLc (tiOf K y fi) (tgOf K y vs m) (ttOf K mYes) (tOfX K C (fun _ => E) te) vs σ H Q := fun σ H Q ⟨S, B, ρ, out, VV, e, k, kx⟩ => by
  obtain ⟨ds, e1, e2⟩ := bind_some e
  have hlen : ds.length < sizeLine := by
    by_cases h : ds.length < sizeLine
    · exact h
    · rw [if_neg h] at e2
      cases e2
  rw [if_pos hlen] at e2
  refine ⟨S, B, ρ, ds, VV, e1, fun J H1 s1 yl P hP => ?_⟩
  have E1 := VV.step s1
  refine ⟨fun i n Hc => i + n = ds.length ∧ ∃ (vs' : List V) (acc : List D) (rest : Rz (List D)), Hc P = some (.lst vs') ∧ Same H1 Hc ∧ DqAll K (hid (plus S P) Hc) vs' acc ∧ vs'.length ≤ i ∧ lcGoX m te (wipeR ρ vs) (ds.drop i) = some rest ∧ out = andThen acc rest,
    ⟨ds.length, by omega, [], [], out, upd_same, same_upd hP, .nil, Nat.zero_le _, by rw [List.drop_zero]; exact e2, by cases out <;> rfl⟩, ?_⟩
  rintro i n Hc ⟨hn, vs', acc, rest, hc, sc, ac, lc, go, eo⟩
  have fs : Same (hid S H1) Hc := fun b o q => sc b o (of_hid q).2
  obtain ⟨y1, y2⟩ := yl Hc fs i
  have Ec : EnvOk K (plus S P) B Hc σ ρ := E1.grow sc hP (by rw [hc]; exact fun z => nomatch z)
  cases n with
  | zero =>
    refine .inl ⟨y2 (by omega), ?_⟩
    rw [List.drop_of_length_le (by omega)] at go
    cases go
    have eo : out = .ok (acc ++ []) := eo
    rw [List.append_nil] at eo
    exact k acc eo P vs' Hc (s1.trans sc) (s1.free hP) hc ac
  | succ n =>
    obtain ⟨d, hd⟩ : ∃ d, ds[i]? = some d := ⟨ds[i]'(by omega), List.getElem?_eq_getElem _⟩
    obtain ⟨g1, g2⟩ := y1 d hd
    have ed : ds.drop i = d :: ds.drop (i + 1) := by
      obtain ⟨hl, hx⟩ := List.getElem?_eq_some_iff.mp hd
      rw [List.drop_eq_getElem_cons hl, hx]
    rw [ed] at go
    obtain ⟨ρ3, m1, m2⟩ := bind_some go
    refine .inr ⟨g1, fun H' => i + 1 + n = ds.length ∧ ∃ (vs' : List V) (acc : List D) (rest : Rz (List D)), H' P = some (.lst vs') ∧ Same H1 H' ∧ DqAll K (hid (plus S P) H') vs' acc ∧ vs'.length ≤ i + 1 ∧ lcGoX m te (wipeR ρ vs) (ds.drop (i + 1)) = some rest ∧ out = andThen acc rest, fun H' w => ⟨n, by omega, w⟩, fun x H' hx => ?_⟩
    obtain ⟨s3, G, hG, pG⟩ := g2 x H' hx
    have E3 := (Ec.step s3).wipe vs
    have px : Dy K y (hid (plus S P) H') x d := Dy.mono (fun b o q => by
      obtain ⟨q1, q2⟩ := hG b o q
      refine hid_of (fun sb => ?_) q1
      rcases q2 with q2 | q2
      · obtain ⟨n1, n2⟩ := of_hid q2
        rcases sb with sb | sb
        · exact n1 sb
        · rw [sb, hP] at n2
          cases n2
      · rcases sb with sb | sb
        · exact Ec.sub b (.inl sb) q2
        · rw [sb, hc] at q2
          cases q2) pG
    refine ⟨plus S P, B, _, d, ρ3, E3, px, m1, fun σ2 E4 hσ hl => ⟨?_, ?_⟩⟩
    · rw [wipe_eq hl hσ, wipe_wipe]
    · have cP : ∀ {H2 : Hp}, Same H' H2 → H2 P = some (.lst vs') := fun s => s _ _ (s3 _ _ hc)
      refine ⟨plus S P, B, ρ3, true, E4, rfl, fun H5 s5 => iteT ?_⟩
      obtain ⟨z, m3, m4⟩ := bind_some m2
      cases z with
      | ex =>
        cases m4
        exact ⟨plus S P, B, ρ3, .ex, E4.step s5, m3, fun d hd => (nomatch hd), fun _ H6 s6 => kx (by rw [eo]; rfl) H6 (s1.trans ((sc.trans s3).trans (s5.trans s6)))⟩
      | ok yd =>
        obtain ⟨r5, m5, m6⟩ := map_some m4
        refine ⟨plus S P, B, ρ3, .ok yd, E4.step s5, m3, fun d hd v H6 s6 p6 => ?_, fun z => nomatch z⟩
        cases hd
        refine ⟨vs', cP (s5.trans s6), by omega, by omega, vs' ++ [v], acc ++ [yd], r5, upd_same, ?_, ?_, ?_, m5, ?_⟩
        · exact fun b o q => by
            have hb : b ≠ P := ne_of_none q hP
            rw [upd_ne hb]
            exact s6 _ _ (s5 _ _ (s3 _ _ (sc _ _ q)))
        · have sh : Same (hid (plus S P) H6) (hid (plus S P) (upd H6 P (.lst (vs' ++ [v])))) := fun b o q => by
            obtain ⟨n1, n2⟩ := of_hid q
            refine hid_of n1 ?_
            rw [upd_ne (fun z => n1 (.inr z))]
            exact n2
          exact ((ac.mono (same_hid ((s3.trans s5).trans s6))).snoc p6).mono sh
        · rw [List.length_append, List.length_singleton]
          omega
        · rw [eo, ← m6]
          cases r5 with
          | ex => rfl
          | ok r => show Rz.ok _ = Rz.ok _; rw [List.append_assoc]; rfl
theorem ldx_lc {y : Bool} {vs : List Nat} {fi : MirI} {m : MirG} {te : MirE} {elt iter : Expr} {scope : Scope} {E : XK} (own : List (Str × Nat)) (ev : own.map (·.2) = vs) (hsk : X.stack = X.env :: X.outer) (hfr : X.env.frame = some X.env.locals) (tk : Takes X fun cls d _ H => E cls d H) (hc : X.calm = true) (hN : X.N.Nodup) (hi : PID X y tg iter fi) (ok : BlkOk X.N X.env.scope scope own)
    (hg : ∀ (s : Shared) (H : Hp) (C : Addr) (cl : List (Str × Addr)) (fp : List Addr), PGD (blkX X E s H scope (compEnvC scope cl C X.env) fp) y tg vs m)
    (he : ∀ (s : Shared) (H : Hp) (A : Addr) (cl : List (Str × Addr)) (fp : List Addr), PDX (blkX X E s H scope (compEnvC scope cl A X.env) fp) C (fun _ => E) elt te) (hs : ∀ x, foldedSetIterable iter X.env x = pure x := by intro _; rfl) :
    PE X (.ListComp elt [⟨tg, iter, [], 0⟩] scope pos) (tlOfX X.K C (fun _ => E) (eLc vs fi m te)) := by
  subst ev
  exact weak (pe_lcX (E := E) hsk hfr tk hc hN hi ok hg (fun _ _ _ _ _ => tsd_nil) he hs) lcx_of
/-- tuple([..]) -/
def eTupL (r : MirAE) : MirE := fun ρ => (r ρ).map fun
  | .ex => .ex
  | .ok ds => .ok (.tuple ds)
theorem pdx_tupL {r : MirAE} {p : Pos} (hg : Gl X "tuple") (hm : X.mg "tuple" = none) (h : PE X e (tlOfX X.K C E r)) (he : starEach [e] X.env = (false, eval e X.env) :: starEach [] X.env := by rfl) (hpl : (backTo pos (starEach [] X.env)).any (·.1) = false := by rfl) : PDX X C E (.Call (.Name "tuple" p) [e] [] pos) (eTupL r) :=
  weak (pe_callTy call_tupF hg hm (by decide +kernel) (pa_cons h pa_nil he) (he := he) (hpl := hpl)) fun σ H Q ⟨S, B, ρ, z, V, e, k1, k2⟩ => by
    obtain ⟨y, e1, e2⟩ := map_some e
    cases y with
    | ex =>
      cases e2
      exact ⟨S, B, ρ, .ex, V, e1, fun d hd => (nomatch hd), fun _ => k2 rfl⟩
    | ok ds =>
      cases e2
      refine ⟨S, B, ρ, .ok ds, V, e1, fun ds' hd q vs H1 s1 hq0 hq1 a => ?_, fun z => nomatch z⟩
      cases hd
      refine ⟨q, vs, rfl, .inl ⟨.inl (.inl hq1), fun l o hl ho => ?_⟩⟩
      have a' : DqAll X.K (hid S H1) vs ds := a.mono (hid_le H1 fun _ z => .inl z)
      obtain ⟨s2, n2⟩ := new_tup (V.step s1).sub hl ho a'
      exact k1 _ rfl _ _ (s1.trans s2) n2
/-! ### statements -/
inductive OutX where
  | o (o : Out)
  | ex
abbrev MirSX := Rho → Option OutX
def tsOfX (K : PySem.W.Frag) (C : Addr) (E : XK) (F : MirSX) : TS := fun Dn σ H => ∃ T B ρ o, StE K T B H σ ρ ∧ F ρ = some o ∧ (∀ o', o = .o o' → OutK K T B Dn o') ∧ (o = .ex → ∀ H', Same B.hi H' → E (.ref C) none H')
abbrev PSX (X : Cx) (C : Addr) (E : XK) (st : Stmt) (F : MirSX) : Prop := PS X st (tsOfX X.K C E F)
abbrev PSsX (X : Cx) (C : Addr) (E : XK) (sts : List Stmt) (F : MirSX) : Prop := PSs X sts (tsOfX X.K C E F)
variable {E : XK} {st : Stmt} {sts : List Stmt} {F : MirS} {FX GX : MirSX}
def xUp (F : MirS) : MirSX := fun ρ => (F ρ).map OutX.o
theorem sx_up (h : PSD X st F) : PSX X C E st (xUp F) := weakS h fun Dn σ H ⟨T, B, ρ, o, V, e, k, _⟩ => by
  obtain ⟨o', e1, rfl⟩ := map_some e
  exact ⟨T, B, ρ, o', V, e1, k o' rfl⟩
theorem sxs_up (h : PSsD X sts F) : PSsX X C E sts (xUp F) := weakSs h fun Dn σ H ⟨T, B, ρ, o, V, e, k, _⟩ => by
  obtain ⟨o', e1, rfl⟩ := map_some e
  exact ⟨T, B, ρ, o', V, e1, k o' rfl⟩
def xNilS : MirSX := fun ρ => some (.o (.nx ρ))
theorem sx_nil : PSsX X C E [] xNilS := weakSs pss_nil fun Dn σ H ⟨T, B, ρ, o, V, e, k, _⟩ => by
  cases e
  exact k _ rfl σ H V
theorem sx_one (h : PSX X C E st FX) : PSsX X C E [st] FX := pss_one h
def xSeq (F G : MirSX) : MirSX := fun ρ => (F ρ).bind fun
  | .o (.nx ρ') => G ρ'
  | o => some o
theorem sx_cons (h : PSX X C E st FX) (hr : PSsX X C E sts GX) : PSsX X C E (st :: sts) (xSeq FX GX) := weakSs (pss_cons h hr) fun Dn σ H ⟨T, B, ρ, o, V, e, k, kx⟩ => by
  obtain ⟨o1, e1, e2⟩ := bind_some e
  cases o1 with
  | ex =>
    cases e2
    exact ⟨T, B, ρ, .ex, V, e1, fun o' h => (nomatch h), fun _ => kx rfl⟩
  | o o1 =>
    refine ⟨T, B, ρ, .o o1, V, e1, fun o' h => ?_, fun z => nomatch z⟩
    cases h
    cases o1 with
    | nx ρ' => exact fun σ' H' E' => ⟨T, B, ρ', o, E', e2, k, kx⟩
    | rt d =>
      cases e2
      exact k _ rfl
    | bk ρ' =>
      cases e2
      exact k _ rfl
    | ct ρ' =>
      cases e2
      exact k _ rfl
def xIf (c : Mir) (F G : MirSX) : MirSX := fun ρ => match c ρ with
  | some (.bool true) => F ρ
  | some (.bool false) => G ρ
  | _ => none
theorem sx_if {c : Expr} {a b : List Stmt} (hc : PTD X c f) (ha : PSsX X C E a FX) (hb : PSsX X C E b GX) : PSX X C E (.If c a b pos) (xIf f FX GX) := weakS (ps_if hc ha hb) fun Dn σ H ⟨T, B, ρ, o, ⟨S, V⟩, e, k, kx⟩ => by
  unfold xIf at e
  cases q : f ρ with
  | none =>
    rw [q] at e
    cases e
  | some x =>
    rw [q] at e
    cases x <;> try (cases e; done)
    rename_i b
    cases b
    · exact ⟨S, B, ρ, false, V.env, q, fun H1 s1 => iteF ⟨T, B, ρ, o, ⟨S, V.step s1⟩, e, k, kx⟩⟩
    · exact ⟨S, B, ρ, true, V.env, q, fun H1 s1 => iteT ⟨T, B, ρ, o, ⟨S, V.step s1⟩, e, k, kx⟩⟩
def xRaise : MirSX := fun _ => some .ex
theorem sx_raise {m : Str} {j : Nat} {p p2 p3 : Pos} (N : NoS X.K X.mg C) (hc : X.calm = true) (tk : Takes X fun cls d _ H => E cls d H) (hg : Gl X "NoSave" := by rfl) : PSX X C E (.Raise (some (.Call (.Name "NoSave" p) [.Constant (.str m) j p2] [] p3)) none pos) xRaise :=
  weakS (ps_raise hc tk (pmk_own PySem.F.excBase_ValueError N.xP N.gP N.kP (raises_own N.bP N.tP) hg)) fun Dn σ H ⟨T, B, ρ, o, ⟨S, V⟩, e, k, kx⟩ => by
    cases e
    exact kx rfl H V.env.base
def xSet (i : Nat) (f : MirE) : MirSX := fun ρ => (f ρ).map fun
  | .ex => OutX.ex
  | .ok d => .o (.nx (ρ.set i (.dat d)))
theorem sx_set {i : Nat} {x : Str} {pos' : Pos} (h : PDX X C (fun _ => E) e fx) (hN : X.N.Nodup) (hi : X.N[i]? = some x := by rfl) (hx : Loc X.env.scope x := by first | exact .inl rfl | exact .inr rfl) (hs : swapsWith e (some (.Name x pos')) pos.line X.env = pure false := by rfl) (hf : X.fn x = true ∨ X.env.scope.names.lookup x = some .local := by first | exact .inl rfl | exact .inr rfl | assumption) :
    PSX X C E (.Assign [.Name x pos'] e pos) (xSet i fx) := weakS (ps_set (i := i) hN hi hx h hs hf) fun Dn σ H ⟨T, B, ρ, o, ⟨S, V⟩, e, k, kx⟩ => by
  obtain ⟨z, e1, e2⟩ := map_some e
  cases z with
  | ex =>
    cases e2
    exact ⟨S, B, ρ, .ex, V.env, e1, fun d hd => (nomatch hd), fun _ H' s => kx rfl H' (V.env.base.trans s)⟩
  | ok d =>
    cases e2
    refine ⟨S, B, ρ, .ok d, V.env, e1, fun d' hd v H' s p => ?_, fun z => nomatch z⟩
    cases hd
    exact k _ rfl _ H' ⟨S, (V.step s).setD p⟩
def xExpr (f : MirE) : MirSX := fun ρ => (f ρ).map fun
  | .ex => OutX.ex
  | .ok _ => .o (.nx ρ)
theorem sx_expr (h : PDX X C (fun _ => E) e fx) (hs : swapsWith e none pos.line X.env = pure false := by rfl) : PSX X C E (.Expr e pos) (xExpr fx) := weakS (ps_expr h hs) fun Dn σ H ⟨T, B, ρ, o, ⟨S, V⟩, e, k, kx⟩ => by
  obtain ⟨z, e1, e2⟩ := map_some e
  cases z with
  | ex =>
    cases e2
    exact ⟨S, B, ρ, .ex, V.env, e1, fun d hd => (nomatch hd), fun _ H' s => kx rfl H' (V.env.base.trans s)⟩
  | ok d =>
    cases e2
    exact ⟨S, B, ρ, .ok d, V.env, e1, fun d' hd v H' s p => k _ rfl σ H' ⟨S, V.step s⟩, fun z => nomatch z⟩
def xRet (f : MirE) : MirSX := fun ρ => (f ρ).map fun
  | .ex => OutX.ex
  | .ok d => .o (.rt d)
theorem sx_ret (h : PDX X C (fun _ => E) e fx) : PSX X C E (.Return (some e) pos) (xRet fx) := weakS (ps_ret h) fun Dn σ H ⟨T, B, ρ, o, ⟨S, V⟩, e, k, kx⟩ => by
  obtain ⟨z, e1, e2⟩ := map_some e
  cases z with
  | ex =>
    cases e2
    exact ⟨S, B, ρ, .ex, V.env, e1, fun d hd => (nomatch hd), fun _ H' s => kx rfl H' (V.env.base.trans s)⟩
  | ok d =>
    cases e2
    refine ⟨S, B, ρ, .ok d, V.env, e1, fun d' hd v H' s p => ?_, fun z => nomatch z⟩
    cases hd
    exact k _ rfl v H' (V.env.base.trans s) (Dq.mono (hid_le H' V.sup) p)
end
/-! ### defs -/
def runX (n : Nat) (F : MirSX) : MirFX := fun xs => match F (startR n xs) with
  | some (.o (.rt d)) => some (.ok d)
  | some (.o (.nx _)) => some (.ok .none)
  | some .ex => some .ex
  | _ => none
theorem okX {P : Program} {w : World} {K : PySem.W.Frag} {mg : Str → Option Value} {base : Heap} {C : Addr} {x : Str} {st : Stmt} {N ps : List Str} {k : Nat} {F : MirSX} (Fn : Def K mg x st ps) (Sc : FnScope N ps (defScope st)) (hps : ps.length ≤ N.length)
    (hbody : ∀ (fa : Addr) (cdv : Value) (A : Around) (outer : List Env) (s : Shared) (H : Hp) (E : XK), Room k (A.deeper (envOfC x (defScope st) s.heap.objs.size fa cdv)) → PSsX (cxOf (L2.CX P w) P w K mg base N x (defScope st) fa cdv A outer s H E) C E (defBody st) F) :
    OkX P w K mg base C (k + 1) x ps.length (runX N.length F) := by
  obtain ⟨a, fd, h1, h2, h3⟩ := Fn
  refine ⟨a, fd, ps, h1.okX Sc (fun vs H Q E ⟨S, xs, d, _, a, hn, _⟩ => by rw [args_len a, hn]) fun cdv A outer s H vs Q E hr ⟨S, xs, r, hs, a', hn, e, q1, q2⟩ => ⟨_, hbody a cdv A outer s H E hr, ?_⟩, h2, h1.kp, h3⟩
  have E0 : StOk K S S (Base.of H) H (L2.start N vs) (startR N.length xs) := start_ok hs a' (by omega)
  unfold runX at e
  cases o : F (startR N.length xs) with
  | none =>
    rw [o] at e
    cases e
  | some z =>
    rw [o] at e
    cases z with
    | ex =>
      cases e
      exact ⟨S, _, _, .ex, ⟨S, E0⟩, o, fun o' h => (nomatch h), fun _ H' s' => q2 rfl H' s'⟩
    | o z =>
      cases z with
      | rt d' =>
        cases e
        refine ⟨S, _, _, .o (.rt d'), ⟨S, E0⟩, o, fun o' h => ?_, fun z => nomatch z⟩
        cases h
        exact fun v H' s' p' => q1 d' rfl v H' s' p'
      | nx ρ' =>
        cases e
        refine ⟨S, _, _, .o (.nx ρ'), ⟨S, E0⟩, o, fun o' h => ?_, fun z => nomatch z⟩
        cases h
        exact fun σ' H' ⟨S', E'⟩ => q1 .none rfl .non H' E'.env.base .non
      | bk _ => cases e
      | ct _ => cases e
/-! ### try -/
section
variable {X : Cx} {C : Addr} {e : Expr} {fx : MirE} {G : MirS} {pos pos1 pos2 pos' np p1 : Pos} {b₀ : Stmt} {suite : List Stmt}
def sTryAsg (i : Nat) (f : MirE) (G : MirS) : MirS := fun ρ => (f ρ).bind fun
  | .ok d => some (.nx (ρ.set i (.dat d)))
  | .ex => G ρ
theorem sd_tryAsg {i : Nat} {x : Str} (N : NoS X.K X.mg C) (hN : X.N.Nodup) (he : ∀ (W : WX) (pn : List (Addr × Obj)) (xe : Value → Shared → Prop), Takes (X.tr pn xe) W → PDX (X.tr pn xe) C (WE W) e fx)
    (hsu : ∀ (a : Addr) (oe : Obj) (pn : List (Addr × Obj)), PSsD (X.suite a ((a, oe) :: pn)) (b₀ :: suite) G) (hs : X.stack = X.env :: X.outer := by rfl) (hf : X.env.frame = some X.env.locals := by rfl) (hg : Gl X "NoSave" := by rfl)
    (hi : X.N[i]? = some x := by rfl) (hx : Loc X.env.scope x := by first | exact .inl rfl | exact .inr rfl) (hsw : swapsWith e (some (.Name x p1)) pos1.line X.env = pure false := by rfl) (hfn : X.fn x = true ∨ X.env.scope.names.lookup x = some .local := by first | exact .inl rfl | exact .inr rfl | assumption) :
    PSD X (.Try [.Assign [.Name x p1] e pos1] [.ExceptHandler (some (.Name "NoSave" np)) none (b₀ :: suite) pos'] [] [] pos) (sTryAsg i fx G) :=
  weakS (ps_try_only (c := .ref C) (tb := fun W => tAsg (tOfX X.K C (WE W) fx) (gName i)) (ts := fun _ _ _ => tsOf X.K G) (Wout := fun _ _ _ _ => False) hs hf ⟨hg, by decide, .inl N.gP⟩ takes0 (fun W pn xe tk _ => pss_one (ps_set (i := i) hN hi hx (he W pn xe tk) hsw hfn)) fun a oe cls d pn _ _ => hsu a oe pn) fun Dn σ H ⟨T, B, ρ, o, ⟨S, V⟩, e, k⟩ => by
    obtain ⟨z, e1, e2⟩ := bind_some e
    cases z with
    | ex => exact ⟨S, B, ρ, .ex, V.env, e1, fun d hd => (nomatch hd), fun _ H' s => ⟨true, N.eP, fun _ a ha => ⟨T, B, ρ, o, ⟨S, V.step s⟩, e2, k⟩, fun z => nomatch z⟩⟩
    | ok d =>
      cases e2
      refine ⟨S, B, ρ, .ok d, V.env, e1, fun d' hd v H' s p => ?_, fun z => nomatch z⟩
      cases hd
      exact k _ H' ⟨S, (V.step s).setD p⟩
def sTryExpr (f : MirE) (G : MirS) : MirS := fun ρ => (f ρ).bind fun
  | .ok _ => some (.nx ρ)
  | .ex => G ρ
theorem sd_tryExpr (N : NoS X.K X.mg C) (he : ∀ (W : WX) (pn : List (Addr × Obj)) (xe : Value → Shared → Prop), Takes (X.tr pn xe) W → PDX (X.tr pn xe) C (WE W) e fx)
    (hsu : ∀ (a : Addr) (oe : Obj) (pn : List (Addr × Obj)), PSsD (X.suite a ((a, oe) :: pn)) (b₀ :: suite) G) (hs : X.stack = X.env :: X.outer := by rfl) (hf : X.env.frame = some X.env.locals := by rfl) (hg : Gl X "NoSave" := by rfl)
    (hsw : swapsWith e none pos1.line X.env = pure false := by rfl) :
    PSD X (.Try [.Expr e pos1] [.ExceptHandler (some (.Name "NoSave" np)) none (b₀ :: suite) pos'] [] [] pos) (sTryExpr fx G) :=
  weakS (ps_try_only (c := .ref C) (tb := fun W => tDrop (tOfX X.K C (WE W) fx)) (ts := fun _ _ _ => tsOf X.K G) (Wout := fun _ _ _ _ => False) hs hf ⟨hg, by decide, .inl N.gP⟩ takes0 (fun W pn xe tk _ => pss_one (ps_expr (he W pn xe tk) hsw)) fun a oe cls d pn _ _ => hsu a oe pn) fun Dn σ H ⟨T, B, ρ, o, ⟨S, V⟩, e, k⟩ => by
    obtain ⟨z, e1, e2⟩ := bind_some e
    cases z with
    | ex => exact ⟨S, B, ρ, .ex, V.env, e1, fun d hd => (nomatch hd), fun _ H' s => ⟨true, N.eP, fun _ a ha => ⟨T, B, ρ, o, ⟨S, V.step s⟩, e2, k⟩, fun z => nomatch z⟩⟩
    | ok d =>
      cases e2
      exact ⟨S, B, ρ, .ok d, V.env, e1, fun d' hd v H' s p => k σ H' ⟨S, V.step s⟩, fun z => nomatch z⟩
end
theorem takes_def {P : Program} {w : World} {K : PySem.W.Frag} {mg : Str → Option Value} {base : Heap} {N : List Str} {x : Str} {st : Stmt} {fa : Addr} {cdv : Value} {A : Around} {outer : List Env} {s : Shared} {H : Hp} {E : XK} : Takes (cxOf (L2.CX P w) P w K mg base N x (defScope st) fa cdv A outer s H E) fun cls d _ H => E cls d H := takes_of rfl rfl rfl rfl
theorem pass_def {P : Program} {w : World} {K : PySem.W.Frag} {mg : Str → Option Value} {base : Heap} {N : List Str} {x : Str} {st : Stmt} {fa : Addr} {cdv : Value} {A : Around} {outer : List Env} {s : Shared} {H : Hp} {E : XK} : ∀ σ, PassesAt (L2.CX P w) (cxOf (L2.CX P w) P w K mg base N x (defScope st) fa cdv A outer s H E) σ E := fun σ => passAt takes_def σ
theorem exm_at {K : PySem.W.Frag} {S T : Addr} (h1 : PySem.W.subIn K (.ref T) (.type "BaseException") = some true) (h2 : PySem.W.isClsIn K T = true) (h3 : PySem.W.typeIn K (.ref T) = some (.type "type")) (h4 : PySem.W.subIn K (.ref S) (.ref T) = some true) :
    PySem.W.exmOne K (.ref S) (.ref T) = some true := by
  have e2 : ((PySem.W.clsIn K T).isSome && PySem.W.typeIn K (.ref T) == some (.type "type")) = true := by
    have h2' : (PySem.W.clsIn K T).isSome = true := h2
    rw [h2', h3]
    rfl
  have e1 : (PySem.W.subIn K (.ref T) (.type "BaseException") == some true) = true := by
    rw [h1]
    rfl
  unfold PySem.W.exmOne
  simp only [e1, e2, if_true, h4, PySem.W.kitCls]
end Pu

set_option Elab.async false
set_option linter.all false
set_option autoImplicit false
set_option maxRecDepth 100000
/-! a list of one's own, read in further ways -/
namespace Pu
open PySem PySem.Spec PyProof.Rows L2
section
variable {X : Cx} {a b e : Expr} {f g : Mir} {pos : Pos}
/-- sorted(x) -/
def mSortOwn (i : Nat) : Mir := fun ρ => (lOwn i ρ).bind fun ds => if sortOk ds = true then some (.list (ds.mergeSort leD)) else none
theorem pd_sortOwn (i : Nat) {x : Str} {p px : Pos} (hg : Gl X "sorted") (hm : X.mg "sorted" = none) (hu : X.A.units + 64 < cLine) (hN : X.N[i]? = some x := by rfl) (hvis : Vis X.env.scope x := by first | exact Or.inl rfl | exact Or.inr (Or.inl rfl) | exact Or.inr (Or.inr rfl)) (hd : (x == ("__debug__" : Str)) = false := by decide)
    (hcd : (x == ("__classdict__" : Str)) = false := by decide) (hs1 : starEach [.Name x px] X.env = (false, eval (.Name x px) X.env) :: starEach [] X.env := by rfl) (hp1 : (backTo pos (starEach [] X.env)).any (·.1) = false := by rfl) :
    PD X (.Call (.Name "sorted" p) [.Name x px] [] pos) (mSortOwn i) :=
  weak (pe_callB (cr_sortD hu) hg hm (by decide +kernel) (pa_cons (pe_ownL i hN hvis hd hcd) pa_nil hs1) (he := hs1) (hpl := hp1)) fun σ H Q ⟨S, B, ρ, d, E, e, k⟩ => by
    obtain ⟨ds, e1, e2⟩ := bind_some e
    obtain ⟨c, rfl⟩ := ite_some e2
    refine ⟨S, B, ρ, ds, E, e1, fun p vs h1 h2 => ⟨p, vs, ds, rfl, .inl (.inl (.inl h1)), h2.mono (hid_same S H), c, fun P out hP d2 => ?_⟩⟩
    obtain ⟨s2, n2⟩ := new_lst E.sub hP (d2 _ h2)
    exact k _ _ s2 n2
theorem atI_dq {K : PySem.W.Frag} {H : Hp} {vs : List V} {ds : List D} {i : Int} {d : D} (r : DqAll K H vs ds) (h : atI ds i = some d) : ∃ v, atI vs i = some v ∧ Dq K H v d := by
  unfold atI at h ⊢
  rw [r.length]
  obtain ⟨j, e1, e2⟩ := bind_some h
  obtain ⟨v, h1, h2⟩ := r.get e2
  exact ⟨v, by rw [e1]; exact h1, h2⟩
/-- x[e] -/
theorem pd_ixOwn (i : Nat) {x : Str} {px : Pos} (hb : PD X b g) (hN : X.N[i]? = some x := by rfl) (hvis : Vis X.env.scope x := by first | exact Or.inl rfl | exact Or.inr (Or.inl rfl) | exact Or.inr (Or.inr rfl)) (hd : (x == ("__debug__" : Str)) = false := by decide)
    (hcd : (x == ("__classdict__" : Str)) = false := by decide) (hs : PlainIx b := by intro _ _; rfl) : PD X (.Subscript (.Name x px) b pos) (mIxOwn i g) :=
  weak (pe_ix ix_list (pe_ownL i hN hvis hd hcd) hb hs) fun σ H Q ⟨S, B, ρ, d, E, e, k⟩ => by
    obtain ⟨ds, e1, e2⟩ := bind_some e
    obtain ⟨y, e3, e4⟩ := bind_some e2
    cases y <;> try (cases e4; done)
    rename_i j
    refine ⟨S, B, ρ, ds, E, e1, fun p vs h1 h2 => ⟨S, B, ρ, _, E, e3, fun w H2 s2 p2 => ?_⟩⟩
    cases p2
    obtain ⟨v, z1, z2⟩ := atI_dq (h2.mono (same_hid s2)) e4
    exact ⟨p, vs, _, v, rfl, rfl, .inl (.inl (s2 _ _ h1)), z1, k _ H2 s2 z2⟩
/-- x[lo:hi] -/
def mSlOwn (i : Nat) (lo hi : MirO) : Mir := fun ρ => (lOwn i ρ).bind fun ds => (lo ρ).bind fun l => (hi ρ).bind fun h => some (.list (cutD ds l h))
theorem pd_slOwn (i : Nat) {x : Str} {px p2 : Pos} {lo hi : Option Expr} {fl fh : MirO} (hl : POD X lo fl) (hu : POD X hi fh) (hN : X.N[i]? = some x := by rfl) (hvis : Vis X.env.scope x := by first | exact Or.inl rfl | exact Or.inr (Or.inl rfl) | exact Or.inr (Or.inr rfl)) (hd : (x == ("__debug__" : Str)) = false := by decide)
    (hcd : (x == ("__classdict__" : Str)) = false := by decide) : PD X (.Subscript (.Name x px) (.Slice lo hi none p2) pos) (mSlOwn i fl fh) :=
  weak (pe_slice (r := rSlL X.K) sl_list (pe_ownL i hN hvis hd hcd) hl hu) fun σ H Q ⟨S, B, ρ, d, E, e, k⟩ => by
    obtain ⟨ds, e1, e2⟩ := bind_some e
    obtain ⟨l, e3, e4⟩ := bind_some e2
    obtain ⟨u, e5, e6⟩ := bind_some e4
    cases e6
    refine ⟨S, B, ρ, ds, E, e1, fun p vs h1 h2 => ⟨S, B, ρ, l, E, e3, fun H2 s2 => ⟨S, B, ρ, u, E.step s2, e5, fun H3 s3 => ?_⟩⟩⟩
    refine ⟨p, vs, rfl, .inl (.inl (s3 _ _ (s2 _ _ h1))), fun q hq => ?_⟩
    obtain ⟨s4, n4⟩ := new_lst ((E.step s2).step s3).sub hq (cut_dp (h2.mono (same_hid (s2.trans s3))) l u)
    exact k _ _ ((s2.trans s3).trans s4) n4
end
end Pu

set_option Elab.async false
set_option linter.all false
set_option autoImplicit false
set_option maxRecDepth 100000
/-! a tuple, so many times -/
namespace Pu
open PySem PySem.Spec PyProof.Rows L2
section
variable {X : Cx} {a b : Expr} {f g : Mir} {pos : Pos} {K : PySem.W.Frag}
def rRepF (K : PySem.W.Frag) : R2 := fun x y H Q => ∃ l k xs, x = .ref l ∧ y = .int k ∧ SqT K H l xs ∧ xs ≠ [] ∧ 2 ≤ k ∧ k ≤ 1000 ∧ xs.length ≤ 1000 ∧ ∀ p o, H p = none → o.dict = none → Q (.ref p) (upd H p (.frz o (.tup (List.replicate k.toNat xs).flatten)))
theorem op_repF : OpR X (binaryOp .Mult) (rRepF X.K) := fun pins s σ H x y v u Q I rx ry ⟨l, k, xs, ex, ey, hT, hne, h1, h2, hz, q⟩ => by
  subst ex ey
  cases rx
  obtain ⟨t, rfl⟩ := ry
  obtain ⟨its, r, ⟨⟨cls, dd, data, sl⟩, ho, hc, n, hd⟩, hs⟩ := I.tuple hT
  have hc : cls = .type "tuple" := hc
  have hd : data = .seq its.toArray n := hd
  subst hc hd
  have hle : its.length = xs.length := r.length.symm
  have hpos : 0 < xs.length := List.length_pos_iff.mpr hne
  have hi : its.toArray.isEmpty = false := by
    cases its with
    | nil =>
      rw [List.length_nil] at hle
      omega
    | cons a b => rfl
  have hm : ((its.toArray.size : Nat) : Int) * k ≤ 1000000 := by
    rw [List.size_toArray, hle]
    have a1 : ((xs.length : Nat) : Int) * k ≤ 1000 * k := Int.mul_le_mul_of_nonneg_right (by omega) (by omega)
    omega
  have a1 : k.toNat * xs.length ≤ 1000 * 1000 := Nat.mul_le_mul (by omega) hz
  have flen : (List.replicate k.toNat its).flatten.length ≤ sizeLine := by
    rw [PyProof.Rows.lm_len_rep_flat, hle, sizeLine_eq]
    omega
  refine wpAny_binaryOp_repeat_ref (T := "tuple") (U := "int") (by decide) ⟨_, ho, rfl⟩ (fun s' => typeIs_int s' k t) noFill_tuple_mul F.fills_int_mul F.slot_int_rmul repeat_tuple F.slot_int_index.lookup
    (call_meets F.slot_int_rmul (typeIs_int s k t) F.entry_int_rmul (F.args_int_rmul_2 _ _) (int_rmul_tuple k t l its.toArray n dd sl)
      ⟨ho, rfl, ⟨_, ho, rfl⟩, call_meets F.slot_tuple_mul ⟨_, ho, rfl⟩ F.entry_tuple_mul (F.args_tuple_mul_2 _ _) (tuple_mulW l its.toArray n dd sl k t (by rw [decide_eq_false (by omega), decide_eq_false (by omega)]; rfl) (by rw [hi, Bool.false_or]; exact beq_eq_false_iff_ne.mpr (by omega))
        (by rw [hi, Bool.or_false]; exact decide_eq_false (by omega)) (by omega) (by unfold Builtin.Tuple.tupleTooMany; rw [sizeLine_eq]; exact decide_eq_false (by omega)) (by rw [size_rep, List.size_toArray]; exact flen)) ⟨ho, ?_⟩⟩)
  rw [size_rep]
  exact ⟨.ref s.heap.objs.size, _, laidT (t' := s.toks) I (r.rep k.toNat) (by rw [PyProof.Rows.lm_len_rep_flat, sizeLine_eq]; omega), rfl, q _ _ (I.hok.fresh (Nat.le_refl _)) rfl⟩
theorem ok_mulT : R2ok K (rRepF K) mulT := fun S H v w x y d Q hs p1 p2 e k => by
  cases x <;> cases y <;> try (cases e; done)
  obtain ⟨c, rfl⟩ := ite_some e
  obtain ⟨a, vs, rfl, z1, z2⟩ := Dq.sqT p1
  cases p2
  have hl := z2.length
  refine ⟨a, _, vs, rfl, rfl, z1, fun z => ?_, c.2.1, c.2.2.1, by rw [hl]; exact c.2.2.2, fun p o hp ho => ?_⟩
  · rw [z, List.length_nil] at hl
    exact c.1 (List.length_eq_zero_iff.mp hl.symm)
  · obtain ⟨s2, n2⟩ := new_tup hs hp ho (flat_rep z2 _)
    exact k _ _ s2 n2
theorem pd_mulT (ha : PD X a f) (hb : PD X b g) : PD X (.BinOp a .Mult b pos) (m2 mulT f g) := pd_bin op_repF ok_mulT ha hb
end
end Pu

set_option Elab.async false
set_option linter.all false
set_option autoImplicit false
set_option maxRecDepth 100000
set_option maxHeartbeats 1000000
namespace Pu
open PySem PySem.Spec PyProof.Rows L2
def B_need : MirSX :=
  (xIf (m1 oNot (mVar 0))
      xRaise
      xNilS)
def F_need : MirFX := runX 1 B_need

def B_number_in : MirSX :=
  (xSeq (xExpr (xCall (F_need) (xDat (mAnd (mCh oLe oLe (mC (.int 1)) (mA oLen (aCons (mVar 0) aNil)) (mC (.int 4))) (mA oAll (aCons (mL (lLc [1] (iD (mVar 0)) (gN 1) mYes (m2 oIn (mVar 1) (mC (.str "0123456789"))))) aNil))) xNil)))
    (xUp (sRet (mA oInt (aCons (mVar 0) aNil)))))
def F_number_in : MirFX := runX 2 B_number_in

def B_pair_in : MirSX :=
  (xSeq (xUp (sSet 1 (m2 oSplit (mVar 0) (mC (.str " ")))))
    (xSeq (xExpr (xCall (F_need) (xDat (m2 oEq (mA oLen (aCons (mVar 1) aNil)) (mC (.int 2))) xNil)))
    (xRet (eTup (aeCons (eUp (m2 oIx (mVar 1) (mC (.int 0)))) (aeCons (xCall (F_number_in) (xDat (m2 oIx (mVar 1) (mC (.int 1))) xNil)) aeNil))))))
def F_pair_in : MirFX := runX 2 B_pair_in

def B_read : MirSX :=
  (xSeq (xExpr (xCall (F_need) (xDat (m1 (oIsi "str") (mVar 0)) xNil)))
    (xSeq (xUp (sSet 1 (m2 oSplit (mVar 0) (mC (.str "\n")))))
    (xSeq (xUp (sSet 2 (m2 oSplit (m2 oIx (mVar 1) (mC (.int 0))) (mC (.str " ")))))
    (xSeq (xExpr (xCall (F_need) (xDat (mAnd (m2 oGt (mA oLen (aCons (mVar 1) aNil)) (mC (.int 2))) (m2 oEq (mA oLen (aCons (mVar 2) aNil)) (mC (.int 4)))) xNil)))
    (xSeq (xSet 3 (eTupL (eLc [5] (iD (mSl (mVar 1) (oSome (mC (.int 1))) (oSome (m1 oNeg (mC (.int 2)))))) (gN 5) (xCall (F_pair_in) (xDat (mVar 5) xNil)))))
    (xSeq (xSet 4 (eTup (aeCons (xCall (F_number_in) (xDat (m2 oIx (mVar 2) (mC (.int 1))) xNil)) (aeCons (xCall (F_number_in) (xDat (m2 oIx (mVar 2) (mC (.int 2))) xNil)) (aeCons (eUp (mVar 3)) aeNil)))))
    (xSeq (xExpr (xCall (F_need) (xDat (mAnd (mCall (F_is_whole) (xDat (m2 oIx (mVar 4) (mC (.int 0))) (xDat (mC (.int 1)) (xDat (mC (.int 9999)) xNil)))) (mAnd (mCall (F_is_whole) (xDat (m2 oIx (mVar 4) (mC (.int 1))) (xDat (mC (.int 1)) (xDat (mC (.int 9)) xNil)))) (mCall (F_is_book) (xDat (mVar 3) xNil)))) xNil)))
    (xSeq (xExpr (xCall (F_need) (xDat (m2 oEq (mCall (F_written) (xDat (mVar 4) xNil)) (mVar 0)) xNil)))
    (xUp (sRet (mVar 4)))))))))))
def F_read : MirFX := runX 6 B_read

def B_save_in : MirS :=
  (sSeq (sSet 2 (mC .none))
    (sSeq (sTryAsg 2 (xCall (F_read) (xDat (mVar 1) xNil))
      (sSet 2 (mC .none)))
    (sSeq (sIf (mOr (m2 oIs (mVar 2) (mC .none)) (m2 oNe (mCall (F_name_of) (xDat (m2 oIx (mVar 2) (mC (.int 0))) xNil)) (mVar 0)))
      (sRet (mC .none))
      sNil)
    (sRet (mVar 2)))))
def F_save_in : MirF := runB 3 B_save_in

def B_saves_on : MirS :=
  (sSeq (sSet 1 (mL (lLc [2, 3] (iD (mVar 0)) (gT [2, 3]) mYes (mCall (F_save_in) (xDat (mVar 2) (xDat (mVar 3) xNil))))))
    (sRet (mA oSorted (aCons (mL (lLc [4] (iD (mVar 1)) (gN 4) (m2 oIsNot (mVar 4) (mC .none)) (mVar 4))) aNil))))
def F_saves_on : MirF := runB 5 B_saves_on

def B_whole : MirS :=
  (sRet (mA oTuple (aCons (mL (lLc [1] (iD (mCall (F_saves_on) (xDat (mVar 0) xNil))) (gN 1) mYes (m2 oIx (mVar 1) (mC (.int 0))))) aNil)))
def F_whole : MirF := runB 2 B_whole

def B_spoilt : MirS :=
  (sRet (mA oTuple (aCons (mL (lLc [1, 2] (iD (mVar 0)) (gT [1, 2]) (m2 oIs (mCall (F_save_in) (xDat (mVar 1) (xDat (mVar 2) xNil))) (mC .none)) (mVar 1))) aNil)))
def F_spoilt : MirF := runB 3 B_spoilt

def B_newest : MirS :=
  (sSeq (sSet 1 (mCall (F_saves_on) (xDat (mVar 0) xNil)))
    (sSeq (sIf (m2 oEq (mA oLen (aCons (mVar 1) aNil)) (mC (.int 0)))
      (sRet (mC .none))
      sNil)
    (sRet (m2 oIx (mVar 1) (m1 oNeg (mC (.int 1)))))))
def F_newest : MirF := runB 2 B_newest

def B_loaded : MirS :=
  (sSeq (sSet 2 (mL (lLc [6] (iD (mCall (F_saves_on) (xDat (mVar 0) xNil))) (gN 6) (m2 oLe (m2 oIx (mVar 6) (mC (.int 1))) (m2 oAdd (mA oLen (aCons (mVar 1) aNil)) (mC (.int 1)))) (mVar 6))))
    (sSeq (sIf (m2 oEq (mA oLen (aCons (mVar 2) aNil)) (mC (.int 0)))
      (sRet (mC .none))
      sNil)
    (sSeq (sAsg (m2 oIx (mVar 2) (m1 oNeg (mC (.int 1)))) (gT [3, 4, 5]))
    (sRet (mTup (aCons (mVar 3) (aCons (mCall (F_led_over) (xDat (mVar 5) (xDat (mVar 4) (xDat (mVar 1) xNil)))) aNil)))))))
def F_loaded : MirF := runB 7 B_loaded

end Pu

set_option Elab.async false
set_option linter.all false
set_option autoImplicit false
set_option maxRecDepth 100000
/-! reading a text -/
namespace Pu
open PySem PySem.Spec PyProof.Rows L2
open SX (S)
open TL (numL)
open NumText (digitsVal AllDigits)
/-! ### splitting by one sign -/
theorem spl_cons (c x : Nat) (acc r : List Nat) : TL.spl [c] 0 acc (x :: r) = if x = c then acc :: TL.spl [c] 0 [] r else TL.spl [c] 0 (acc ++ [x]) r := by
  by_cases h : x = c
  · rw [if_pos h, h]
    exact TL.spl_hit (TL.pre_self [c] r)
  · rw [if_neg h]
    exact TL.spl_miss (TL.pre_of_head [] r h)
theorem spl_size (c : Nat) : ∀ (l acc : List Nat), 1 ≤ (TL.spl [c] 0 acc l).length ∧ (TL.spl [c] 0 acc l).length ≤ l.length + 1
  | [], acc => by
    rw [TL.spl_nil]
    exact ⟨Nat.le_refl _, Nat.le_refl _⟩
  | x :: r, acc => by
    rw [spl_cons]
    split
    · have := spl_size c r []
      rw [List.length_cons, List.length_cons]
      omega
    · have := spl_size c r (acc ++ [x])
      rw [List.length_cons]
      omega
theorem spl_each (c : Nat) : ∀ (l acc : List Nat), ∀ r ∈ TL.spl [c] 0 acc l, r.length ≤ acc.length + l.length
  | [], acc, r, h => by
    rw [TL.spl_nil] at h
    rw [List.mem_singleton.mp h]
    exact Nat.le_refl _
  | x :: t, acc, r, h => by
    rw [spl_cons] at h
    split at h
    · rcases List.mem_cons.mp h with h | h
      · rw [h]
        exact Nat.le_add_right _ _
      · have := spl_each c t [] r h
        rw [List.length_cons]
        rw [List.length_nil] at this
        omega
    · have := spl_each c t _ r h
      rw [List.length_append, List.length_singleton] at this
      rw [List.length_cons]
      omega
/-! ### running raising mirrors -/
section
variable {ρ ρ' : Rho} {F G : MirSX} {M : MirS} {f : Mir} {fx : MirE} {d : D} {i : Nat} {q : MirX}
theorem x_up (e : M ρ = some (.nx ρ')) : xUp M ρ = some (.o (.nx ρ')) := by
  unfold xUp
  rw [e]
  rfl
theorem x_seqN (e : F ρ = some (.o (.nx ρ'))) : xSeq F G ρ = G ρ' := by
  unfold xSeq
  rw [e]
  rfl
theorem x_seqX (e : F ρ = some .ex) : xSeq F G ρ = some .ex := by
  unfold xSeq
  rw [e]
  rfl
theorem x_expr (e : fx ρ = some (.ok d)) : xExpr fx ρ = some (.o (.nx ρ)) := by
  unfold xExpr
  rw [e]
  rfl
theorem x_exprX (e : fx ρ = some .ex) : xExpr fx ρ = some .ex := by
  unfold xExpr
  rw [e]
  rfl
theorem x_set (e : fx ρ = some (.ok d)) : xSet i fx ρ = some (.o (.nx (ρ.set i (.dat d)))) := by
  unfold xSet
  rw [e]
  rfl
theorem x_setX (e : fx ρ = some .ex) : xSet i fx ρ = some .ex := by
  unfold xSet
  rw [e]
  rfl
theorem x_ret (e : fx ρ = some (.ok d)) : xRet fx ρ = some (.o (.rt d)) := by
  unfold xRet
  rw [e]
  rfl
theorem x_retX (e : fx ρ = some .ex) : xRet fx ρ = some .ex := by
  unfold xRet
  rw [e]
  rfl
theorem run_ok {n : Nat} {xs : List Sl} (e : F (startR n xs) = some (.o (.rt d))) : runX n F xs = some (.ok d) := by
  unfold runX
  rw [e]
theorem run_ex {n : Nat} {xs : List Sl} (e : F (startR n xs) = some .ex) : runX n F xs = some .ex := by
  unfold runX
  rw [e]
theorem ae_cons {r : MirAE} {x : D} {xs : List D} (e1 : fx ρ = some (.ok x)) (e2 : r ρ = some (.ok xs)) : aeCons fx r ρ = some (.ok (x :: xs)) := by
  unfold aeCons
  rw [e1, Option.bind_some, e2]
  rfl
theorem ae_consX {r : MirAE} (e1 : fx ρ = some .ex) : aeCons fx r ρ = some .ex := by
  unfold aeCons
  rw [e1]
  rfl
theorem ae_consY {r : MirAE} {x : D} (e1 : fx ρ = some (.ok x)) (e2 : r ρ = some .ex) : aeCons fx r ρ = some .ex := by
  unfold aeCons
  rw [e1, Option.bind_some, e2]
  rfl
theorem e_tup {r : MirAE} {xs : List D} (e : r ρ = some (.ok xs)) (h : xs.length ≤ 16777216) : eTup r ρ = some (.ok (.tuple xs)) := by
  unfold eTup
  rw [e]
  exact if_pos h
theorem e_tupX {r : MirAE} (e : r ρ = some .ex) : eTup r ρ = some .ex := by
  unfold eTup
  rw [e]
  rfl
theorem need_t : F_need [.dat (.bool true)] = some (.ok .none) := rfl
theorem need_f : F_need [.dat (.bool false)] = some .ex := rfl
theorem x_needT (e : f ρ = some (.bool true)) : xExpr (xCall (F_need) (xDat f xNil)) ρ = some (.o (.nx ρ)) := x_expr (d := .none) (by
  unfold xCall
  rw [v_xDat, e]
  exact need_t)
theorem x_needF (e : f ρ = some (.bool false)) : xExpr (xCall (F_need) (xDat f xNil)) ρ = some .ex := x_exprX (by
  unfold xCall
  rw [v_xDat, e]
  exact need_f)
end
/-! ### numbers and pairs -/
def goodW (w : List Nat) : Bool := decide (1 ≤ w.length ∧ w.length ≤ 4) && figB w
theorem number_in_is {w : List Nat} (hw : w.length ≤ 1000000) : F_number_in [.dat (.str (S w))] = some (if goodW w = true then .ok (.int (digitsVal w)) else .ex) := by
  have hlen : oLen [.str (S w)] = some (.int w.length) := by rw [oLen_s (by rw [SX.S_len]; omega), SX.S_len]
  have e2 : mCh oLe oLe (mC (.int 1)) (mA oLen (aCons (mVar 0) aNil)) (mC (.int 4)) [.dat (.str (S w)), .no] = some (.bool (decide (1 ≤ (w.length : Int) ∧ (w.length : Int) ≤ 4))) := v_chain rfl (by rw [v_mA, v_aCons]; exact hlen) rfl
  have e3 := v_allLc (fun c => PyData.str (sgn c)) (fun c => decide (48 ≤ c ∧ c ≤ 57)) (ρ := [.dat (.str (S w)), .no]) (vs := [1]) (fi := iD (mVar 0)) (m := gN 1) (te := m2 oIn (mVar 1) (mC (.str "0123456789"))) (l := w) rfl (by omega) fun c hc => ⟨_, rfl, by
    rw [← fig_in]
    simp [oIn_sgn]⟩
  have e4 : mAnd (mCh oLe oLe (mC (.int 1)) (mA oLen (aCons (mVar 0) aNil)) (mC (.int 4))) (mA oAll (aCons (mL (lLc [1] (iD (mVar 0)) (gN 1) mYes (m2 oIn (mVar 1) (mC (.str "0123456789"))))) aNil)) [.dat (.str (S w)), .no] = some (.bool (goodW w)) := by
    rw [v_and e2]
    unfold goodW
    by_cases c : 1 ≤ w.length ∧ w.length ≤ 4
    · have c' : 1 ≤ (w.length : Int) ∧ (w.length : Int) ≤ 4 := by omega
      rw [if_pos (decide_eq_true c'), decide_eq_true c, e3]
      rfl
    · have c' : ¬ (1 ≤ (w.length : Int) ∧ (w.length : Int) ≤ 4) := by omega
      rw [if_neg (by simpa using c'), decide_eq_false c]
      rfl
  cases hg : goodW w with
  | false =>
    rw [hg] at e4
    exact run_ex (x_seqX (x_needF e4))
  | true =>
    rw [hg] at e4
    unfold goodW at hg
    rw [Bool.and_eq_true, decide_eq_true_iff] at hg
    refine run_ok ?_
    have hi := oInt_S hg.2 (fun z => by rw [z] at hg; simp at hg) (by omega)
    show B_number_in [.dat (.str (S w)), .no] = _
    unfold B_number_in
    rw [x_seqN (x_needT e4)]
    unfold xUp
    rw [v_sRet, v_mA, v_aCons]
    simp [hi]
def pairW (r : List Nat) : Option (Str × Int) := match TL.spl [32] 0 [] r with
  | [a, b] => if goodW b = true then some (S a, (digitsVal b : Int)) else none
  | _ => none
def rzP : Option (Str × Int) → Rz D
  | some p => .ok (prD .int p)
  | none => .ex
theorem oLen_rw {rs : List (List Nat)} (h : rs.length ≤ 1000000) : oLen [.list (rwD rs)] = some (.int rs.length) := by
  have h2 : (rwD rs).length = rs.length := List.length_map _
  have h3 : (rwD rs).length ≤ 16777216 := by omega
  rw [← h2]
  simp [h3]
theorem pair_in_is {r : List Nat} (hr : r.length ≤ 100000) : F_pair_in [.dat (.str (S r))] = some (rzP (pairW r)) := by
  have hsp := splitB (l := r) (by omega)
  have hsz := spl_size 32 r []
  have hea := spl_each 32 r []
  have hlen := oLen_rw (rs := TL.spl [32] 0 [] r) (by omega)
  have s1 : xUp (sSet 1 (m2 oSplit (mVar 0) (mC (.str " ")))) [.dat (.str (S r)), .no] = some (.o (.nx [.dat (.str (S r)), .dat (.list (rwD (TL.spl [32] 0 [] r)))])) := x_up (by simp [hsp])
  have e2 : m2 oEq (mA oLen (aCons (mVar 1) aNil)) (mC (.int 2)) [.dat (.str (S r)), .dat (.list (rwD (TL.spl [32] 0 [] r)))] = some (.bool (decide ((TL.spl [32] 0 [] r).length = 2))) := by
    rw [v_m2, v_mA, v_aCons]
    simp only [v_varS, v_var0, Option.bind_some, v_aNil, hlen, v_C, oEq_i]
    congr 2
    by_cases h : (TL.spl [32] 0 [] r).length = 2
    · rw [decide_eq_true h, h]
      rfl
    · rw [decide_eq_false h]
      exact beq_eq_false_iff_ne.mpr fun z => h (by omega)
  unfold pairW
  generalize TL.spl [32] 0 [] r = ws at *
  by_cases hc : ws.length = 2
  · rw [decide_eq_true hc] at e2
    obtain ⟨a, b, rfl⟩ : ∃ a b, ws = [a, b] := by
      match ws, hc with
      | [a, b], _ => exact ⟨a, b, rfl⟩
    have hb := hea b (by simp)
    have hn := number_in_is (w := b) (by rw [List.length_nil] at hb; omega)
    have e5 : eUp (m2 oIx (mVar 1) (mC (.int 0))) [.dat (.str (S r)), .dat (.list (rwD [a, b]))] = some (.ok (.str (S a))) := rfl
    have e6 : xCall (F_number_in) (xDat (m2 oIx (mVar 1) (mC (.int 1))) xNil) [.dat (.str (S r)), .dat (.list (rwD [a, b]))] = _ := hn
    show runX 2 B_pair_in _ = _
    have st : startR 2 [.dat (.str (S r))] = [.dat (.str (S r)), .no] := rfl
    simp only
    by_cases hg : goodW b = true
    · rw [if_pos hg] at e6
      rw [if_pos hg]
      refine run_ok ?_
      rw [st]
      unfold B_pair_in
      rw [x_seqN s1, x_seqN (x_needT e2)]
      exact x_ret (e_tup (ae_cons e5 (ae_cons e6 rfl)) (by show 2 ≤ 16777216; decide))
    · rw [if_neg hg] at e6
      rw [if_neg hg]
      refine run_ex ?_
      rw [st]
      unfold B_pair_in
      rw [x_seqN s1, x_seqN (x_needT e2)]
      exact x_retX (e_tupX (ae_consY e5 (ae_consX e6)))
  · rw [decide_eq_false hc] at e2
    have : (match ws with | [a, b] => if goodW b = true then some (S a, (digitsVal b : Int)) else none | _ => none) = none := by
      split
      · rename_i a b
        exact absurd rfl hc
      · rfl
    rw [this]
    refine run_ex ?_
    show B_pair_in [.dat (.str (S r)), .no] = _
    unfold B_pair_in
    rw [x_seqN s1, x_seqX (x_needF e2)]
def bookW : List (List Nat) → Option (Mp Int)
  | [] => some []
  | r :: rs => (pairW r).bind fun p => (bookW rs).map fun b => p :: b
theorem book_lc {ρ : Rho} {i : Nat} (hρ : ∀ d, mVar i (ρ.set i (.dat d)) = some d) : ∀ {rs : List (List Nat)}, (∀ r ∈ rs, r.length ≤ 100000) → lcGoX (gN i) (xCall (F_pair_in) (xDat (mVar i) xNil)) ρ (rwD rs) = some (match bookW rs with | some b => .ok (itM .int b) | none => .ex)
  | [], _ => rfl
  | r :: rs, h => by
    have h1 := pair_in_is (h r List.mem_cons_self)
    have ih := book_lc hρ (rs := rs) fun r' hr => h r' (List.mem_cons_of_mem _ hr)
    have hc : xCall (F_pair_in) (xDat (mVar i) xNil) (ρ.set i (.dat (.str (S r)))) = some (rzP (pairW r)) := by
      unfold xCall
      rw [v_xDat, hρ]
      exact h1
    show ((gN i (.str (S r)) ρ).bind fun ρ1 => (xCall (F_pair_in) (xDat (mVar i) xNil) ρ1).bind _) = _
    rw [v_gN, Option.bind_some, hc, Option.bind_some]
    unfold bookW
    cases hp : pairW r with
    | none => rfl
    | some p =>
      show (lcGoX (gN i) (xCall (F_pair_in) (xDat (mVar i) xNil)) ρ (rwD rs)).map _ = _
      rw [ih]
      cases bookW rs <;> rfl
end Pu

set_option Elab.async false
set_option linter.all false
set_option autoImplicit false
set_option maxRecDepth 100000
/-! what is read -/
namespace Pu
open PySem PySem.Spec PyProof.Rows L2
open SX (S)
open TL (numL)
open NumText (digitsVal AllDigits)
structure Sv (n mk : Nat) (b : Mp Int) : Prop where
  n1 : 1 ≤ n
  n9 : n ≤ 9999
  m1 : 1 ≤ mk
  m9 : mk ≤ 9
  bk : Bk b
theorem rise_cons {α : Type} {p q : Str × α} {m : Mp α} (h : ltS p.1 q.1 = true) (r : Rise (q :: m)) : Rise (p :: q :: m) := by
  refine List.pairwise_cons.mpr ⟨fun x hx => ?_, r⟩
  rcases List.mem_cons.mp hx with hx | hx
  · rw [hx]
    exact h
  · exact ltS_trans h ((List.pairwise_cons.mp r).1 x hx)
theorem rise_of : ∀ {m : Mp Int}, risesD (itM .int m) = true → Rise m
  | [], _ => List.Pairwise.nil
  | [_], _ => List.pairwise_singleton _ _
  | p :: q :: m, h => by
    have h : (ltS p.1 q.1 && risesD (itM .int (q :: m))) = true := h
    rw [Bool.and_eq_true] at h
    exact rise_cons h.1 (rise_of h.2)
theorem bk_of {m : Mp Int} (h : isBookD (bkD m) = true) : Bk m := by
  have h : ((itM .int m).all isPairD && risesD (itM .int m)) = true := h
  rw [Bool.and_eq_true] at h
  refine ⟨rise_of h.2, fun k v e => ?_⟩
  have hm := mem_of_val e
  have := List.all_eq_true.mp h.1 (prD .int (k, v)) (List.mem_map.mpr ⟨_, hm, rfl⟩)
  have z : (isKeyD (.str k) && isWholeD 0 999 (.int v)) = true := this
  rw [Bool.and_eq_true] at z
  have z2 : decide (0 ≤ v ∧ v ≤ 999) = true := z.2
  have z3 := of_decide_eq_true z2
  exact ⟨z.1, z3.1, by omega⟩
theorem pairW_len {r : List Nat} {p : Str × Int} (h : pairW r = some p) : p.1.length ≤ r.length := by
  have hea := spl_each 32 r []
  unfold pairW at h
  split at h
  · rename_i a b e
    split at h
    · cases h
      have := hea a (by rw [e]; simp)
      rw [List.length_nil] at this
      rw [SX.S_len]
      omega
    · cases h
  · cases h
theorem bookW_each : ∀ {rs : List (List Nat)} {b : Mp Int} {k : Nat}, (∀ r ∈ rs, r.length ≤ k) → bookW rs = some b → b.length = rs.length ∧ ∀ p ∈ b, p.1.length ≤ k
  | [], b, k, _, h => by
    cases h
    exact ⟨rfl, fun _ z => nomatch z⟩
  | r :: rs, b, k, hk, h => by
    unfold bookW at h
    obtain ⟨p, e1, e2⟩ := bind_some h
    obtain ⟨b', e3, rfl⟩ := map_some e2
    obtain ⟨h1, h2⟩ := bookW_each (fun r' hr => hk r' (List.mem_cons_of_mem _ hr)) e3
    refine ⟨by rw [List.length_cons, List.length_cons, h1], fun q hq => ?_⟩
    rcases List.mem_cons.mp hq with hq | hq
    · rw [hq]
      exact Nat.le_trans (pairW_len e1) (hk r List.mem_cons_self)
    · exact h2 q hq
theorem sz_book {b : Mp Int} {k : Nat} (h : b.length ≤ 1000000) (hk : ∀ p ∈ b, p.1.length ≤ k) (hk2 : k ≤ 1000000) : sz (bkD b) = true := by
  refine sz_tup_of (by rw [itM_len]; exact h) fun x hx => ?_
  obtain ⟨p, hp, rfl⟩ := List.mem_map.mp hx
  refine sz_tup_of (by show 2 ≤ 1000000; decide) fun y hy => ?_
  rcases List.mem_cons.mp hy with hy | hy
  · rw [hy]
    exact sz_str_of (Nat.le_trans (hk p hp) hk2)
  · rw [List.mem_singleton.mp hy]
    exact sz_int _
/-- the rows between the head and the last two -/
theorem cut_mid (xs : List D) : cutD xs (some 1) (some (-2)) = (xs.drop 1).take (xs.length - 3) := by
  unfold cutD
  have e1 : HT.sIx xs.length 0 (some 1) = min 1 xs.length := sIx_some (by decide)
  have e2 : HT.sIx xs.length xs.length (some (-2)) = xs.length - 2 := by
    unfold HT.sIx
    simp only
    split <;> omega
  rw [e1, e2]
  by_cases h : xs.length = 0
  · rw [List.length_eq_zero_iff.mp h]
    rfl
  · rw [show min 1 xs.length = 1 by omega]
    rfl
theorem cut_midR (rs : List (List Nat)) : cutD (rwD rs) (some 1) (some (-2)) = rwD ((rs.drop 1).take (rs.length - 3)) := by
  rw [cut_mid]
  unfold rwD
  rw [List.length_map, ← List.map_drop, ← List.map_take]
theorem mVar_set6 (r0 r1 r2 r3 r4 r5 : Sl) (d : D) : mVar 5 ([r0, r1, r2, r3, r4, r5].set 5 (.dat d)) = some d := rfl
/-- the read of a text, in steps -/
theorem read_A {l : List Nat} (hl : l.length ≤ 1000) : F_read [.dat (.str (S l))] = some .ex ∨ ∃ n mk b, Sv n mk b ∧ b.length ≤ 1000 ∧ wrL n mk b = l ∧ F_read [.dat (.str (S l))] = some (.ok (svD n mk b)) := by
  have st : startR 6 [.dat (.str (S l))] = [.dat (.str (S l)), .no, .no, .no, .no, .no] := rfl
  have k0 : xExpr (xCall (F_need) (xDat (m1 (oIsi "str") (mVar 0)) xNil)) [.dat (.str (S l)), .no, .no, .no, .no, .no] = some (.o (.nx [.dat (.str (S l)), .no, .no, .no, .no, .no])) := x_needT (by rw [v_m1, v_var0, Option.bind_some, isi_str]; rfl)
  have hsp := splitN (l := l) (by omega)
  have hsz := spl_size 10 l []
  have hea := spl_each 10 l []
  have hlenR := oLen_rw (rs := TL.spl [10] 0 [] l) (by omega)
  rw [List.length_nil, Nat.zero_add] at hea
  generalize hrows : TL.spl [10] 0 [] l = rows at *
  obtain ⟨r0, rt, rfl⟩ : ∃ r0 rt, rows = r0 :: rt := by
    match rows, hsz.1 with
    | r0 :: rt, _ => exact ⟨r0, rt, rfl⟩
  have k1 : xUp (sSet 1 (m2 oSplit (mVar 0) (mC (.str "\n")))) [.dat (.str (S l)), .no, .no, .no, .no, .no] = some (.o (.nx [.dat (.str (S l)), .dat (.list (rwD (r0 :: rt))), .no, .no, .no, .no])) := x_up (by simp [hsp])
  have hr0 := hea r0 List.mem_cons_self
  have hsp2 := splitB (l := r0) (by omega)
  have hsz2 := spl_size 32 r0 []
  have hea2 := spl_each 32 r0 []
  have hlenH := oLen_rw (rs := TL.spl [32] 0 [] r0) (by omega)
  rw [List.length_nil, Nat.zero_add] at hea2
  generalize TL.spl [32] 0 [] r0 = head at *
  have k2 : xUp (sSet 2 (m2 oSplit (m2 oIx (mVar 1) (mC (.int 0))) (mC (.str " ")))) [.dat (.str (S l)), .dat (.list (rwD (r0 :: rt))), .no, .no, .no, .no] = some (.o (.nx [.dat (.str (S l)), .dat (.list (rwD (r0 :: rt))), .dat (.list (rwD head)), .no, .no, .no])) := x_up (by
    have : m2 oIx (mVar 1) (mC (.int 0)) [.dat (.str (S l)), .dat (.list (rwD (r0 :: rt))), .no, .no, .no, .no] = some (.str (S r0)) := L2.atI_nat (xs := rwD (r0 :: rt)) (j := 0) rfl
    rw [v_sSet, v_m2, this, Option.bind_some, v_C, Option.bind_some, hsp2]
    rfl)
  have e3 : mAnd (m2 oGt (mA oLen (aCons (mVar 1) aNil)) (mC (.int 2))) (m2 oEq (mA oLen (aCons (mVar 2) aNil)) (mC (.int 4))) [.dat (.str (S l)), .dat (.list (rwD (r0 :: rt))), .dat (.list (rwD head)), .no, .no, .no] = some (.bool (decide (2 < (r0 :: rt).length ∧ head.length = 4))) := by
    have e1 : m2 oGt (mA oLen (aCons (mVar 1) aNil)) (mC (.int 2)) [.dat (.str (S l)), .dat (.list (rwD (r0 :: rt))), .dat (.list (rwD head)), .no, .no, .no] = some (.bool (decide ((2 : Int) < ((r0 :: rt).length : Int)))) := by
      rw [v_m2, v_mA, v_aCons]
      simp only [v_varS, v_var0, Option.bind_some, v_aNil, hlenR, v_C, oGt_i]
    rw [v_and e1, v_m2, v_mA, v_aCons]
    simp only [v_varS, v_var0, Option.bind_some, v_aNil, hlenH, v_C, oEq_i]
    by_cases c1 : 2 < (r0 :: rt).length
    · rw [if_pos (by rw [decide_eq_true_iff]; omega)]
      by_cases c2 : head.length = 4
      · rw [decide_eq_true ⟨c1, c2⟩, c2]
        rfl
      · rw [decide_eq_false (fun z => c2 z.2), beq_eq_false_iff_ne.mpr (fun z => c2 (by omega))]
    · rw [if_neg (by rw [decide_eq_true_iff]; omega), decide_eq_false (fun z => c1 z.1)]
  by_cases c : 2 < (r0 :: rt).length ∧ head.length = 4
  rotate_left
  · left
    rw [decide_eq_false c] at e3
    refine run_ex ?_
    rw [st]
    unfold B_read
    rw [x_seqN k0, x_seqN k1, x_seqN k2, x_seqX (x_needF e3)]
  rw [decide_eq_true c] at e3
  obtain ⟨w0, w1, w2, w3, rfl⟩ : ∃ w0 w1 w2 w3, head = [w0, w1, w2, w3] := by
    match head, c.2 with
    | [w0, w1, w2, w3], _ => exact ⟨w0, w1, w2, w3, rfl⟩
  -- the book
  have hmid : ∀ r ∈ ((r0 :: rt).drop 1).take ((r0 :: rt).length - 3), r.length ≤ 1000 := fun r hr => Nat.le_trans (hea r (List.mem_of_mem_drop (List.mem_of_mem_take hr))) hl
  have hml : (((r0 :: rt).drop 1).take ((r0 :: rt).length - 3)).length ≤ 1000 := by
    rw [List.length_take, List.length_drop]
    omega
  have hcut := cut_midR (r0 :: rt)
  generalize ((r0 :: rt).drop 1).take ((r0 :: rt).length - 3) = mid at *
  have hbk := book_lc (i := 5) (ρ := [.dat (.str (S l)), .dat (.list (rwD (r0 :: rt))), .dat (.list (rwD [w0, w1, w2, w3])), .no, .no, .no]) (fun d => rfl) (rs := mid) fun r hr => Nat.le_trans (hmid r hr) (by decide)
  have e4 : eLc [5] (iD (mSl (mVar 1) (oSome (mC (.int 1))) (oSome (m1 oNeg (mC (.int 2)))))) (gN 5) (xCall (F_pair_in) (xDat (mVar 5) xNil)) [.dat (.str (S l)), .dat (.list (rwD (r0 :: rt))), .dat (.list (rwD [w0, w1, w2, w3])), .no, .no, .no] = some (match bookW mid with | some b => .ok (itM .int b) | none => .ex) := by
    have : mSl (mVar 1) (oSome (mC (.int 1))) (oSome (m1 oNeg (mC (.int 2)))) [.dat (.str (S l)), .dat (.list (rwD (r0 :: rt))), .dat (.list (rwD [w0, w1, w2, w3])), .no, .no, .no] = some (.list (rwD mid)) := by
      rw [← hcut]
      rfl
    unfold eLc
    rw [v_iD, this]
    show (if (rwD mid).length < sizeLine then _ else none) = _
    rw [if_pos (by rw [sizeLine_is]; unfold rwD; rw [List.length_map]; omega)]
    exact hbk
  cases hb : bookW mid with
  | none =>
    left
    rw [hb] at e4
    refine run_ex ?_
    rw [st]
    unfold B_read
    rw [x_seqN k0, x_seqN k1, x_seqN k2, x_seqN (x_needT e3), x_seqX (x_setX (by unfold eTupL; rw [e4]; rfl))]
  | some b =>
    rw [hb] at e4
    obtain ⟨hbl, hbk2⟩ := bookW_each hmid hb
    have k4 : xSet 3 (eTupL (eLc [5] (iD (mSl (mVar 1) (oSome (mC (.int 1))) (oSome (m1 oNeg (mC (.int 2)))))) (gN 5) (xCall (F_pair_in) (xDat (mVar 5) xNil)))) [.dat (.str (S l)), .dat (.list (rwD (r0 :: rt))), .dat (.list (rwD [w0, w1, w2, w3])), .no, .no, .no] = some (.o (.nx [.dat (.str (S l)), .dat (.list (rwD (r0 :: rt))), .dat (.list (rwD [w0, w1, w2, w3])), .dat (bkD b), .no, .no])) := x_set (d := bkD b) (by unfold eTupL; rw [e4]; rfl)
    have hn1 := number_in_is (w := w1) (by have := hea2 w1 (by simp); omega)
    have hn2 := number_in_is (w := w2) (by have := hea2 w2 (by simp); omega)
    have g1 : xCall (F_number_in) (xDat (m2 oIx (mVar 2) (mC (.int 1))) xNil) [.dat (.str (S l)), .dat (.list (rwD (r0 :: rt))), .dat (.list (rwD [w0, w1, w2, w3])), .dat (bkD b), .no, .no] = _ := hn1
    have g2 : xCall (F_number_in) (xDat (m2 oIx (mVar 2) (mC (.int 2))) xNil) [.dat (.str (S l)), .dat (.list (rwD (r0 :: rt))), .dat (.list (rwD [w0, w1, w2, w3])), .dat (bkD b), .no, .no] = _ := hn2
    by_cases q1 : goodW w1 = true
    rotate_left
    · left
      rw [if_neg q1] at g1
      refine run_ex ?_
      rw [st]
      unfold B_read
      rw [x_seqN k0, x_seqN k1, x_seqN k2, x_seqN (x_needT e3), x_seqN k4, x_seqX (x_setX (e_tupX (ae_consX g1)))]
    by_cases q2 : goodW w2 = true
    rotate_left
    · left
      rw [if_pos q1] at g1
      rw [if_neg q2] at g2
      refine run_ex ?_
      rw [st]
      unfold B_read
      rw [x_seqN k0, x_seqN k1, x_seqN k2, x_seqN (x_needT e3), x_seqN k4, x_seqX (x_setX (e_tupX (ae_consY g1 (ae_consX g2))))]
    rw [if_pos q1] at g1
    rw [if_pos q2] at g2
    generalize hdn : digitsVal w1 = n at *
    generalize hdm : digitsVal w2 = mk at *
    have k5 := x_set (i := 4) (e_tup (ae_cons g1 (ae_cons g2 (ae_cons (fx := eUp (mVar 3)) (r := aeNil) (x := bkD b) (xs := []) rfl rfl))) (by show 3 ≤ 16777216; decide))
    have k5 : xSet 4 (eTup (aeCons (xCall (F_number_in) (xDat (m2 oIx (mVar 2) (mC (.int 1))) xNil)) (aeCons (xCall (F_number_in) (xDat (m2 oIx (mVar 2) (mC (.int 2))) xNil)) (aeCons (eUp (mVar 3)) aeNil)))) [.dat (.str (S l)), .dat (.list (rwD (r0 :: rt))), .dat (.list (rwD [w0, w1, w2, w3])), .dat (bkD b), .no, .no] = some (.o (.nx [.dat (.str (S l)), .dat (.list (rwD (r0 :: rt))), .dat (.list (rwD [w0, w1, w2, w3])), .dat (bkD b), .dat (svD n mk b), .no])) := k5
    have hsb := sz_book (b := b) (k := 1000) (by omega) hbk2 (by decide)
    have hisb := is_book (bkD b) hsb
    have hw1 := is_whole (.int n) 1 9999
    have hw2 := is_whole (.int mk) 1 9
    have e6 : mAnd (mCall (F_is_whole) (xDat (m2 oIx (mVar 4) (mC (.int 0))) (xDat (mC (.int 1)) (xDat (mC (.int 9999)) xNil)))) (mAnd (mCall (F_is_whole) (xDat (m2 oIx (mVar 4) (mC (.int 1))) (xDat (mC (.int 1)) (xDat (mC (.int 9)) xNil)))) (mCall (F_is_book) (xDat (mVar 3) xNil))) [.dat (.str (S l)), .dat (.list (rwD (r0 :: rt))), .dat (.list (rwD [w0, w1, w2, w3])), .dat (bkD b), .dat (svD n mk b), .no] = some (.bool (isWholeD 1 9999 (.int n) && (isWholeD 1 9 (.int mk) && isBookD (bkD b)))) := by
      have z1 : mCall (F_is_whole) (xDat (m2 oIx (mVar 4) (mC (.int 0))) (xDat (mC (.int 1)) (xDat (mC (.int 9999)) xNil))) [.dat (.str (S l)), .dat (.list (rwD (r0 :: rt))), .dat (.list (rwD [w0, w1, w2, w3])), .dat (bkD b), .dat (svD n mk b), .no] = _ := hw1
      have z2 : mCall (F_is_whole) (xDat (m2 oIx (mVar 4) (mC (.int 1))) (xDat (mC (.int 1)) (xDat (mC (.int 9)) xNil))) [.dat (.str (S l)), .dat (.list (rwD (r0 :: rt))), .dat (.list (rwD [w0, w1, w2, w3])), .dat (bkD b), .dat (svD n mk b), .no] = _ := hw2
      have z3 : mCall (F_is_book) (xDat (mVar 3) xNil) [.dat (.str (S l)), .dat (.list (rwD (r0 :: rt))), .dat (.list (rwD [w0, w1, w2, w3])), .dat (bkD b), .dat (svD n mk b), .no] = _ := hisb
      rw [v_and z1, v_and z2, z3]
      cases isWholeD 1 9999 (.int n) <;> cases isWholeD 1 9 (.int mk) <;> rfl
    cases h6 : (isWholeD 1 9999 (.int n) && (isWholeD 1 9 (.int mk) && isBookD (bkD b))) with
    | false =>
      left
      rw [h6] at e6
      refine run_ex ?_
      rw [st]
      unfold B_read
      rw [x_seqN k0, x_seqN k1, x_seqN k2, x_seqN (x_needT e3), x_seqN k4, x_seqN k5, x_seqX (x_needF e6)]
    | true =>
      rw [h6] at e6
      rw [Bool.and_eq_true, Bool.and_eq_true] at h6
      have y1 : (1 : Int) ≤ n ∧ (n : Int) ≤ 9999 := of_decide_eq_true h6.1
      have y2 : (1 : Int) ≤ mk ∧ (mk : Int) ≤ 9 := of_decide_eq_true h6.2.1
      have hB := bk_of h6.2.2
      have hbl2 : b.length ≤ 1000 := by rw [hbl]; exact hml
      have hwr := written_is (n := n) (mk := mk) (b := b) (by omega) (by omega) (hB.sm hbl2)
      have e7 : m2 oEq (mCall (F_written) (xDat (mVar 4) xNil)) (mVar 0) [.dat (.str (S l)), .dat (.list (rwD (r0 :: rt))), .dat (.list (rwD [w0, w1, w2, w3])), .dat (bkD b), .dat (svD n mk b), .no] = some (.bool (decide (wrL n mk b = l))) := by
        have z : mCall (F_written) (xDat (mVar 4) xNil) [.dat (.str (S l)), .dat (.list (rwD (r0 :: rt))), .dat (.list (rwD [w0, w1, w2, w3])), .dat (bkD b), .dat (svD n mk b), .no] = _ := hwr
        rw [v_m2, z, Option.bind_some, v_var0, Option.bind_some, oEq_s, beqS]
        congr 2
        exact decide_eq_decide.mpr ⟨SX.S_inj, fun z => by rw [z]⟩
      by_cases q7 : wrL n mk b = l
      · right
        refine ⟨n, mk, b, ⟨by omega, by omega, by omega, by omega, hB⟩, hbl2, q7, run_ok ?_⟩
        rw [decide_eq_true q7] at e7
        rw [st]
        unfold B_read
        rw [x_seqN k0, x_seqN k1, x_seqN k2, x_seqN (x_needT e3), x_seqN k4, x_seqN k5, x_seqN (x_needT e6), x_seqN (x_needT e7)]
        rfl
      · left
        rw [decide_eq_false q7] at e7
        refine run_ex ?_
        rw [st]
        unfold B_read
        rw [x_seqN k0, x_seqN k1, x_seqN k2, x_seqN (x_needT e3), x_seqN k4, x_seqN k5, x_seqN (x_needT e6), x_seqX (x_needF e7)]
theorem goodW_num {n : Nat} (h : n < 10000) : goodW (numL n) = true := by
  unfold goodW
  have h1 : (numL n).length ≤ 4 := TL.numL_len (by decide) h
  have h2 : 1 ≤ (numL n).length := by
    cases e : numL n with
    | nil => exact absurd e (TL.numL_ne n)
    | cons _ _ => rw [List.length_cons]; omega
  rw [decide_eq_true ⟨h2, h1⟩, figB_num]
  rfl
theorem pairW_row {p : Str × Int} (hk : keyOk p.1 = true) (h0 : 0 ≤ p.2) (h9 : p.2 < 10000) : pairW (rowL p) = some p := by
  have hf : (32 : Nat) ∉ p.1.cps.toList := fun h => by
    have := keyOk_in hk 32 h
    omega
  have e : TL.spl [32] 0 [] (rowL p) = [p.1.cps.toList, numL p.2.toNat] := by
    unfold rowL
    have h1 := TL.spl_part1 (s := 32) (S := []) (p := p.1.cps.toList) (rest := numL p.2.toNat) (acc := []) hf
    rw [show p.1.cps.toList ++ (32 :: numL p.2.toNat) = p.1.cps.toList ++ ([32] ++ numL p.2.toNat) from rfl, h1, TL.spl_last1 (num_free _ 32 (by omega))]
    rfl
  unfold pairW
  rw [e]
  simp only
  rw [if_pos (goodW_num (by omega)), TL.numL_val]
  have e1 : S p.1.cps.toList = p.1 := SX.S_tl p.1
  rw [e1, show ((p.2.toNat : Nat) : Int) = p.2 by omega]
theorem bookW_rows : ∀ {b : Mp Int}, (∀ p ∈ b, keyOk p.1 = true ∧ 0 ≤ p.2 ∧ p.2 < 10000) → bookW (b.map rowL) = some b
  | [], _ => rfl
  | p :: b, h => by
    have h1 := h p List.mem_cons_self
    rw [List.map_cons]
    unfold bookW
    rw [pairW_row h1.1 h1.2.1 h1.2.2, bookW_rows fun q hq => h q (List.mem_cons_of_mem _ hq)]
    rfl
theorem head_spl (n mk k : Nat) : TL.spl [32] 0 [] (headL n mk k) = [[115, 97, 118, 101], numL n, numL mk, numL k] := by
  unfold headL
  have f : ∀ m, (32 : Nat) ∉ numL m := fun m => num_free m 32 (by omega)
  have h1 := TL.spl_part1 (s := 32) (S := []) (p := [115, 97, 118, 101]) (rest := numL n ++ ([32] ++ (numL mk ++ ([32] ++ numL k)))) (acc := []) (by decide)
  have h2 := TL.spl_part1 (s := 32) (S := []) (p := numL n) (rest := numL mk ++ ([32] ++ numL k)) (acc := []) (f n)
  have h3 := TL.spl_part1 (s := 32) (S := []) (p := numL mk) (rest := numL k) (acc := []) (f mk)
  rw [h1, h2, h3, TL.spl_last1 (f k)]
  rfl
theorem Bk.each {b : Mp Int} (h : Bk b) : ∀ p ∈ b, keyOk p.1 = true ∧ 0 ≤ p.2 ∧ p.2 < 10000 := fun p hp => by
  have := h.fb p.1 p.2 (val_of_mem h.rise.nd hp)
  exact ⟨this.1, this.2.1, by omega⟩
/-- the text of a save is read to it -/
theorem read_B {n mk : Nat} {b : Mp Int} (v : Sv n mk b) (hb : b.length ≤ 900) : F_read [.dat (.str (S (wrL n mk b)))] = some (.ok (svD n mk b)) := by
  have := v.n9
  have := v.m9
  have hsm := v.bk.sm (by omega)
  have hwl := wrL_len (n := n) (mk := mk) (by omega) (by omega) hsm
  have hrs := spl_wr (n := n) (mk := mk) v.bk.keys
  have st : startR 6 [.dat (.str (S (wrL n mk b)))] = [.dat (.str (S (wrL n mk b))), .no, .no, .no, .no, .no] := rfl
  generalize hl : wrL n mk b = l at *
  have k0 : xExpr (xCall (F_need) (xDat (m1 (oIsi "str") (mVar 0)) xNil)) [.dat (.str (S l)), .no, .no, .no, .no, .no] = some (.o (.nx [.dat (.str (S l)), .no, .no, .no, .no, .no])) := x_needT (by rw [v_m1, v_var0, Option.bind_some, isi_str]; rfl)
  have hsp := splitN (l := l) (by omega)
  rw [hrs] at hsp
  have hrw : rowsL n mk b ++ [endL (bodyL n mk b), []] = headL n mk b.length :: (b.map rowL ++ [endL (bodyL n mk b), []]) := rfl
  rw [hrw] at hsp
  have hlR : (headL n mk b.length :: (b.map rowL ++ [endL (bodyL n mk b), []])).length = b.length + 3 := by
    rw [List.length_cons, List.length_append, List.length_map]
    rfl
  have hlenR := oLen_rw (rs := headL n mk b.length :: (b.map rowL ++ [endL (bodyL n mk b), []])) (by omega)
  have hcut := cut_midR (headL n mk b.length :: (b.map rowL ++ [endL (bodyL n mk b), []]))
  have hmid : ((headL n mk b.length :: (b.map rowL ++ [endL (bodyL n mk b), []])).drop 1).take ((headL n mk b.length :: (b.map rowL ++ [endL (bodyL n mk b), []])).length - 3) = b.map rowL := by
    rw [hlR, List.drop_one, List.tail_cons, show b.length + 3 - 3 = (b.map rowL).length by rw [List.length_map]; omega, List.take_left]
  rw [hmid] at hcut
  rw [hlR] at hlenR
  generalize hrows : headL n mk b.length :: (b.map rowL ++ [endL (bodyL n mk b), []]) = rows at *
  have hr0 : rows[0]? = some (headL n mk b.length) := by rw [← hrows]; rfl
  have k1 : xUp (sSet 1 (m2 oSplit (mVar 0) (mC (.str "\n")))) [.dat (.str (S l)), .no, .no, .no, .no, .no] = some (.o (.nx [.dat (.str (S l)), .dat (.list (rwD rows)), .no, .no, .no, .no])) := x_up (by simp [hsp])
  have hhl := headL_len (n := n) (mk := mk) (k := b.length) (by omega) (by omega) (by omega)
  have hsp2 := splitB (l := headL n mk b.length) (by omega)
  rw [head_spl] at hsp2
  have k2 : xUp (sSet 2 (m2 oSplit (m2 oIx (mVar 1) (mC (.int 0))) (mC (.str " ")))) [.dat (.str (S l)), .dat (.list (rwD rows)), .no, .no, .no, .no] = some (.o (.nx [.dat (.str (S l)), .dat (.list (rwD rows)), .dat (.list (rwD [[115, 97, 118, 101], numL n, numL mk, numL b.length])), .no, .no, .no])) := x_up (by
    have : m2 oIx (mVar 1) (mC (.int 0)) [.dat (.str (S l)), .dat (.list (rwD rows)), .no, .no, .no, .no] = some (.str (S (headL n mk b.length))) := L2.atI_nat (xs := rwD rows) (j := 0) (by unfold rwD; rw [List.getElem?_map, hr0]; rfl)
    rw [v_sSet, v_m2, this, Option.bind_some, v_C, Option.bind_some, hsp2]
    rfl)
  have e3 : mAnd (m2 oGt (mA oLen (aCons (mVar 1) aNil)) (mC (.int 2))) (m2 oEq (mA oLen (aCons (mVar 2) aNil)) (mC (.int 4))) [.dat (.str (S l)), .dat (.list (rwD rows)), .dat (.list (rwD [[115, 97, 118, 101], numL n, numL mk, numL b.length])), .no, .no, .no] = some (.bool true) := by
    have e1 : m2 oGt (mA oLen (aCons (mVar 1) aNil)) (mC (.int 2)) [.dat (.str (S l)), .dat (.list (rwD rows)), .dat (.list (rwD [[115, 97, 118, 101], numL n, numL mk, numL b.length])), .no, .no, .no] = some (.bool true) := by
      rw [v_m2, v_mA, v_aCons]
      simp only [v_varS, v_var0, Option.bind_some, v_aNil, hlenR, v_C, oGt_i]
      rw [decide_eq_true (by omega : (2 : Int) < ((b.length + 3 : Nat) : Int))]
    rw [v_and e1, v_m2, v_mA, v_aCons]
    rfl
  have hbk := book_lc (i := 5) (ρ := [.dat (.str (S l)), .dat (.list (rwD rows)), .dat (.list (rwD [[115, 97, 118, 101], numL n, numL mk, numL b.length])), .no, .no, .no]) (fun d => rfl) (rs := b.map rowL) fun r hr => by
    obtain ⟨p, hp, rfl⟩ := List.mem_map.mp hr
    have := rowL_len (hsm.2 p hp)
    omega
  rw [bookW_rows v.bk.each] at hbk
  have e4 : eLc [5] (iD (mSl (mVar 1) (oSome (mC (.int 1))) (oSome (m1 oNeg (mC (.int 2)))))) (gN 5) (xCall (F_pair_in) (xDat (mVar 5) xNil)) [.dat (.str (S l)), .dat (.list (rwD rows)), .dat (.list (rwD [[115, 97, 118, 101], numL n, numL mk, numL b.length])), .no, .no, .no] = some (.ok (itM .int b)) := by
    have : mSl (mVar 1) (oSome (mC (.int 1))) (oSome (m1 oNeg (mC (.int 2)))) [.dat (.str (S l)), .dat (.list (rwD rows)), .dat (.list (rwD [[115, 97, 118, 101], numL n, numL mk, numL b.length])), .no, .no, .no] = some (.list (rwD (b.map rowL))) := by
      rw [← hcut]
      rfl
    unfold eLc
    rw [v_iD, this]
    show (if (rwD (b.map rowL)).length < sizeLine then _ else none) = _
    rw [if_pos (by rw [sizeLine_is]; unfold rwD; rw [List.length_map, List.length_map]; omega)]
    exact hbk
  have k4 : xSet 3 (eTupL (eLc [5] (iD (mSl (mVar 1) (oSome (mC (.int 1))) (oSome (m1 oNeg (mC (.int 2)))))) (gN 5) (xCall (F_pair_in) (xDat (mVar 5) xNil)))) [.dat (.str (S l)), .dat (.list (rwD rows)), .dat (.list (rwD [[115, 97, 118, 101], numL n, numL mk, numL b.length])), .no, .no, .no] = some (.o (.nx [.dat (.str (S l)), .dat (.list (rwD rows)), .dat (.list (rwD [[115, 97, 118, 101], numL n, numL mk, numL b.length])), .dat (bkD b), .no, .no])) := x_set (d := bkD b) (by unfold eTupL; rw [e4]; rfl)
  have hn1 := number_in_is (w := numL n) (by have := num6 (n := n) (by omega); omega)
  have hn2 := number_in_is (w := numL mk) (by have := num6 (n := mk) (by omega); omega)
  rw [if_pos (goodW_num (by omega)), TL.numL_val] at hn1 hn2
  have g1 : xCall (F_number_in) (xDat (m2 oIx (mVar 2) (mC (.int 1))) xNil) [.dat (.str (S l)), .dat (.list (rwD rows)), .dat (.list (rwD [[115, 97, 118, 101], numL n, numL mk, numL b.length])), .dat (bkD b), .no, .no] = _ := hn1
  have g2 : xCall (F_number_in) (xDat (m2 oIx (mVar 2) (mC (.int 2))) xNil) [.dat (.str (S l)), .dat (.list (rwD rows)), .dat (.list (rwD [[115, 97, 118, 101], numL n, numL mk, numL b.length])), .dat (bkD b), .no, .no] = _ := hn2
  have k5 := x_set (i := 4) (e_tup (ae_cons g1 (ae_cons g2 (ae_cons (fx := eUp (mVar 3)) (r := aeNil) (x := bkD b) (xs := []) rfl rfl))) (by show 3 ≤ 16777216; decide))
  have k5 : xSet 4 (eTup (aeCons (xCall (F_number_in) (xDat (m2 oIx (mVar 2) (mC (.int 1))) xNil)) (aeCons (xCall (F_number_in) (xDat (m2 oIx (mVar 2) (mC (.int 2))) xNil)) (aeCons (eUp (mVar 3)) aeNil)))) [.dat (.str (S l)), .dat (.list (rwD rows)), .dat (.list (rwD [[115, 97, 118, 101], numL n, numL mk, numL b.length])), .dat (bkD b), .no, .no] = some (.o (.nx [.dat (.str (S l)), .dat (.list (rwD rows)), .dat (.list (rwD [[115, 97, 118, 101], numL n, numL mk, numL b.length])), .dat (bkD b), .dat (svD n mk b), .no])) := k5
  have hisb := v.bk.book (by omega)
  have hw1 := is_whole (.int n) 1 9999
  have hw2 := is_whole (.int mk) 1 9
  have y1 : isWholeD 1 9999 (.int n) = true := decide_eq_true (by have := v.n1; omega)
  have y2 : isWholeD 1 9 (.int mk) = true := decide_eq_true (by have := v.m1; omega)
  rw [y1] at hw1
  rw [y2] at hw2
  have e6 : mAnd (mCall (F_is_whole) (xDat (m2 oIx (mVar 4) (mC (.int 0))) (xDat (mC (.int 1)) (xDat (mC (.int 9999)) xNil)))) (mAnd (mCall (F_is_whole) (xDat (m2 oIx (mVar 4) (mC (.int 1))) (xDat (mC (.int 1)) (xDat (mC (.int 9)) xNil)))) (mCall (F_is_book) (xDat (mVar 3) xNil))) [.dat (.str (S l)), .dat (.list (rwD rows)), .dat (.list (rwD [[115, 97, 118, 101], numL n, numL mk, numL b.length])), .dat (bkD b), .dat (svD n mk b), .no] = some (.bool true) := by
    have z1 : mCall (F_is_whole) (xDat (m2 oIx (mVar 4) (mC (.int 0))) (xDat (mC (.int 1)) (xDat (mC (.int 9999)) xNil))) [.dat (.str (S l)), .dat (.list (rwD rows)), .dat (.list (rwD [[115, 97, 118, 101], numL n, numL mk, numL b.length])), .dat (bkD b), .dat (svD n mk b), .no] = _ := hw1
    have z2 : mCall (F_is_whole) (xDat (m2 oIx (mVar 4) (mC (.int 1))) (xDat (mC (.int 1)) (xDat (mC (.int 9)) xNil))) [.dat (.str (S l)), .dat (.list (rwD rows)), .dat (.list (rwD [[115, 97, 118, 101], numL n, numL mk, numL b.length])), .dat (bkD b), .dat (svD n mk b), .no] = _ := hw2
    have z3 : mCall (F_is_book) (xDat (mVar 3) xNil) [.dat (.str (S l)), .dat (.list (rwD rows)), .dat (.list (rwD [[115, 97, 118, 101], numL n, numL mk, numL b.length])), .dat (bkD b), .dat (svD n mk b), .no] = _ := hisb
    rw [v_and z1, v_and z2, z3]
    rfl
  have hwr := written_is (n := n) (mk := mk) (b := b) (by omega) (by omega) hsm
  rw [hl] at hwr
  have e7 : m2 oEq (mCall (F_written) (xDat (mVar 4) xNil)) (mVar 0) [.dat (.str (S l)), .dat (.list (rwD rows)), .dat (.list (rwD [[115, 97, 118, 101], numL n, numL mk, numL b.length])), .dat (bkD b), .dat (svD n mk b), .no] = some (.bool true) := by
    have z : mCall (F_written) (xDat (mVar 4) xNil) [.dat (.str (S l)), .dat (.list (rwD rows)), .dat (.list (rwD [[115, 97, 118, 101], numL n, numL mk, numL b.length])), .dat (bkD b), .dat (svD n mk b), .no] = _ := hwr
    rw [v_m2, z, Option.bind_some, v_var0, Option.bind_some, oEq_s, beqS, decide_eq_true rfl]
  refine run_ok ?_
  rw [st]
  unfold B_read
  rw [x_seqN k0, x_seqN k1, x_seqN k2, x_seqN (x_needT e3), x_seqN k4, x_seqN k5, x_seqN (x_needT e6), x_seqN (x_needT e7)]
  rfl
theorem kv_inj : ∀ {a b : Mp Int}, itM .int a = itM .int b → a = b
  | [], [], _ => rfl
  | [], _ :: _, h => nomatch h
  | _ :: _, [], h => nomatch h
  | (k, v) :: a, (k', v') :: b, h => by
    have h : prD .int (k, v) :: itM .int a = prD .int (k', v') :: itM .int b := h
    injection h with h1 h2
    unfold prD at h1
    injection h1 with h1
    injection h1 with h3 h4
    injection h3 with h3
    injection h4 with h4
    injection h4 with h4
    have h3 : k = k' := h3
    have h4 : v = v' := h4
    rw [h3, h4, kv_inj h2]
theorem svD_inj {n mk n' mk' : Nat} {b b' : Mp Int} (h : svD n mk b = svD n' mk' b') : n = n' ∧ mk = mk' ∧ b = b' := by
  unfold svD at h
  injection h with h
  injection h with h1 h
  injection h with h2 h
  injection h with h3 h
  injection h1 with h1
  injection h2 with h2
  injection h3 with h3
  exact ⟨by omega, by omega, kv_inj h3⟩
/-- one text, one save -/
theorem wrL_inj {n mk n' mk' : Nat} {b b' : Mp Int} (v : Sv n mk b) (v' : Sv n' mk' b') (hb : b.length ≤ 900) (hb' : b'.length ≤ 900) (h : wrL n mk b = wrL n' mk' b') : n = n' ∧ mk = mk' ∧ b = b' := by
  have h1 := read_B v hb
  have h2 := read_B v' hb'
  rw [h, h2] at h1
  injection h1 with h1
  injection h1 with h1
  obtain ⟨a, b, c⟩ := svD_inj h1
  exact ⟨a.symm, b.symm, c.symm⟩
/-- a text that is no save's is refused -/
theorem read_no {l : List Nat} (hl : l.length ≤ 1000) (h : ∀ n mk b, Sv n mk b → wrL n mk b ≠ l) : F_read [.dat (.str (S l))] = some .ex := by
  rcases read_A hl with h1 | ⟨n, mk, b, v, _, e, _⟩
  · exact h1
  · exact absurd e (h n mk b v)
end Pu

set_option Elab.async false
set_option linter.all false
set_option autoImplicit false
set_option maxRecDepth 100000
/-! spoilt texts -/
namespace Pu
open PySem PySem.Spec PyProof.Rows L2
open SX (S)
open TL (numL)
open NumText (digitsVal AllDigits)
/-! ### sums -/
theorem stp_inj {a b c : Nat} (ha : a < 9973) (hb : b < 9973) (h : stp a c = stp b c) : a = b := by
  unfold stp at h
  omega
theorem stp_injR {s a b : Nat} (ha : a < 9973) (hb : b < 9973) (h : stp s a = stp s b) : a = b := by
  unfold stp at h
  omega
theorem stp_swap {s a b : Nat} (ha : a < 300) (hb : b < 300) (h : stp (stp s a) b = stp (stp s b) a) : a = b := by
  unfold stp at h
  omega
theorem fold_inj : ∀ (l : List Nat) {a b : Nat}, a < 9973 → b < 9973 → l.foldl stp a = l.foldl stp b → a = b
  | [], _, _, _, _, h => h
  | c :: l, _, _, ha, hb, h => stp_inj ha hb (fold_inj l (stp_lt _ _) (stp_lt _ _) h)
theorem sumL_one {p q : List Nat} {a b : Nat} (ha : a < 9973) (hb : b < 9973) (h : sumL (p ++ a :: q) = sumL (p ++ b :: q)) : a = b := by
  unfold sumL at h
  rw [List.foldl_append, List.foldl_append, List.foldl_cons, List.foldl_cons] at h
  exact stp_injR ha hb (fold_inj q (stp_lt _ _) (stp_lt _ _) h)
theorem sumL_two {p q : List Nat} {a b : Nat} (ha : a < 300) (hb : b < 300) (h : sumL (p ++ a :: b :: q) = sumL (p ++ b :: a :: q)) : a = b := by
  unfold sumL at h
  rw [List.foldl_append, List.foldl_append, List.foldl_cons, List.foldl_cons, List.foldl_cons, List.foldl_cons] at h
  exact stp_swap ha hb (fold_inj q (stp_lt _ _) (stp_lt _ _) h)
theorem val_zeros : ∀ (k : Nat) (l : List Nat), digitsVal (List.replicate k 48 ++ l) = digitsVal l
  | 0, _ => rfl
  | k + 1, l => val_zeros k l
theorem pad4_val (n : Nat) : digitsVal (pad4 n) = n := by
  unfold pad4
  rw [val_zeros, TL.numL_val]
theorem sum4_inj {l m : List Nat} (h : sum4 l = sum4 m) : sumL l = sumL m := by
  have := congrArg digitsVal h
  unfold sum4 at this
  rwa [pad4_val, pad4_val] at this
/-! ### a text and its last row -/
def tailL (l : List Nat) : List Nat := endL l ++ [10]
theorem tailL_len (l : List Nat) : (tailL l).length = 9 := by
  unfold tailL
  rw [List.length_append, endL_len]
  rfl
theorem tailL_inj {l m : List Nat} (h : tailL l = tailL m) : sumL l = sumL m := by
  unfold tailL at h
  have h1 := (List.append_inj h (by rw [endL_len, endL_len])).1
  unfold endL at h1
  exact sum4_inj (List.append_inj h1 rfl).2
theorem wrL_tail (n mk : Nat) (b : Mp Int) : wrL n mk b = bodyL n mk b ++ tailL (bodyL n mk b) := rfl
theorem wrL_size (n mk : Nat) (b : Mp Int) : (wrL n mk b).length = (bodyL n mk b).length + 9 := by rw [wrL_tail, List.length_append, tailL_len]
/-- two texts of one size -/
theorem wr_parts {n mk n' mk' : Nat} {b b' : Mp Int} (h : (wrL n mk b).length = (wrL n' mk' b').length) : (bodyL n mk b).length = (bodyL n' mk' b').length := by
  rw [wrL_size, wrL_size] at h
  omega
theorem body_end (n mk : Nat) (b : Mp Int) : ∃ t, bodyL n mk b = t ++ [10] := by
  have key : ∀ (rs : List (List Nat)) (r : List Nat), ∃ t, txL (r :: rs) = t ++ [10] := fun rs => by
    induction rs with
    | nil => exact fun r => ⟨r, by simp [txL]⟩
    | cons r' rs ih =>
      intro r
      obtain ⟨t, e⟩ := ih r'
      refine ⟨(r ++ [10]) ++ t, ?_⟩
      show (r ++ [10]) ++ txL (r' :: rs) = _
      rw [e]
      simp
  exact key _ _
def cnt (l : List Nat) : Nat := l.count 10
theorem cnt_app (l m : List Nat) : cnt (l ++ m) = cnt l + cnt m := List.count_append
theorem cnt_free {l : List Nat} (h : 10 ∉ l) : cnt l = 0 := List.count_eq_zero.mpr h
theorem cnt_tx : ∀ {rs : List (List Nat)}, (∀ r ∈ rs, 10 ∉ r) → cnt (txL rs) = rs.length
  | [], _ => rfl
  | r :: rs, h => by
    show cnt ((r ++ [10]) ++ txL rs) = _
    rw [cnt_app, cnt_app, cnt_free (h r List.mem_cons_self), cnt_tx fun r' hr => h r' (List.mem_cons_of_mem _ hr), List.length_cons]
    show 0 + 1 + rs.length = _
    omega
theorem cnt_wr {n mk : Nat} {b : Mp Int} (hb : ∀ p ∈ b, keyOk p.1 = true) : cnt (wrL n mk b) = b.length + 2 := by
  rw [wrL_tail, cnt_app]
  unfold bodyL tailL
  rw [cnt_tx (rows_free hb), cnt_app, cnt_free (end_free _), rowsL_len]
  show b.length + 1 + (0 + 1) = _
  omega
/-- the first row -/
def row0 (l : List Nat) : List Nat := l.takeWhile fun c => decide (c ≠ 10)
theorem row0_of {r t : List Nat} (h : 10 ∉ r) : row0 (r ++ 10 :: t) = r := by
  unfold row0
  have hp : ∀ c ∈ r, (fun c => decide (c ≠ 10)) c = true := fun c hc => decide_eq_true (show c ≠ 10 from fun z => h (by rw [← z]; exact hc))
  rw [List.takeWhile_append_of_pos hp, List.takeWhile_cons_of_neg (by simp), List.append_nil]
theorem row0_wr (n mk : Nat) (b : Mp Int) : row0 (wrL n mk b) = headL n mk b.length := by
  have : wrL n mk b = headL n mk b.length ++ 10 :: (txL (b.map rowL) ++ tailL (bodyL n mk b)) := by
    rw [wrL_tail]
    show ((headL n mk b.length ++ [10]) ++ txL (b.map rowL)) ++ _ = _
    simp
  rw [this]
  exact row0_of (head_free _ _ _)
theorem row0_app {l m : List Nat} (h : 10 ∈ l) : row0 (l ++ m) = row0 l := by
  obtain ⟨r, t, e, hr⟩ : ∃ r t, l = r ++ 10 :: t ∧ 10 ∉ r := by
    induction l with
    | nil => exact absurd h (by simp)
    | cons c l ih =>
      by_cases hc : c = 10
      · exact ⟨[], l, by rw [hc]; rfl, by simp⟩
      · obtain ⟨r, t, e, hr⟩ := ih ((List.mem_cons.mp h).resolve_left fun z => hc z.symm)
        exact ⟨c :: r, t, by rw [e]; rfl, fun z => (List.mem_cons.mp z).elim (fun z => hc z.symm) hr⟩
  rw [e, List.append_assoc, row0_of hr]
  exact row0_of hr
theorem head_inj {n mk k n' mk' k' : Nat} (h : headL n mk k = headL n' mk' k') : n = n' ∧ mk = mk' ∧ k = k' := by
  have := congrArg (TL.spl [32] 0 []) h
  rw [head_spl, head_spl] at this
  injection this with _ this
  injection this with h1 this
  injection this with h2 this
  injection this with h3 this
  exact ⟨TL.numL_inj h1, TL.numL_inj h2, TL.numL_inj h3⟩
/-! ### no save's text -/
def IsSv (l : List Nat) : Prop := ∃ n mk b, Sv n mk b ∧ wrL n mk b = l
section
variable {n mk : Nat} {b : Mp Int}
theorem has10 (n mk : Nat) (b : Mp Int) : 10 ∈ wrL n mk b := by
  rw [wrL_tail]
  obtain ⟨t, e⟩ := body_end n mk b
  rw [e]
  simp
theorem wr_end (n mk : Nat) (b : Mp Int) : ∃ t, wrL n mk b = t ++ [10] := ⟨bodyL n mk b ++ endL (bodyL n mk b), by rw [List.append_assoc]; rfl⟩
/-- ahead of another one -/
theorem no_pre {l m : List Nat} (h1 : IsSv l) (h2 : IsSv (l ++ m)) : m = [] := by
  obtain ⟨n, mk, b, v, e⟩ := h1
  obtain ⟨n', mk', b', v', e'⟩ := h2
  have hr : row0 (wrL n' mk' b') = row0 (wrL n mk b) := by
    rw [e', ← e]
    exact row0_app (has10 n mk b)
  rw [row0_wr, row0_wr] at hr
  obtain ⟨_, _, hk⟩ := head_inj hr
  have c1 := cnt_wr (n := n) (mk := mk) v.bk.keys
  have c2 := cnt_wr (n := n') (mk := mk') v'.bk.keys
  rw [e] at c1
  rw [e', cnt_app, c1, hk] at c2
  by_cases hm : m = []
  · exact hm
  · exfalso
    obtain ⟨t, et⟩ := wr_end n' mk' b'
    rw [e'] at et
    have hl : (l ++ m).getLast? = some 10 := by
      rw [et]
      simp
    have hg : m.getLast? = some 10 := by
      rw [List.getLast?_append] at hl
      cases hq : m.getLast? with
      | none => exact absurd (List.getLast?_eq_none_iff.mp hq) hm
      | some d =>
        rw [hq] at hl
        exact hl
    have : 10 ∈ m := List.mem_of_getLast? hg
    have := List.count_pos_iff.mpr this
    unfold cnt at c2
    omega
theorem no_cut {l : List Nat} (h : IsSv l) {i : Nat} (hi : i < l.length) : ¬ IsSv (l.take i) := fun z => by
  have := no_pre z (by rw [List.take_append_drop]; exact h) (m := l.drop i)
  have := congrArg List.length this
  rw [List.length_drop, List.length_nil] at this
  omega
theorem no_more {l m : List Nat} (h : IsSv l) (hm : m ≠ []) : ¬ IsSv (l ++ m) := fun z => hm (no_pre h z)
/-- all signs are below 128 -/
theorem wr_ascii {n mk : Nat} {b : Mp Int} (hb : ∀ p ∈ b, keyOk p.1 = true) : ∀ c ∈ wrL n mk b, c < 128 := fun c hc => by
  have hnum : ∀ m, ∀ c ∈ numL m, c < 128 := fun m c hc => by
    have := TL.numL_digits m c hc
    omega
  have hrow : ∀ r ∈ rowsL n mk b, ∀ c ∈ r, c < 128 := fun r hr c hc => by
    rcases List.mem_cons.mp hr with hr | hr
    · rw [hr] at hc
      unfold headL at hc
      simp only [List.mem_append] at hc
      rcases hc with hc | hc | hc | hc | hc | hc | hc
      · revert c; decide
      · rw [List.mem_singleton.mp hc]; decide
      · exact hnum _ c hc
      · rw [List.mem_singleton.mp hc]; decide
      · exact hnum _ c hc
      · rw [List.mem_singleton.mp hc]; decide
      · exact hnum _ c hc
    · obtain ⟨p, hp, rfl⟩ := List.mem_map.mp hr
      unfold rowL at hc
      rcases List.mem_append.mp hc with hc | hc
      · have := keyOk_in (hb p hp) c hc
        omega
      · rcases List.mem_cons.mp hc with hc | hc
        · omega
        · exact hnum _ c hc
  rw [wrL_tail] at hc
  rcases List.mem_append.mp hc with hc | hc
  · unfold bodyL txL at hc
    obtain ⟨r, hr, hc⟩ := List.mem_flatten.mp hc
    obtain ⟨r', hr', rfl⟩ := List.mem_map.mp hr
    rcases List.mem_append.mp hc with hc | hc
    · exact hrow r' hr' c hc
    · rw [List.mem_singleton.mp hc]
      decide
  · unfold tailL endL at hc
    simp only [List.mem_append] at hc
    rcases hc with (hc | hc) | hc
    · have : ∀ d ∈ ([101, 110, 100, 32] : List Nat), d < 128 := by decide
      exact this c hc
    · have := pad_digits c hc
      omega
    · rw [List.mem_singleton.mp hc]
      decide
/-- the parts of a text of the size of p ++ q, |q| = 9 -/
theorem cut9 {l : List Nat} (h : IsSv l) : ∃ p, l = p ++ tailL p ∧ (∃ t, p = t ++ [10]) := by
  obtain ⟨n, mk, b, v, rfl⟩ := h
  exact ⟨bodyL n mk b, rfl, body_end n mk b⟩
theorem no_sign {p q : List Nat} {a c : Nat} (h : IsSv (p ++ a :: q)) (ha : a < 9973) (hc : c < 9973) (hne : a ≠ c) : ¬ IsSv (p ++ c :: q) := fun z => by
  obtain ⟨x, e, _⟩ := cut9 h
  obtain ⟨y, e', _⟩ := cut9 z
  have hl : x.length = y.length := by
    have h1 := congrArg List.length e
    have h2 := congrArg List.length e'
    simp only [List.length_append, List.length_cons, tailL_len] at h1 h2
    omega
  by_cases hp : p.length < x.length
  · -- in the body
    have ex : ∃ x', x = p ++ a :: x' ∧ q = x' ++ tailL x := by
      have := List.append_eq_append_iff.mp e
      rcases this with ⟨t, h1, h2⟩ | ⟨t, h1, h2⟩
      · cases t with
        | nil =>
          rw [List.append_nil] at h1
          rw [h1] at hp
          omega
        | cons d t =>
          injection h2 with h2 h3
          exact ⟨t, by rw [h1, h2], h3⟩
      · rw [h1, List.length_append] at hp
        omega
    have ey : ∃ y', y = p ++ c :: y' ∧ q = y' ++ tailL y := by
      have := List.append_eq_append_iff.mp e'
      rcases this with ⟨t, h1, h2⟩ | ⟨t, h1, h2⟩
      · cases t with
        | nil =>
          rw [List.append_nil] at h1
          rw [hl, h1] at hp
          omega
        | cons d t =>
          injection h2 with h2 h3
          exact ⟨t, by rw [h1, h2], h3⟩
      · rw [hl, h1, List.length_append] at hp
        omega
    obtain ⟨x', x1, x2⟩ := ex
    obtain ⟨y', y1, y2⟩ := ey
    have hxy := List.append_inj' (x2.symm.trans y2) (by rw [tailL_len, tailL_len])
    have hs := tailL_inj hxy.2
    rw [x1, y1, hxy.1] at hs
    exact hne (sumL_one ha hc hs)
  · -- in the last row
    have hx : x = y := by
      have h1 : x = (p ++ a :: q).take x.length := by rw [e, List.take_left]
      have h2 : y = (p ++ c :: q).take x.length := by rw [e', hl, List.take_left]
      rw [List.take_append_of_le_length (by omega)] at h1 h2
      rw [h1, h2]
    rw [← hx, ← e] at e'
    have := (List.append_inj e' rfl).2
    injection this with this
    exact hne this.symm
theorem no_swap {p q : List Nat} {a c : Nat} (h : IsSv (p ++ a :: c :: q)) (ha : a < 300) (hc : c < 300) (hne : a ≠ c) : ¬ IsSv (p ++ c :: a :: q) := fun z => by
  obtain ⟨x, e, t1, et1⟩ := cut9 h
  obtain ⟨y, e', t2, et2⟩ := cut9 z
  have hl : x.length = y.length := by
    have h1 := congrArg List.length e
    have h2 := congrArg List.length e'
    simp only [List.length_append, List.length_cons, tailL_len] at h1 h2
    omega
  by_cases hp : p.length + 1 < x.length
  · have ex : ∃ x', x = p ++ a :: c :: x' ∧ q = x' ++ tailL x := by
      have := List.append_eq_append_iff.mp e
      rcases this with ⟨t, h1, h2⟩ | ⟨t, h1, h2⟩
      · match t, h2 with
        | [], h2 =>
          rw [List.append_nil] at h1
          rw [h1] at hp
          omega
        | [d], h2 =>
          rw [h1, List.length_append, List.length_singleton] at hp
          omega
        | d :: d' :: t, h2 =>
          injection h2 with h2 h3
          injection h3 with h3 h4
          exact ⟨t, by rw [h1, h2, h3], h4⟩
      · rw [h1, List.length_append] at hp
        omega
    have ey : ∃ y', y = p ++ c :: a :: y' ∧ q = y' ++ tailL y := by
      have := List.append_eq_append_iff.mp e'
      rcases this with ⟨t, h1, h2⟩ | ⟨t, h1, h2⟩
      · match t, h2 with
        | [], h2 =>
          rw [List.append_nil] at h1
          rw [hl, h1] at hp
          omega
        | [d], h2 =>
          rw [hl, h1, List.length_append, List.length_singleton] at hp
          omega
        | d :: d' :: t, h2 =>
          injection h2 with h2 h3
          injection h3 with h3 h4
          exact ⟨t, by rw [h1, h2, h3], h4⟩
      · rw [hl, h1, List.length_append] at hp
        omega
    obtain ⟨x', x1, x2⟩ := ex
    obtain ⟨y', y1, y2⟩ := ey
    have hxy := List.append_inj' (x2.symm.trans y2) (by rw [tailL_len, tailL_len])
    have hs := tailL_inj hxy.2
    rw [x1, y1, hxy.1] at hs
    exact hne (sumL_two ha hc hs)
  · by_cases hp1 : p.length + 1 = x.length
    · -- across
      have g1 : x = p ++ [a] := by
        have : x = (p ++ a :: c :: q).take x.length := by rw [e, List.take_left]
        rw [this, ← hp1, show p ++ a :: c :: q = (p ++ [a]) ++ (c :: q) by simp, List.take_left' (by simp)]
      have g2 : y = p ++ [c] := by
        have : y = (p ++ c :: a :: q).take x.length := by rw [e', hl, List.take_left]
        rw [this, ← hp1, show p ++ c :: a :: q = (p ++ [c]) ++ (a :: q) by simp, List.take_left' (by simp)]
      rw [g1] at et1
      rw [g2] at et2
      have a1 := (List.append_inj' et1 rfl).2
      have a2 := (List.append_inj' et2 rfl).2
      rw [← a2] at a1
      injection a1 with a1
      exact hne a1
    · have hx : x = y := by
        have h1 : x = (p ++ a :: c :: q).take x.length := by rw [e, List.take_left]
        have h2 : y = (p ++ c :: a :: q).take x.length := by rw [e', hl, List.take_left]
        rw [List.take_append_of_le_length (by omega)] at h1 h2
        rw [h1, h2]
      rw [← hx, ← e] at e'
      have := (List.append_inj e' rfl).2
      injection this with this
      exact hne this.symm
end
theorem read_not {l : List Nat} (hl : l.length ≤ 1000) (h : ¬ IsSv l) : F_read [.dat (.str (S l))] = some .ex := read_no hl fun n mk b v e => h ⟨n, mk, b, v, e⟩
/-- a tighter size -/
theorem wrL_len2 {n mk : Nat} {b : Mp Int} (h1 : n < 1000000) (h2 : mk < 1000000) (hb : Sm b) : (wrL n mk b).length ≤ (b.length + 1) * 26 + 9 := by
  have h := txL_len (rowsL_each h1 h2 hb)
  rw [wrL_size]
  unfold bodyL
  rw [rowsL_len] at h
  omega
end Pu

set_option Elab.async false
set_option linter.all false
set_option autoImplicit false
set_option maxRecDepth 100000
set_option maxHeartbeats 1000000
namespace Pu
open PySem PySem.Spec PyProof.Rows L2
def B_law_plain : MirS :=
  (sSeq (sSet 3 (mAnd (m2 oNe (mVar 0) (mC (.str ""))) (mAnd (m2 oLt (mA oLen (aCons (mVar 0) aNil)) (mC (.int 6))) (m2 oEq (mL (lLc [4] (iD (mVar 0)) (gN 4) (m2 oNotIn (mVar 4) (mC (.str "0123456789"))) (mVar 4))) (mLst aNil)))))
    (sRet (mAnd (mVar 3) (mAnd (mCh oLe oLe (mVar 1) (mA oInt (aCons (mVar 0) aNil)) (mVar 2)) (m2 oEq (mA oStr (aCons (mA oInt (aCons (mVar 0) aNil)) aNil)) (mVar 0))))))
def F_law_plain : MirF := runB 5 B_law_plain

def B_law_read : MirS :=
  (sSeq (sSet 1 (m2 oSplit (mVar 0) (mC (.str "\n"))))
    (sSeq (sIf (mOr (m2 oLt (mA oLen (aCons (mVar 1) aNil)) (mC (.int 3))) (m2 oNe (m2 oIx (mVar 1) (m1 oNeg (mC (.int 1)))) (mC (.str ""))))
      (sRet (mC .none))
      sNil)
    (sSeq (sSet 2 (m2 oSplit (m2 oIx (mVar 1) (mC (.int 0))) (mC (.str " "))))
    (sSeq (sIf (mOr (m2 oNe (mA oLen (aCons (mVar 2) aNil)) (mC (.int 4))) (mOr (m1 oNot (mCall (F_law_plain) (xDat (m2 oIx (mVar 2) (mC (.int 1))) (xDat (mC (.int 1)) (xDat (mC (.int 9999)) xNil))))) (m1 oNot (mCall (F_law_plain) (xDat (m2 oIx (mVar 2) (mC (.int 2))) (xDat (mC (.int 1)) (xDat (mC (.int 9)) xNil)))))))
      (sRet (mC .none))
      sNil)
    (sSeq (sSet 3 (mTup aNil))
    (sSeq (sFor (iD (mSl (mVar 1) (oSome (mC (.int 1))) (oSome (m2 oSub (mA oLen (aCons (mVar 1) aNil)) (mC (.int 2)))))) (gN 4)
      (sSeq (sSet 5 (m2 oSplit (mVar 4) (mC (.str " "))))
    (sSeq (sIf (mOr (m2 oNe (mA oLen (aCons (mVar 5) aNil)) (mC (.int 2))) (mOr (m1 oNot (mCall (F_law_plain) (xDat (m2 oIx (mVar 5) (mC (.int 1))) (xDat (mC (.int 0)) (xDat (mC (.int 999)) xNil))))) (m1 oNot (mCh oLe oLe (mC (.int 1)) (mA oLen (aCons (m2 oIx (mVar 5) (mC (.int 0))) aNil)) (mC (.int 5))))))
      (sRet (mC .none))
      sNil)
    (sSeq (sIf (mOr (m2 oNe (mL (lLc [7] (iD (m2 oIx (mVar 5) (mC (.int 0)))) (gN 7) (m1 oNot (mCh oLe oLe (mC (.str "a")) (mVar 7) (mC (.str "z")))) (mVar 7))) (mLst aNil)) (mAnd (m2 oNe (mVar 3) (mTup aNil)) (m2 oLe (m2 oIx (mVar 5) (mC (.int 0))) (m2 oIx (m2 oIx (mVar 3) (m1 oNeg (mC (.int 1)))) (mC (.int 0))))))
      (sRet (mC .none))
      sNil)
    (sSet 3 (m2 oAdd (mVar 3) (mTup (aCons (mTup (aCons (m2 oIx (mVar 5) (mC (.int 0))) (aCons (mA oInt (aCons (m2 oIx (mVar 5) (mC (.int 1))) aNil)) aNil))) aNil))))))))
    (sSeq (sSet 6 (mTup (aCons (mA oInt (aCons (m2 oIx (mVar 2) (mC (.int 1))) aNil)) (aCons (mA oInt (aCons (m2 oIx (mVar 2) (mC (.int 2))) aNil)) (aCons (mVar 3) aNil)))))
    (sRet (m2 oIx (mLst (aCons (mC .none) (aCons (mVar 6) aNil))) (mA oInt (aCons (m2 oEq (mCall (F_law_text) (xDat (mVar 6) xNil)) (mVar 0)) aNil)))))))))))
def F_law_read : MirF := runB 8 B_law_read

end Pu

set_option Elab.async false
set_option linter.all false
set_option autoImplicit false
set_option maxRecDepth 100000
/-! the law's own reader -/
namespace Pu
open PySem PySem.Spec PyProof.Rows L2
open SX (S)
open TL (numL)
open NumText (digitsVal AllDigits)
def plainW (w : List Nat) (lo hi : Int) : Bool := (decide (w ≠ []) && decide (w.length < 6) && figB w) && (decide (lo ≤ (digitsVal w : Int) ∧ (digitsVal w : Int) ≤ hi) && decide (numL (digitsVal w) = w))
theorem filter_nil {α : Type} {l : List α} {c : α → Bool} : (l.filter fun x => !c x) = [] ↔ l.all c = true := by
  rw [List.filter_eq_nil_iff, List.all_eq_true]
  exact ⟨fun h x hx => by have := h x hx; simpa using this, fun h x hx => by rw [h x hx]; simp⟩
theorem eq_nil_signs {ρ : Rho} {vs : List Nat} {fi : MirI} {m : MirG} {tt te : Mir} {w : List Nat} {c : Nat → Bool} (hi : fi ρ = some (w.map fun x => PyData.str (sgn x))) (hl : w.length ≤ 1000000) (h : ∀ x ∈ w, ∃ ρ1, m (.str (sgn x)) (wipeR ρ vs) = some ρ1 ∧ tt ρ1 = some (.bool (!c x)) ∧ te ρ1 = some (.str (sgn x))) :
    mL (lLc vs fi m tt te) ρ = some (.list ((w.filter fun x => !c x).map fun x => PyData.str (sgn x))) := by
  rw [v_mL, v_lLc, hi, Option.bind_some, if_pos (by rw [List.length_map, sizeLine_is]; omega)]
  rw [lc_filterT (fun x => PyData.str (sgn x)) (fun x => PyData.str (sgn x)) (fun x => !c x) w fun x hx => by
    obtain ⟨ρ1, h1, h2, h3⟩ := h x hx
    exact ⟨ρ1, h1, h2, fun _ => h3⟩]
  rfl
theorem pl_signs (w : List Nat) : ∀ x ∈ w.map (fun x => PyData.str (sgn x)), Pl 50 x := fun x hx => by
  obtain ⟨c, _, rfl⟩ := List.mem_map.mp hx
  exact pl_str _ _
theorem oNe_of_eq {x y : D} {b : Bool} (h : oEq x y = some (.bool b)) : oNe x y = some (.bool (!b)) := by
  unfold oNe
  unfold oEq at h
  split at h
  · rename_i c
    rw [if_pos c]
    injection h with h
    injection h with h
    rw [h]
  · cases h
theorem plain_is {w : List Nat} {lo hi : Int} (hw : w.length ≤ 1000000) : F_law_plain [.dat (.str (S w)), .dat (.int lo), .dat (.int hi)] = some (.bool (plainW w lo hi)) := by
  have e1 : m2 oNe (mVar 0) (mC (.str "")) [.dat (.str (S w)), .dat (.int lo), .dat (.int hi), .no, .no] = some (.bool (decide (w ≠ []))) := by
    rw [v_m2, v_var0, v_C, Option.bind_some, Option.bind_some, em_S, oNe_s, beqS]
    congr 2
    by_cases h : w = []
    · rw [h]; simp
    · have : S w ≠ S [] := fun z => h (SX.S_inj z)
      simp [h, this]
  have hlen : oLen [.str (S w)] = some (.int w.length) := by rw [oLen_s (by rw [SX.S_len]; omega), SX.S_len]
  have e2 : m2 oLt (mA oLen (aCons (mVar 0) aNil)) (mC (.int 6)) [.dat (.str (S w)), .dat (.int lo), .dat (.int hi), .no, .no] = some (.bool (decide (w.length < 6))) := by
    rw [v_m2, v_mA, v_aCons]
    simp only [v_var0, Option.bind_some, v_aNil, hlen, v_C, oLt_i]
    congr 2
    exact decide_eq_decide.mpr (by omega)
  have e3 : m2 oEq (mL (lLc [4] (iD (mVar 0)) (gN 4) (m2 oNotIn (mVar 4) (mC (.str "0123456789"))) (mVar 4))) (mLst aNil) [.dat (.str (S w)), .dat (.int lo), .dat (.int hi), .no, .no] = some (.bool (figB w)) := by
    rw [v_m2, eq_nil_signs (w := w) (c := fun c => decide (48 ≤ c ∧ c ≤ 57)) rfl hw fun c hc => ⟨_, rfl, by
      rw [v_m2]
      simp only [v_gN, v_varS, v_var0, Option.bind_some, v_C, List.set_cons_succ, List.set_cons_zero, v_wipeS, v_wipe0]
      rw [oNotIn_sgn, fig_in], rfl⟩]
    show oEq (.list _) (.list []) = _
    rw [eq_nil_list (pl_signs _)]
    congr 2
    unfold figB
    by_cases h : (w.all fun c => decide (48 ≤ c ∧ c ≤ 57)) = true
    · rw [h, decide_eq_true_iff, filter_nil.mpr h]
      rfl
    · rw [Bool.not_eq_true] at h
      rw [h, decide_eq_false_iff_not]
      intro z
      rw [List.map_eq_nil_iff] at z
      rw [filter_nil.mp z] at h
      cases h
  have g : mAnd (m2 oNe (mVar 0) (mC (.str ""))) (mAnd (m2 oLt (mA oLen (aCons (mVar 0) aNil)) (mC (.int 6))) (m2 oEq (mL (lLc [4] (iD (mVar 0)) (gN 4) (m2 oNotIn (mVar 4) (mC (.str "0123456789"))) (mVar 4))) (mLst aNil))) [.dat (.str (S w)), .dat (.int lo), .dat (.int hi), .no, .no] = some (.bool (decide (w ≠ []) && decide (w.length < 6) && figB w)) := by
    rw [v_and e1, v_and e2, e3]
    cases decide (w ≠ []) <;> cases decide (w.length < 6) <;> rfl
  refine run_rt ?_
  show B_law_plain [.dat (.str (S w)), .dat (.int lo), .dat (.int hi), .no, .no] = _
  unfold B_law_plain
  rw [v_seqN (ρ' := [.dat (.str (S w)), .dat (.int lo), .dat (.int hi), .dat (.bool (decide (w ≠ []) && decide (w.length < 6) && figB w)), .no]) (by rw [v_sSet, g]; rfl)]
  rw [v_sRet]
  have e4 : mVar 3 [.dat (.str (S w)), .dat (.int lo), .dat (.int hi), .dat (.bool (decide (w ≠ []) && decide (w.length < 6) && figB w)), .no] = some (.bool (decide (w ≠ []) && decide (w.length < 6) && figB w)) := rfl
  rw [v_and e4]
  unfold plainW
  cases hg : (decide (w ≠ []) && decide (w.length < 6) && figB w) with
  | false => rfl
  | true =>
    rw [Bool.and_eq_true, Bool.and_eq_true, decide_eq_true_iff, decide_eq_true_iff] at hg
    obtain ⟨⟨h1, h2⟩, h3⟩ := hg
    have hi2 := oInt_S h3 h1 (by omega)
    have hv : digitsVal w < 1000000 := by
      have h4 := digitsVal_lt (figB_all h3)
      have h5 : (10 : Nat) ^ w.length ≤ 10 ^ 5 := Nat.pow_le_pow_right (by decide) (by omega)
      omega
    have hst := oStr_n (n := digitsVal w) (by omega)
    have e5 : mCh oLe oLe (mVar 1) (mA oInt (aCons (mVar 0) aNil)) (mVar 2) [.dat (.str (S w)), .dat (.int lo), .dat (.int hi), .dat (.bool true), .no] = some (.bool (decide (lo ≤ (digitsVal w : Int) ∧ (digitsVal w : Int) ≤ hi))) := v_chain rfl (by rw [v_mA, v_aCons]; simp only [v_var0, Option.bind_some, v_aNil, hi2]) rfl
    rw [if_pos rfl, v_and e5, v_m2, v_mA, v_aCons, v_mA, v_aCons]
    simp only [v_var0, Option.bind_some, v_aNil, hi2, hst, oEq_s, beqS]
    have e6 : decide (S (numL (digitsVal w)) = S w) = decide (numL (digitsVal w) = w) := decide_eq_decide.mpr ⟨SX.S_inj, fun z => by rw [z]⟩
    rw [e6]
    cases decide (lo ≤ (digitsVal w : Int) ∧ (digitsVal w : Int) ≤ hi) <;> rfl
/-! ### the loop -/
def rowOk (b : Mp Int) (k w : List Nat) : Bool := plainW w 0 999 && decide (1 ≤ k.length ∧ k.length ≤ 5) && (k.all fun c => decide (97 ≤ c ∧ c ≤ 122)) && (match b.getLast? with | some p => ltS p.1 (S k) | none => true)
def stepW (b : Mp Int) (r : List Nat) : Option (Mp Int) := match TL.spl [32] 0 [] r with
  | [k, w] => if rowOk b k w = true then some (b ++ [(S k, (digitsVal w : Int))]) else none
  | _ => none
def loopW : Mp Int → List (List Nat) → Option (Mp Int)
  | b, [] => some b
  | b, r :: rs => (stepW b r).bind fun b' => loopW b' rs
theorem letter_le (c : Nat) : leS "a" (sgn c) = decide (97 ≤ c) ∧ leS (sgn c) "z" = decide (c ≤ 122) := by
  have e1 : (Str.ofString "a").cps.toList = [97] := by decide +kernel
  have e2 : (Str.ofString "z").cps.toList = [122] := by decide +kernel
  have key : ∀ a b : Nat, decide (([a] : List Nat) < [b]) = decide (a < b) := fun a b => by
    refine decide_eq_decide.mpr ⟨fun h => ?_, fun h => List.Lex.rel h⟩
    have h : List.Lex (· < ·) [a] [b] := h
    cases h with
    | rel h => exact h
    | cons h => cases h
  unfold leS
  rw [e1, e2]
  show (!decide (([c] : List Nat) < [97])) = _ ∧ (!decide (([122] : List Nat) < [c])) = _
  rw [key, key]
  constructor
  · by_cases h : c < 97
    · rw [decide_eq_true h, decide_eq_false (by omega)]; rfl
    · rw [decide_eq_false h, decide_eq_true (by omega)]; rfl
  · by_cases h : 122 < c
    · rw [decide_eq_true h, decide_eq_false (by omega)]; rfl
    · rw [decide_eq_false h, decide_eq_true (by omega)]; rfl
theorem v_chainS {f g h : Mir} {ρ : Rho} {i j k : Str} (h1 : f ρ = some (.str i)) (h2 : g ρ = some (.str j)) (h3 : h ρ = some (.str k)) : mCh oLe oLe f g h ρ = some (.bool (leS i j && leS j k)) := by
  unfold mCh
  rw [h1, h2, Option.bind_some, Option.bind_some, oLe_s]
  cases leS i j
  · rfl
  · show (h ρ).bind _ = _
    rw [h3]
    exact oLe_s j k
def G_read : MirS := (sSeq (sSet 5 (m2 oSplit (mVar 4) (mC (.str " "))))
    (sSeq (sIf (mOr (m2 oNe (mA oLen (aCons (mVar 5) aNil)) (mC (.int 2))) (mOr (m1 oNot (mCall (F_law_plain) (xDat (m2 oIx (mVar 5) (mC (.int 1))) (xDat (mC (.int 0)) (xDat (mC (.int 999)) xNil))))) (m1 oNot (mCh oLe oLe (mC (.int 1)) (mA oLen (aCons (m2 oIx (mVar 5) (mC (.int 0))) aNil)) (mC (.int 5))))))
      (sRet (mC .none))
      sNil)
    (sSeq (sIf (mOr (m2 oNe (mL (lLc [7] (iD (m2 oIx (mVar 5) (mC (.int 0)))) (gN 7) (m1 oNot (mCh oLe oLe (mC (.str "a")) (mVar 7) (mC (.str "z")))) (mVar 7))) (mLst aNil)) (mAnd (m2 oNe (mVar 3) (mTup aNil)) (m2 oLe (m2 oIx (mVar 5) (mC (.int 0))) (m2 oIx (m2 oIx (mVar 3) (m1 oNeg (mC (.int 1)))) (mC (.int 0))))))
      (sRet (mC .none))
      sNil)
    (sSet 3 (m2 oAdd (mVar 3) (mTup (aCons (mTup (aCons (m2 oIx (mVar 5) (mC (.int 0))) (aCons (mA oInt (aCons (m2 oIx (mVar 5) (mC (.int 1))) aNil)) aNil))) aNil)))))))
theorem last_it (b : Mp Int) (p : Str × Int) : atI (itM .int (b ++ [p])) (-1) = some (prD .int p) := by
  unfold itM
  rw [List.map_append]
  exact L2.atI_last _ _
theorem ne_nil_bk {b : Mp Int} : oNe (bkD b) (.tuple []) = some (.bool (decide (b ≠ []))) := by
  cases b with
  | nil => rfl
  | cons p b =>
    have hd : (bkD (p :: b)).depth ≤ 60 := Nat.le_trans (pl_bk (p :: b)).depth (by decide)
    unfold oNe
    rw [if_pos hd]
    rfl
theorem read_step {l r : List Nat} {b : Mp Int} {x1 x2 x5 x6 x7 : Sl} (hr : r.length ≤ 100000) (hb : b.length ≤ 100000) :
    (∃ b' y5, stepW b r = some b' ∧ G_read [.dat (.str (S l)), x1, x2, .dat (bkD b), .dat (.str (S r)), x5, x6, x7] = some (.nx [.dat (.str (S l)), x1, x2, .dat (bkD b'), .dat (.str (S r)), y5, x6, x7])) ∨
    (stepW b r = none ∧ G_read [.dat (.str (S l)), x1, x2, .dat (bkD b), .dat (.str (S r)), x5, x6, x7] = some (.rt .none)) := by
  have hsp := splitB (l := r) (by omega)
  have hsz := spl_size 32 r []
  have hea := spl_each 32 r []
  have hlen := oLen_rw (rs := TL.spl [32] 0 [] r) (by omega)
  rw [List.length_nil, Nat.zero_add] at hea
  have s1 : sSet 5 (m2 oSplit (mVar 4) (mC (.str " "))) [.dat (.str (S l)), x1, x2, .dat (bkD b), .dat (.str (S r)), x5, x6, x7] = some (.nx [.dat (.str (S l)), x1, x2, .dat (bkD b), .dat (.str (S r)), .dat (.list (rwD (TL.spl [32] 0 [] r))), x6, x7]) := by simp [hsp]
  unfold stepW
  generalize TL.spl [32] 0 [] r = ws at *
  by_cases hc : ws.length = 2
  rotate_left
  · right
    refine ⟨?_, ?_⟩
    · split
      · exact absurd rfl hc
      · rfl
    · rw [G_read, v_seqN s1]
      refine v_seqR ?_
      have e0 : m2 oNe (mA oLen (aCons (mVar 5) aNil)) (mC (.int 2)) [.dat (.str (S l)), x1, x2, .dat (bkD b), .dat (.str (S r)), .dat (.list (rwD ws)), x6, x7] = some (.bool true) := by
        rw [v_m2, v_mA, v_aCons]
        simp only [v_varS, v_var0, Option.bind_some, v_aNil, hlen, v_C, oNe_i]
        rw [beq_eq_false_iff_ne.mpr (fun z => hc (by omega))]
        rfl
      rw [v_sIf (by rw [v_or e0]; rfl)]
      rfl
  obtain ⟨k, w, rfl⟩ : ∃ a b, ws = [a, b] := by
    match ws, hc with
    | [a, b], _ => exact ⟨a, b, rfl⟩
  have hk := hea k (by simp)
  have hw := hea w (by simp)
  have hpl := plain_is (w := w) (lo := 0) (hi := 999) (by omega)
  have hkl : oLen [.str (S k)] = some (.int k.length) := by rw [oLen_s (by rw [SX.S_len]; omega), SX.S_len]
  have e0 : m2 oNe (mA oLen (aCons (mVar 5) aNil)) (mC (.int 2)) [.dat (.str (S l)), x1, x2, .dat (bkD b), .dat (.str (S r)), .dat (.list (rwD [k, w])), x6, x7] = some (.bool false) := rfl
  have e1 : m1 oNot (mCall (F_law_plain) (xDat (m2 oIx (mVar 5) (mC (.int 1))) (xDat (mC (.int 0)) (xDat (mC (.int 999)) xNil)))) [.dat (.str (S l)), x1, x2, .dat (bkD b), .dat (.str (S r)), .dat (.list (rwD [k, w])), x6, x7] = some (.bool (!plainW w 0 999)) := by
    have z : mCall (F_law_plain) (xDat (m2 oIx (mVar 5) (mC (.int 1))) (xDat (mC (.int 0)) (xDat (mC (.int 999)) xNil))) [.dat (.str (S l)), x1, x2, .dat (bkD b), .dat (.str (S r)), .dat (.list (rwD [k, w])), x6, x7] = _ := hpl
    rw [v_m1, z]
    rfl
  have e2 : m1 oNot (mCh oLe oLe (mC (.int 1)) (mA oLen (aCons (m2 oIx (mVar 5) (mC (.int 0))) aNil)) (mC (.int 5))) [.dat (.str (S l)), x1, x2, .dat (bkD b), .dat (.str (S r)), .dat (.list (rwD [k, w])), x6, x7] = some (.bool (!decide (1 ≤ k.length ∧ k.length ≤ 5))) := by
    have z : mA oLen (aCons (m2 oIx (mVar 5) (mC (.int 0))) aNil) [.dat (.str (S l)), x1, x2, .dat (bkD b), .dat (.str (S r)), .dat (.list (rwD [k, w])), x6, x7] = _ := hkl
    rw [v_m1, v_chain (i := 1) (k := 5) rfl z rfl]
    show some (PyData.bool (!_)) = _
    congr 3
    exact decide_eq_decide.mpr (by omega)
  have c1 : mOr (m2 oNe (mA oLen (aCons (mVar 5) aNil)) (mC (.int 2))) (mOr (m1 oNot (mCall (F_law_plain) (xDat (m2 oIx (mVar 5) (mC (.int 1))) (xDat (mC (.int 0)) (xDat (mC (.int 999)) xNil))))) (m1 oNot (mCh oLe oLe (mC (.int 1)) (mA oLen (aCons (m2 oIx (mVar 5) (mC (.int 0))) aNil)) (mC (.int 5))))) [.dat (.str (S l)), x1, x2, .dat (bkD b), .dat (.str (S r)), .dat (.list (rwD [k, w])), x6, x7] = some (.bool (!(plainW w 0 999 && decide (1 ≤ k.length ∧ k.length ≤ 5)))) := by
    rw [v_or e0, if_neg (by decide), v_or e1, e2]
    cases plainW w 0 999 <;> rfl
  have d1 : mL (lLc [7] (iD (m2 oIx (mVar 5) (mC (.int 0)))) (gN 7) (m1 oNot (mCh oLe oLe (mC (.str "a")) (mVar 7) (mC (.str "z")))) (mVar 7)) [.dat (.str (S l)), x1, x2, .dat (bkD b), .dat (.str (S r)), .dat (.list (rwD [k, w])), x6, x7] = some (.list ((k.filter fun x => !decide (97 ≤ x ∧ x ≤ 122)).map fun x => PyData.str (sgn x))) := by
    refine eq_nil_signs (w := k) (c := fun c => decide (97 ≤ c ∧ c ≤ 122)) rfl (by omega) fun c hc => ⟨_, rfl, ?_, rfl⟩
    rw [v_m1, v_chainS (i := "a") (j := sgn c) (k := "z") rfl rfl rfl, (letter_le c).1, (letter_le c).2]
    show some (PyData.bool (!_)) = _
    congr 3
    by_cases h1 : 97 ≤ c <;> by_cases h2 : c ≤ 122 <;> simp [h1, h2]
  have c2 : m2 oNe (mL (lLc [7] (iD (m2 oIx (mVar 5) (mC (.int 0)))) (gN 7) (m1 oNot (mCh oLe oLe (mC (.str "a")) (mVar 7) (mC (.str "z")))) (mVar 7))) (mLst aNil) [.dat (.str (S l)), x1, x2, .dat (bkD b), .dat (.str (S r)), .dat (.list (rwD [k, w])), x6, x7] = some (.bool (!(k.all fun c => decide (97 ≤ c ∧ c ≤ 122)))) := by
    rw [v_m2, d1]
    show oNe (.list _) (.list []) = _
    rw [oNe_of_eq (eq_nil_list (pl_signs _))]
    congr 3
    by_cases h : (k.all fun c => decide (97 ≤ c ∧ c ≤ 122)) = true
    · rw [h, decide_eq_true_iff, filter_nil.mpr h]
      rfl
    · rw [Bool.not_eq_true] at h
      rw [h, decide_eq_false_iff_not]
      intro z
      rw [List.map_eq_nil_iff] at z
      rw [filter_nil.mp z] at h
      cases h
  have c3 : mAnd (m2 oNe (mVar 3) (mTup aNil)) (m2 oLe (m2 oIx (mVar 5) (mC (.int 0))) (m2 oIx (m2 oIx (mVar 3) (m1 oNeg (mC (.int 1)))) (mC (.int 0)))) [.dat (.str (S l)), x1, x2, .dat (bkD b), .dat (.str (S r)), .dat (.list (rwD [k, w])), x6, x7] = some (.bool (!(match b.getLast? with | some p => ltS p.1 (S k) | none => true))) := by
    have z : m2 oNe (mVar 3) (mTup aNil) [.dat (.str (S l)), x1, x2, .dat (bkD b), .dat (.str (S r)), .dat (.list (rwD [k, w])), x6, x7] = some (.bool (decide (b ≠ []))) := ne_nil_bk
    rw [v_and z]
    rcases List.eq_nil_or_concat b with rfl | ⟨b0, p, rfl⟩
    · rfl
    · rw [if_pos (by simp)]
      simp only [List.concat_eq_append]
      rw [List.getLast?_concat]
      simp only
      have y : m2 oIx (m2 oIx (mVar 3) (m1 oNeg (mC (.int 1)))) (mC (.int 0)) [.dat (.str (S l)), x1, x2, .dat (bkD (b0 ++ [p])), .dat (.str (S r)), .dat (.list (rwD [k, w])), x6, x7] = some (.str p.1) := by
        have y1 : m2 oIx (mVar 3) (m1 oNeg (mC (.int 1))) [.dat (.str (S l)), x1, x2, .dat (bkD (b0 ++ [p])), .dat (.str (S r)), .dat (.list (rwD [k, w])), x6, x7] = some (prD .int p) := by
          exact last_it b0 p
        rw [v_m2, y1]
        rfl
      have y0 : m2 oIx (mVar 5) (mC (.int 0)) [.dat (.str (S l)), x1, x2, .dat (bkD (b0 ++ [p])), .dat (.str (S r)), .dat (.list (rwD [k, w])), x6, x7] = some (.str (S k)) := rfl
      rw [v_m2, y0, Option.bind_some, y, Option.bind_some, oLe_s]
      rfl
  simp only
  unfold rowOk
  cases q1 : (plainW w 0 999 && decide (1 ≤ k.length ∧ k.length ≤ 5)) with
  | false =>
    right
    refine ⟨rfl, ?_⟩
    rw [q1] at c1
    rw [G_read, v_seqN s1]
    refine v_seqR ?_
    rw [v_sIf c1]
    rfl
  | true =>
    rw [q1] at c1
    have s2 : sIf (mOr (m2 oNe (mA oLen (aCons (mVar 5) aNil)) (mC (.int 2))) (mOr (m1 oNot (mCall (F_law_plain) (xDat (m2 oIx (mVar 5) (mC (.int 1))) (xDat (mC (.int 0)) (xDat (mC (.int 999)) xNil))))) (m1 oNot (mCh oLe oLe (mC (.int 1)) (mA oLen (aCons (m2 oIx (mVar 5) (mC (.int 0))) aNil)) (mC (.int 5)))))) (sRet (mC .none)) sNil [.dat (.str (S l)), x1, x2, .dat (bkD b), .dat (.str (S r)), .dat (.list (rwD [k, w])), x6, x7] = some (.nx [.dat (.str (S l)), x1, x2, .dat (bkD b), .dat (.str (S r)), .dat (.list (rwD [k, w])), x6, x7]) := by
      rw [v_sIf c1]
      rfl
    have c4 : mOr (m2 oNe (mL (lLc [7] (iD (m2 oIx (mVar 5) (mC (.int 0)))) (gN 7) (m1 oNot (mCh oLe oLe (mC (.str "a")) (mVar 7) (mC (.str "z")))) (mVar 7))) (mLst aNil)) (mAnd (m2 oNe (mVar 3) (mTup aNil)) (m2 oLe (m2 oIx (mVar 5) (mC (.int 0))) (m2 oIx (m2 oIx (mVar 3) (m1 oNeg (mC (.int 1)))) (mC (.int 0))))) [.dat (.str (S l)), x1, x2, .dat (bkD b), .dat (.str (S r)), .dat (.list (rwD [k, w])), x6, x7] = some (.bool (!((k.all fun c => decide (97 ≤ c ∧ c ≤ 122)) && (match b.getLast? with | some p => ltS p.1 (S k) | none => true)))) := by
      rw [v_or c2, c3]
      cases (k.all fun c => decide (97 ≤ c ∧ c ≤ 122)) <;> rfl
    rw [Bool.true_and]
    cases q2 : ((k.all fun c => decide (97 ≤ c ∧ c ≤ 122)) && (match b.getLast? with | some p => ltS p.1 (S k) | none => true)) with
    | false =>
      right
      refine ⟨rfl, ?_⟩
      rw [q2] at c4
      rw [G_read, v_seqN s1, v_seqN s2]
      refine v_seqR ?_
      rw [v_sIf c4]
      rfl
    | true =>
      left
      rw [q2] at c4
      rw [Bool.and_eq_true] at q1
      have h3 := q1.1
      unfold plainW at h3
      rw [Bool.and_eq_true, Bool.and_eq_true, Bool.and_eq_true, decide_eq_true_iff, decide_eq_true_iff] at h3
      have hi := oInt_S h3.1.2 h3.1.1.1 (by omega)
      refine ⟨b ++ [(S k, (NumText.digitsVal w : Int))], .dat (.list (rwD [k, w])), rfl, ?_⟩
      rw [G_read, v_seqN s1, v_seqN s2, v_seqN (ρ' := [.dat (.str (S l)), x1, x2, .dat (bkD b), .dat (.str (S r)), .dat (.list (rwD [k, w])), x6, x7]) (by rw [v_sIf c4]; rfl)]
      have z1 : mTup (aCons (m2 oIx (mVar 5) (mC (.int 0))) (aCons (mA oInt (aCons (m2 oIx (mVar 5) (mC (.int 1))) aNil)) aNil)) [.dat (.str (S l)), x1, x2, .dat (bkD b), .dat (.str (S r)), .dat (.list (rwD [k, w])), x6, x7] = some (prD .int (S k, (NumText.digitsVal w : Int))) := by
        have z2 : mA oInt (aCons (m2 oIx (mVar 5) (mC (.int 1))) aNil) [.dat (.str (S l)), x1, x2, .dat (bkD b), .dat (.str (S r)), .dat (.list (rwD [k, w])), x6, x7] = _ := hi
        have z0 : m2 oIx (mVar 5) (mC (.int 0)) [.dat (.str (S l)), x1, x2, .dat (bkD b), .dat (.str (S r)), .dat (.list (rwD [k, w])), x6, x7] = some (.str (S k)) := rfl
        rw [v_tup, v_aCons, z0, Option.bind_some, v_aCons, z2]
        rfl
      have z3 : oAdd (bkD b) (.tuple [prD .int (S k, (NumText.digitsVal w : Int))]) = some (bkD (b ++ [(S k, (NumText.digitsVal w : Int))])) := by
        unfold bkD
        rw [oAdd_t (by rw [itM_len]; simp only [List.length_singleton]; omega)]
        unfold itM
        rw [List.map_append]
        rfl
      rw [v_sSet, v_m2]
      have z4 : mTup (aCons (mTup (aCons (m2 oIx (mVar 5) (mC (.int 0))) (aCons (mA oInt (aCons (m2 oIx (mVar 5) (mC (.int 1))) aNil)) aNil))) aNil) [.dat (.str (S l)), x1, x2, .dat (bkD b), .dat (.str (S r)), .dat (.list (rwD [k, w])), x6, x7] = some (.tuple [prD .int (S k, (NumText.digitsVal w : Int))]) := by
        rw [v_tup, v_aCons, z1]
        rfl
      rw [z4]
      simp only [v_varS, v_var0, Option.bind_some, z3]
      rfl
theorem read_loop {l : List Nat} {x1 x2 x6 x7 : Sl} : ∀ (rs : List (List Nat)) (b : Mp Int) (x4 x5 : Sl), (∀ r ∈ rs, r.length ≤ 100000) → b.length + rs.length ≤ 100000 →
    (∃ b' y4 y5, loopW b rs = some b' ∧ sLoop (gN 4) G_read (rwD rs) [.dat (.str (S l)), x1, x2, .dat (bkD b), x4, x5, x6, x7] = some (.nx [.dat (.str (S l)), x1, x2, .dat (bkD b'), y4, y5, x6, x7])) ∨
    (loopW b rs = none ∧ sLoop (gN 4) G_read (rwD rs) [.dat (.str (S l)), x1, x2, .dat (bkD b), x4, x5, x6, x7] = some (.rt .none))
  | [], b, x4, x5, _, _ => .inl ⟨b, x4, x5, rfl, rfl⟩
  | r :: rs, b, x4, x5, h, hl => by
    rw [List.length_cons] at hl
    have g : gN 4 (.str (S r)) [.dat (.str (S l)), x1, x2, .dat (bkD b), x4, x5, x6, x7] = some [.dat (.str (S l)), x1, x2, .dat (bkD b), .dat (.str (S r)), x5, x6, x7] := rfl
    unfold loopW
    rcases read_step (l := l) (r := r) (b := b) (x1 := x1) (x2 := x2) (x5 := x5) (x6 := x6) (x7 := x7) (h r List.mem_cons_self) (by omega) with ⟨b', y5, e1, e2⟩ | ⟨e1, e2⟩
    · have hb' : b'.length = b.length + 1 := by
        unfold stepW at e1
        split at e1
        · split at e1
          · cases e1
            rw [List.length_append, List.length_singleton]
          · cases e1
        · cases e1
      rw [e1]
      have st : sLoop (gN 4) G_read (rwD (r :: rs)) [.dat (.str (S l)), x1, x2, .dat (bkD b), x4, x5, x6, x7] = sLoop (gN 4) G_read (rwD rs) [.dat (.str (S l)), x1, x2, .dat (bkD b'), .dat (.str (S r)), y5, x6, x7] := v_loopS g e2
      rw [st]
      exact read_loop rs b' (.dat (.str (S r))) y5 (fun r' hr => h r' (List.mem_cons_of_mem _ hr)) (by omega)
    · right
      rw [e1]
      exact ⟨rfl, v_loopR g e2⟩
end Pu

set_option Elab.async false
set_option linter.all false
set_option autoImplicit false
set_option maxRecDepth 100000
/-! the law's own reader, typed -/
namespace Pu
open PySem PySem.Spec PyProof.Rows L2
open SX (S)
open TL (numL)
open NumText (digitsVal AllDigits)
theorem rise_snoc {b : Mp Int} {k : Str} {v : Int} (h : Rise b) (hl : (match b.getLast? with | some p => ltS p.1 k | none => true) = true) : Rise (b ++ [(k, v)]) := by
  refine List.pairwise_append.mpr ⟨h, List.pairwise_singleton _ _, fun x hx y hy => ?_⟩
  rw [List.mem_singleton.mp hy]
  rcases List.eq_nil_or_concat b with rfl | ⟨b0, p, rfl⟩
  · cases hx
  · rw [List.concat_eq_append, List.getLast?_concat] at hl
    rw [List.concat_eq_append] at hx h
    rcases List.mem_append.mp hx with hx | hx
    · exact ltS_trans ((List.pairwise_append.mp h).2.2 x hx p (List.mem_singleton.mpr rfl)) hl
    · rw [List.mem_singleton.mp hx]
      exact hl
theorem keyOk_S {k : List Nat} (h1 : 1 ≤ k.length ∧ k.length ≤ 5) (h2 : (k.all fun c => decide (97 ≤ c ∧ c ≤ 122)) = true) : keyOk (S k) = true := by
  unfold keyOk
  rw [SX.S_len, decide_eq_true h1, Bool.true_and]
  refine List.all_eq_true.mpr fun c hc => decide_eq_true ?_
  have := List.all_eq_true.mp h2 c hc
  exact letters_of (of_decide_eq_true this)
theorem keyOk_back {s : Str} (h : keyOk s = true) : (1 ≤ s.cps.toList.length ∧ s.cps.toList.length ≤ 5) ∧ (s.cps.toList.all fun c => decide (97 ≤ c ∧ c ≤ 122)) = true := by
  refine ⟨?_, List.all_eq_true.mpr fun c hc => decide_eq_true (keyOk_in h c hc)⟩
  have := keyOk_len h
  rw [TL.len_tl] at this
  exact this
theorem plain_val {w : List Nat} {lo hi : Int} (h : plainW w lo hi = true) : lo ≤ (digitsVal w : Int) ∧ (digitsVal w : Int) ≤ hi ∧ numL (digitsVal w) = w ∧ w ≠ [] ∧ w.length < 6 ∧ figB w = true := by
  unfold plainW at h
  simp only [Bool.and_eq_true, decide_eq_true_eq] at h
  exact ⟨h.2.1.1, h.2.1.2, h.2.2, h.1.1.1, h.1.1.2, h.1.2⟩
theorem plain_num {n : Nat} {lo hi : Int} (h1 : lo ≤ (n : Int)) (h2 : (n : Int) ≤ hi) (h : n < 10000) : plainW (numL n) lo hi = true := by
  unfold plainW
  have h3 : (numL n).length ≤ 4 := TL.numL_len (by decide) h
  rw [TL.numL_val, decide_eq_true (TL.numL_ne n), decide_eq_true (show (numL n).length < 6 by omega), figB_num, decide_eq_true ⟨h1, h2⟩, decide_eq_true rfl]
  rfl
/-- rising, with good keys and worths -/
def Gd (b : Mp Int) : Prop := Rise b ∧ ∀ p ∈ b, keyOk p.1 = true ∧ 0 ≤ p.2 ∧ p.2 < 1000
theorem Gd.bk {b : Mp Int} (h : Gd b) : Bk b := ⟨h.1, fun k v e => h.2 (k, v) (mem_of_val e)⟩
theorem Bk.gd {b : Mp Int} (h : Bk b) : Gd b := ⟨h.rise, fun p hp => h.fb p.1 p.2 (val_of_mem h.rise.nd hp)⟩
theorem stepW_gd {b b' : Mp Int} {r : List Nat} (h : Gd b) (e : stepW b r = some b') : Gd b' ∧ b'.length = b.length + 1 := by
  unfold stepW at e
  split at e
  · rename_i k w _
    split at e
    · rename_i c
      cases e
      unfold rowOk at c
      simp only [Bool.and_eq_true, decide_eq_true_eq] at c
      obtain ⟨⟨⟨c1, c2⟩, c3⟩, c4⟩ := c
      have c5 := plain_val c1
      refine ⟨⟨rise_snoc h.1 c4, fun p hp => ?_⟩, by rw [List.length_append, List.length_singleton]⟩
      rcases List.mem_append.mp hp with hp | hp
      · exact h.2 p hp
      · rw [List.mem_singleton.mp hp]
        exact ⟨keyOk_S c2 c3, c5.1, by have := c5.2.1; show (digitsVal w : Int) < 1000; omega⟩
    · cases e
  · cases e
theorem loopW_gd : ∀ {rs : List (List Nat)} {b b' : Mp Int}, Gd b → loopW b rs = some b' → Gd b' ∧ b'.length = b.length + rs.length
  | [], b, b', h, e => by
    cases e
    exact ⟨h, rfl⟩
  | r :: rs, b, b', h, e => by
    unfold loopW at e
    obtain ⟨b1, e1, e2⟩ := bind_some e
    obtain ⟨h1, l1⟩ := stepW_gd h e1
    obtain ⟨h2, l2⟩ := loopW_gd h1 e2
    exact ⟨h2, by rw [l2, l1, List.length_cons]; omega⟩
theorem stepW_row {b : Mp Int} {p : Str × Int} (hr : Rise (b ++ [p])) (hk : keyOk p.1 = true) (h0 : 0 ≤ p.2) (h9 : p.2 < 1000) : stepW b (rowL p) = some (b ++ [p]) := by
  have hf : (32 : Nat) ∉ p.1.cps.toList := fun h => by
    have := keyOk_in hk 32 h
    omega
  have e : TL.spl [32] 0 [] (rowL p) = [p.1.cps.toList, numL p.2.toNat] := by
    unfold rowL
    have h1 := TL.spl_part1 (s := 32) (S := []) (p := p.1.cps.toList) (rest := numL p.2.toNat) (acc := []) hf
    rw [show p.1.cps.toList ++ (32 :: numL p.2.toNat) = p.1.cps.toList ++ ([32] ++ numL p.2.toNat) from rfl, h1, TL.spl_last1 (num_free _ 32 (by omega))]
    rfl
  have eS : S p.1.cps.toList = p.1 := SX.S_tl p.1
  obtain ⟨k1, k2⟩ := keyOk_back hk
  unfold stepW
  rw [e]
  simp only
  have hrow : rowOk b p.1.cps.toList (numL p.2.toNat) = true := by
    unfold rowOk
    rw [plain_num (by omega) (by omega) (by omega), decide_eq_true k1, k2, eS]
    rcases List.eq_nil_or_concat b with rfl | ⟨b0, q, rfl⟩
    · rfl
    · rw [List.concat_eq_append] at hr ⊢
      rw [List.getLast?_concat]
      have := (List.pairwise_append.mp hr).2.2 q (by simp) p (by simp)
      simp only [Bool.true_and, Bool.and_true]
      exact this
  rw [if_pos hrow, eS, TL.numL_val, show ((p.2.toNat : Nat) : Int) = p.2 by omega]
theorem loopW_rows : ∀ {b b0 : Mp Int}, Rise (b0 ++ b) → (∀ p ∈ b, keyOk p.1 = true ∧ 0 ≤ p.2 ∧ p.2 < 1000) → loopW b0 (b.map rowL) = some (b0 ++ b)
  | [], b0, _, _ => by
    rw [List.append_nil]
    rfl
  | p :: b, b0, hr, h => by
    have hp := h p List.mem_cons_self
    have hr1 : Rise (b0 ++ [p]) := List.Pairwise.sublist (by simp) hr
    rw [List.map_cons]
    unfold loopW
    rw [stepW_row hr1 hp.1 hp.2.1 hp.2.2, Option.bind_some, loopW_rows (by simpa using hr) fun q hq => h q (List.mem_cons_of_mem _ hq)]
    simp
/-- what it comes to -/
def rdH (mid : List (List Nat)) (l : List Nat) : List (List Nat) → Option (Nat × Nat × Mp Int)
  | [_, w1, w2, _] => if plainW w1 1 9999 = true ∧ plainW w2 1 9 = true then
      (loopW [] mid).bind fun b => if wrL (digitsVal w1) (digitsVal w2) b = l then some (digitsVal w1, digitsVal w2, b) else none
    else none
  | _ => none
theorem rdH_no {mid : List (List Nat)} {l : List Nat} {h : List (List Nat)} (hn : h.length ≠ 4) : rdH mid l h = none := by
  unfold rdH
  split
  · exact absurd rfl hn
  · rfl
def rdW (l : List Nat) : Option (Nat × Nat × Mp Int) :=
  if 3 ≤ (TL.spl [10] 0 [] l).length ∧ (TL.spl [10] 0 [] l).getLast? = some [] then
    rdH (((TL.spl [10] 0 [] l).drop 1).take ((TL.spl [10] 0 [] l).length - 3)) l (TL.spl [32] 0 [] ((TL.spl [10] 0 [] l).headD []))
  else none
theorem rdW_sound {l : List Nat} {n mk : Nat} {b : Mp Int} (h : rdW l = some (n, mk, b)) : Sv n mk b ∧ wrL n mk b = l := by
  unfold rdW at h
  split at h
  · unfold rdH at h
    split at h
    · rename_i w0 w1 w2 w3 _
      split at h
      · rename_i c
        obtain ⟨b', e1, e2⟩ := bind_some h
        split at e2
        · rename_i q
          cases e2
          obtain ⟨g, _⟩ := loopW_gd ⟨List.Pairwise.nil, fun _ z => nomatch z⟩ e1
          have p1 := plain_val c.1
          have p2 := plain_val c.2
          exact ⟨⟨by omega, by omega, by omega, by omega, g.bk⟩, q⟩
        · cases e2
      · cases h
    · cases h
  · cases h
theorem rdW_wr {n mk : Nat} {b : Mp Int} (v : Sv n mk b) : rdW (wrL n mk b) = some (n, mk, b) := by
  have hrs := spl_wr (n := n) (mk := mk) v.bk.keys
  unfold rdW
  rw [hrs]
  have hl : (rowsL n mk b ++ [endL (bodyL n mk b), []]).length = b.length + 3 := by
    rw [List.length_append, rowsL_len]
    rfl
  rw [if_pos ⟨by rw [hl]; omega, by rw [show rowsL n mk b ++ [endL (bodyL n mk b), []] = (rowsL n mk b ++ [endL (bodyL n mk b)]) ++ [[]] by simp, List.getLast?_concat]⟩]
  have hh : (rowsL n mk b ++ [endL (bodyL n mk b), []]).headD [] = headL n mk b.length := rfl
  rw [hh, head_spl]
  unfold rdH
  simp only
  have h9 := v.n9
  have m9 := v.m9
  have n1 := v.n1
  have m1 := v.m1
  rw [if_pos ⟨plain_num (by omega) (by omega) (by omega), plain_num (by omega) (by omega) (by omega)⟩, TL.numL_val, TL.numL_val]
  have hmid : ((rowsL n mk b ++ [endL (bodyL n mk b), []]).drop 1).take ((rowsL n mk b ++ [endL (bodyL n mk b), []]).length - 3) = b.map rowL := by
    rw [hl]
    show (b.map rowL ++ [endL (bodyL n mk b), []]).take _ = _
    rw [show b.length + 3 - 3 = (b.map rowL).length by rw [List.length_map]; omega, List.take_left]
  rw [hmid, loopW_rows (b0 := []) v.bk.rise fun p hp => v.bk.gd.2 p hp, List.nil_append, Option.bind_some, if_pos rfl]
def rdD : Option (Nat × Nat × Mp Int) → D
  | some (n, mk, b) => svD n mk b
  | none => .none
theorem cut_mid2 (xs : List D) (h : 2 ≤ xs.length) : cutD xs (some 1) (some ((xs.length : Int) - 2)) = (xs.drop 1).take (xs.length - 3) := by
  unfold cutD
  rw [sIx_some (i := 1) (by decide), sIx_some (i := (xs.length : Int) - 2) (by omega), show min (1 : Int).toNat xs.length = 1 by show min 1 xs.length = 1; omega, show min ((xs.length : Int) - 2).toNat xs.length = xs.length - 2 by omega]
  rfl
theorem B_read_is : B_law_read = (sSeq (sSet 1 (m2 oSplit (mVar 0) (mC (.str "\n"))))
    (sSeq (sIf (mOr (m2 oLt (mA oLen (aCons (mVar 1) aNil)) (mC (.int 3))) (m2 oNe (m2 oIx (mVar 1) (m1 oNeg (mC (.int 1)))) (mC (.str ""))))
      (sRet (mC .none))
      sNil)
    (sSeq (sSet 2 (m2 oSplit (m2 oIx (mVar 1) (mC (.int 0))) (mC (.str " "))))
    (sSeq (sIf (mOr (m2 oNe (mA oLen (aCons (mVar 2) aNil)) (mC (.int 4))) (mOr (m1 oNot (mCall (F_law_plain) (xDat (m2 oIx (mVar 2) (mC (.int 1))) (xDat (mC (.int 1)) (xDat (mC (.int 9999)) xNil))))) (m1 oNot (mCall (F_law_plain) (xDat (m2 oIx (mVar 2) (mC (.int 2))) (xDat (mC (.int 1)) (xDat (mC (.int 9)) xNil)))))))
      (sRet (mC .none))
      sNil)
    (sSeq (sSet 3 (mTup aNil))
    (sSeq (sFor (iD (mSl (mVar 1) (oSome (mC (.int 1))) (oSome (m2 oSub (mA oLen (aCons (mVar 1) aNil)) (mC (.int 2)))))) (gN 4) G_read)
    (sSeq (sSet 6 (mTup (aCons (mA oInt (aCons (m2 oIx (mVar 2) (mC (.int 1))) aNil)) (aCons (mA oInt (aCons (m2 oIx (mVar 2) (mC (.int 2))) aNil)) (aCons (mVar 3) aNil)))))
    (sRet (m2 oIx (mLst (aCons (mC .none) (aCons (mVar 6) aNil))) (mA oInt (aCons (m2 oEq (mCall (F_law_text) (xDat (mVar 6) xNil)) (mVar 0)) aNil))))))))))) := rfl
theorem lawread_is {l : List Nat} (hl : l.length ≤ 1000) : F_law_read [.dat (.str (S l))] = some (rdD (rdW l)) := by
  have hsp := splitN (l := l) (by omega)
  have hsz := spl_size 10 l []
  have hea := spl_each 10 l []
  have hlenR := oLen_rw (rs := TL.spl [10] 0 [] l) (by omega)
  rw [List.length_nil, Nat.zero_add] at hea
  refine run_rt ?_
  show B_law_read [.dat (.str (S l)), .no, .no, .no, .no, .no, .no, .no] = _
  unfold rdW
  generalize TL.spl [10] 0 [] l = rows at *
  have k1 : sSet 1 (m2 oSplit (mVar 0) (mC (.str "\n"))) [.dat (.str (S l)), .no, .no, .no, .no, .no, .no, .no] = some (.nx [.dat (.str (S l)), .dat (.list (rwD rows)), .no, .no, .no, .no, .no, .no]) := by simp [hsp]
  have e1 : m2 oLt (mA oLen (aCons (mVar 1) aNil)) (mC (.int 3)) [.dat (.str (S l)), .dat (.list (rwD rows)), .no, .no, .no, .no, .no, .no] = some (.bool (decide (rows.length < 3))) := by
    rw [v_m2, v_mA, v_aCons]
    simp only [v_varS, v_var0, Option.bind_some, v_aNil, hlenR, v_C, oLt_i]
    congr 2
    exact decide_eq_decide.mpr (by omega)
  obtain ⟨rl, hrl⟩ : ∃ rl, rows.getLast? = some rl := by
    cases h : rows.getLast? with
    | none =>
      rw [List.getLast?_eq_none_iff.mp h] at hsz
      exact absurd hsz.1 (by decide)
    | some rl => exact ⟨rl, rfl⟩
  obtain ⟨rowsI, hrI⟩ : ∃ t, rows = t ++ [rl] := ⟨_, (List.getLast?_eq_some_iff.mp hrl).choose_spec⟩
  have e2 : m2 oNe (m2 oIx (mVar 1) (m1 oNeg (mC (.int 1)))) (mC (.str "")) [.dat (.str (S l)), .dat (.list (rwD rows)), .no, .no, .no, .no, .no, .no] = some (.bool (decide (rl ≠ []))) := by
    have z : m2 oIx (mVar 1) (m1 oNeg (mC (.int 1))) [.dat (.str (S l)), .dat (.list (rwD rows)), .no, .no, .no, .no, .no, .no] = some (.str (S rl)) := by
      show atI (rwD rows) (-1) = _
      rw [hrI]
      unfold rwD
      rw [List.map_append]
      exact L2.atI_last _ _
    rw [v_m2, z, Option.bind_some, v_C, Option.bind_some, em_S, oNe_s, beqS]
    congr 2
    by_cases h : rl = []
    · rw [h]; simp
    · have : S rl ≠ S [] := fun z => h (SX.S_inj z)
      simp [h, this]
  have c1 : mOr (m2 oLt (mA oLen (aCons (mVar 1) aNil)) (mC (.int 3))) (m2 oNe (m2 oIx (mVar 1) (m1 oNeg (mC (.int 1)))) (mC (.str ""))) [.dat (.str (S l)), .dat (.list (rwD rows)), .no, .no, .no, .no, .no, .no] = some (.bool (!decide (3 ≤ rows.length ∧ rows.getLast? = some []))) := by
    rw [v_or e1, e2, hrl]
    by_cases h1 : rows.length < 3
    · rw [if_pos (decide_eq_true h1), decide_eq_false (fun z => by omega)]
      rfl
    · rw [if_neg (by rw [decide_eq_true_iff]; exact h1)]
      by_cases h2 : rl = []
      · rw [decide_eq_false (fun z => z h2), decide_eq_true ⟨by omega, by rw [h2]⟩]
        rfl
      · rw [decide_eq_true h2, decide_eq_false (fun z => h2 (Option.some.inj z.2))]
        rfl
  rw [B_read_is, v_seqN k1]
  by_cases hc1 : 3 ≤ rows.length ∧ rows.getLast? = some []
  rotate_left
  · rw [if_neg hc1]
    rw [decide_eq_false hc1] at c1
    refine v_seqR ?_
    rw [v_sIf c1]
    rfl
  rw [if_pos hc1]
  rw [decide_eq_true hc1] at c1
  rw [v_seqN (ρ' := [.dat (.str (S l)), .dat (.list (rwD rows)), .no, .no, .no, .no, .no, .no]) (by rw [v_sIf c1]; rfl)]
  obtain ⟨r0, rt, hr0⟩ : ∃ r0 rt, rows = r0 :: rt := by
    match rows, hsz.1 with
    | r0 :: rt, _ => exact ⟨r0, rt, rfl⟩
  have hhd : rows.headD [] = r0 := by rw [hr0]; rfl
  rw [hhd]
  have hr0l := hea r0 (by rw [hr0]; exact List.mem_cons_self)
  have hsp2 := splitB (l := r0) (by omega)
  have hsz2 := spl_size 32 r0 []
  have hea2 := spl_each 32 r0 []
  have hlenH := oLen_rw (rs := TL.spl [32] 0 [] r0) (by omega)
  rw [List.length_nil, Nat.zero_add] at hea2
  generalize TL.spl [32] 0 [] r0 = head at *
  have k2 : sSet 2 (m2 oSplit (m2 oIx (mVar 1) (mC (.int 0))) (mC (.str " "))) [.dat (.str (S l)), .dat (.list (rwD rows)), .no, .no, .no, .no, .no, .no] = some (.nx [.dat (.str (S l)), .dat (.list (rwD rows)), .dat (.list (rwD head)), .no, .no, .no, .no, .no]) := by
    have : m2 oIx (mVar 1) (mC (.int 0)) [.dat (.str (S l)), .dat (.list (rwD rows)), .no, .no, .no, .no, .no, .no] = some (.str (S r0)) := L2.atI_nat (xs := rwD rows) (j := 0) (by rw [hr0]; rfl)
    rw [v_sSet, v_m2, this, Option.bind_some, v_C, Option.bind_some, hsp2]
    rfl
  rw [v_seqN k2]
  by_cases hc2 : head.length = 4
  rotate_left
  · have e3 : m2 oNe (mA oLen (aCons (mVar 2) aNil)) (mC (.int 4)) [.dat (.str (S l)), .dat (.list (rwD rows)), .dat (.list (rwD head)), .no, .no, .no, .no, .no] = some (.bool true) := by
      rw [v_m2, v_mA, v_aCons]
      simp only [v_varS, v_var0, Option.bind_some, v_aNil, hlenH, v_C, oNe_i]
      rw [beq_eq_false_iff_ne.mpr (fun z => hc2 (by omega))]
      rfl
    rw [rdH_no hc2]
    refine v_seqR ?_
    rw [v_sIf (by rw [v_or e3]; rfl)]
    rfl
  obtain ⟨w0, w1, w2, w3, rfl⟩ : ∃ w0 w1 w2 w3, head = [w0, w1, w2, w3] := by
    match head, hc2 with
    | [w0, w1, w2, w3], _ => exact ⟨w0, w1, w2, w3, rfl⟩
  unfold rdH
  simp only
  have hw1 := hea2 w1 (by simp)
  have hw2 := hea2 w2 (by simp)
  have hp1 := plain_is (w := w1) (lo := 1) (hi := 9999) (by omega)
  have hp2 := plain_is (w := w2) (lo := 1) (hi := 9) (by omega)
  have e3 : m2 oNe (mA oLen (aCons (mVar 2) aNil)) (mC (.int 4)) [.dat (.str (S l)), .dat (.list (rwD rows)), .dat (.list (rwD [w0, w1, w2, w3])), .no, .no, .no, .no, .no] = some (.bool false) := rfl
  have e4 : m1 oNot (mCall (F_law_plain) (xDat (m2 oIx (mVar 2) (mC (.int 1))) (xDat (mC (.int 1)) (xDat (mC (.int 9999)) xNil)))) [.dat (.str (S l)), .dat (.list (rwD rows)), .dat (.list (rwD [w0, w1, w2, w3])), .no, .no, .no, .no, .no] = some (.bool (!plainW w1 1 9999)) := by
    have z : mCall (F_law_plain) (xDat (m2 oIx (mVar 2) (mC (.int 1))) (xDat (mC (.int 1)) (xDat (mC (.int 9999)) xNil))) [.dat (.str (S l)), .dat (.list (rwD rows)), .dat (.list (rwD [w0, w1, w2, w3])), .no, .no, .no, .no, .no] = _ := hp1
    rw [v_m1, z]
    rfl
  have e5 : m1 oNot (mCall (F_law_plain) (xDat (m2 oIx (mVar 2) (mC (.int 2))) (xDat (mC (.int 1)) (xDat (mC (.int 9)) xNil)))) [.dat (.str (S l)), .dat (.list (rwD rows)), .dat (.list (rwD [w0, w1, w2, w3])), .no, .no, .no, .no, .no] = some (.bool (!plainW w2 1 9)) := by
    have z : mCall (F_law_plain) (xDat (m2 oIx (mVar 2) (mC (.int 2))) (xDat (mC (.int 1)) (xDat (mC (.int 9)) xNil))) [.dat (.str (S l)), .dat (.list (rwD rows)), .dat (.list (rwD [w0, w1, w2, w3])), .no, .no, .no, .no, .no] = _ := hp2
    rw [v_m1, z]
    rfl
  have c2 : mOr (m2 oNe (mA oLen (aCons (mVar 2) aNil)) (mC (.int 4))) (mOr (m1 oNot (mCall (F_law_plain) (xDat (m2 oIx (mVar 2) (mC (.int 1))) (xDat (mC (.int 1)) (xDat (mC (.int 9999)) xNil))))) (m1 oNot (mCall (F_law_plain) (xDat (m2 oIx (mVar 2) (mC (.int 2))) (xDat (mC (.int 1)) (xDat (mC (.int 9)) xNil)))))) [.dat (.str (S l)), .dat (.list (rwD rows)), .dat (.list (rwD [w0, w1, w2, w3])), .no, .no, .no, .no, .no] = some (.bool (!decide (plainW w1 1 9999 = true ∧ plainW w2 1 9 = true))) := by
    rw [v_or e3, if_neg (by decide), v_or e4, e5]
    cases plainW w1 1 9999 <;> cases plainW w2 1 9 <;> rfl
  by_cases hc3 : plainW w1 1 9999 = true ∧ plainW w2 1 9 = true
  rotate_left
  · rw [if_neg hc3]
    rw [decide_eq_false hc3] at c2
    refine v_seqR ?_
    rw [v_sIf c2]
    rfl
  rw [if_pos hc3]
  rw [decide_eq_true hc3] at c2
  rw [v_seqN (ρ' := [.dat (.str (S l)), .dat (.list (rwD rows)), .dat (.list (rwD [w0, w1, w2, w3])), .no, .no, .no, .no, .no]) (by rw [v_sIf c2]; rfl)]
  rw [v_seqN (ρ' := [.dat (.str (S l)), .dat (.list (rwD rows)), .dat (.list (rwD [w0, w1, w2, w3])), .dat (bkD []), .no, .no, .no, .no]) rfl]
  have hit : iD (mSl (mVar 1) (oSome (mC (.int 1))) (oSome (m2 oSub (mA oLen (aCons (mVar 1) aNil)) (mC (.int 2))))) [.dat (.str (S l)), .dat (.list (rwD rows)), .dat (.list (rwD [w0, w1, w2, w3])), .dat (bkD []), .no, .no, .no, .no] = some (rwD ((rows.drop 1).take (rows.length - 3))) := by
    have z : mA oLen (aCons (mVar 1) aNil) [.dat (.str (S l)), .dat (.list (rwD rows)), .dat (.list (rwD [w0, w1, w2, w3])), .dat (bkD []), .no, .no, .no, .no] = _ := hlenR
    have z2 : oSome (m2 oSub (mA oLen (aCons (mVar 1) aNil)) (mC (.int 2))) [.dat (.str (S l)), .dat (.list (rwD rows)), .dat (.list (rwD [w0, w1, w2, w3])), .dat (bkD []), .no, .no, .no, .no] = some (some ((rows.length : Int) - 2)) := by
      unfold oSome
      rw [v_m2, z]
      rfl
    have z3 : mSl (mVar 1) (oSome (mC (.int 1))) (oSome (m2 oSub (mA oLen (aCons (mVar 1) aNil)) (mC (.int 2)))) [.dat (.str (S l)), .dat (.list (rwD rows)), .dat (.list (rwD [w0, w1, w2, w3])), .dat (bkD []), .no, .no, .no, .no] = some (.list (cutD (rwD rows) (some 1) (some ((rows.length : Int) - 2)))) := by
      unfold mSl
      rw [z2]
      rfl
    rw [v_iD, z3, Option.bind_some]
    have hl2 : (rwD rows).length = rows.length := List.length_map _
    have := cut_mid2 (rwD rows) (by rw [hl2]; omega)
    rw [hl2] at this
    rw [this]
    unfold rwD
    rw [← List.map_drop, ← List.map_take]
    rfl
  have hmid : ∀ r ∈ (rows.drop 1).take (rows.length - 3), r.length ≤ 100000 := fun r hr => by
    have := hea r (List.mem_of_mem_drop (List.mem_of_mem_take hr))
    omega
  have hml : ((rows.drop 1).take (rows.length - 3)).length ≤ 1000 := by
    rw [List.length_take, List.length_drop]
    omega
  generalize (rows.drop 1).take (rows.length - 3) = mid at *
  rcases read_loop (l := l) (x1 := .dat (.list (rwD rows))) (x2 := .dat (.list (rwD [w0, w1, w2, w3]))) (x6 := .no) (x7 := .no) mid [] .no .no hmid (by rw [List.length_nil]; omega) with ⟨b, y4, y5, q1, q2⟩ | ⟨q1, q2⟩
  · rw [q1, Option.bind_some, v_seqN (by rw [v_sFor, hit]; exact q2)]
    obtain ⟨g, gl⟩ := loopW_gd ⟨List.Pairwise.nil, fun _ z => nomatch z⟩ q1
    rw [List.length_nil, Nat.zero_add] at gl
    have p1 := plain_val hc3.1
    have p2 := plain_val hc3.2
    have i1 := oInt_S p1.2.2.2.2.2 p1.2.2.2.1 (by omega)
    have i2 := oInt_S p2.2.2.2.2.2 p2.2.2.2.1 (by omega)
    have htx := ltext_is (n := digitsVal w1) (mk := digitsVal w2) (b := b) (by omega) (by omega) (g.bk.sm (by omega))
    have k6 : sSet 6 (mTup (aCons (mA oInt (aCons (m2 oIx (mVar 2) (mC (.int 1))) aNil)) (aCons (mA oInt (aCons (m2 oIx (mVar 2) (mC (.int 2))) aNil)) (aCons (mVar 3) aNil)))) [.dat (.str (S l)), .dat (.list (rwD rows)), .dat (.list (rwD [w0, w1, w2, w3])), .dat (bkD b), y4, y5, .no, .no] = some (.nx [.dat (.str (S l)), .dat (.list (rwD rows)), .dat (.list (rwD [w0, w1, w2, w3])), .dat (bkD b), y4, y5, .dat (svD (digitsVal w1) (digitsVal w2) b), .no]) := by
      have z1 : mA oInt (aCons (m2 oIx (mVar 2) (mC (.int 1))) aNil) [.dat (.str (S l)), .dat (.list (rwD rows)), .dat (.list (rwD [w0, w1, w2, w3])), .dat (bkD b), y4, y5, .no, .no] = _ := i1
      have z2 : mA oInt (aCons (m2 oIx (mVar 2) (mC (.int 2))) aNil) [.dat (.str (S l)), .dat (.list (rwD rows)), .dat (.list (rwD [w0, w1, w2, w3])), .dat (bkD b), y4, y5, .no, .no] = _ := i2
      rw [v_sSet, v_tup, v_aCons, z1, Option.bind_some, v_aCons, z2]
      rfl
    rw [v_seqN k6]
    have z : mCall (F_law_text) (xDat (mVar 6) xNil) [.dat (.str (S l)), .dat (.list (rwD rows)), .dat (.list (rwD [w0, w1, w2, w3])), .dat (bkD b), y4, y5, .dat (svD (digitsVal w1) (digitsVal w2) b), .no] = _ := htx
    have z5 : mA oInt (aCons (m2 oEq (mCall (F_law_text) (xDat (mVar 6) xNil)) (mVar 0)) aNil) [.dat (.str (S l)), .dat (.list (rwD rows)), .dat (.list (rwD [w0, w1, w2, w3])), .dat (bkD b), y4, y5, .dat (svD (digitsVal w1) (digitsVal w2) b), .no] = some (.int (if wrL (digitsVal w1) (digitsVal w2) b = l then 1 else 0)) := by
      rw [v_mA, v_aCons, v_m2, z, Option.bind_some, v_var0, Option.bind_some, oEq_s, beqS]
      by_cases h : wrL (digitsVal w1) (digitsVal w2) b = l
      · rw [if_pos h, h, decide_eq_true rfl]
        rfl
      · rw [if_neg h, decide_eq_false (fun z => h (SX.S_inj z))]
        rfl
    rw [v_sRet, v_m2, z5]
    by_cases h : wrL (digitsVal w1) (digitsVal w2) b = l
    · rw [if_pos h, if_pos h]
      rfl
    · rw [if_neg h, if_neg h]
      rfl
  · rw [q1]
    exact v_seqR (by rw [v_sFor, hit]; exact q2)
/-- read, as the law reads -/
theorem read_is {l : List Nat} (hl : l.length ≤ 1000) : F_read [.dat (.str (S l))] = some (match rdW l with | some (n, mk, b) => .ok (svD n mk b) | none => .ex) := by
  rcases read_A hl with h | ⟨n, mk, b, v, hb, e, h⟩
  · cases hr : rdW l with
    | none => exact h
    | some z =>
      obtain ⟨n, mk, b⟩ := z
      obtain ⟨v, e⟩ := rdW_sound hr
      have hbl : b.length ≤ 900 := by
        have h1 := wrL_size n mk b
        have h2 : b.length ≤ (txL (b.map rowL)).length := by
          have : ∀ rs : List (List Nat), rs.length ≤ (txL rs).length := fun rs => by
            induction rs with
            | nil => exact Nat.le_refl _
            | cons r rs ih =>
              show _ ≤ ((r ++ [10]) ++ txL rs).length
              rw [List.length_append, List.length_append, List.length_cons, List.length_singleton]
              omega
          have := this (b.map rowL)
          rwa [List.length_map] at this
        have h3 : (bodyL n mk b).length = (headL n mk b.length ++ [10]).length + (txL (b.map rowL)).length := by
          show ((headL n mk b.length ++ [10]) ++ txL (b.map rowL)).length = _
          rw [List.length_append]
        have h4 : 2 * b.length ≤ (txL (b.map rowL)).length := by
          have : ∀ m : Mp Int, 2 * m.length ≤ (txL (m.map rowL)).length := fun m => by
            induction m with
            | nil => exact Nat.le_refl _
            | cons p m ih =>
              show _ ≤ ((rowL p ++ [10]) ++ txL (m.map rowL)).length
              have hr : 1 ≤ (rowL p).length := by
                unfold rowL
                rw [List.length_append, List.length_cons]
                omega
              rw [List.length_append, List.length_append, List.length_cons, List.length_singleton]
              omega
          exact this b
        rw [e] at h1
        omega
      rw [← e] at h ⊢
      rw [read_B v hbl] at h
      cases h
  · have := rdW_wr v
    rw [e] at this
    rw [this]
    exact h
end Pu

set_option Elab.async false
set_option linter.all false
set_option autoImplicit false
set_option maxRecDepth 100000
/-! saves on a disk -/
namespace Pu
open PySem PySem.Spec PyProof.Rows L2
open SX (S)
open TL (numL)
abbrev Save := Nat × Nat × Mp Int
def svT (s : Save) : D := svD s.1 s.2.1 s.2.2
/-- the save that a name has -/
def svIn (k : Str) (t : List Nat) : Option Save := (rdW t).bind fun s => if nmL s.1 = k then some s else none
theorem svIn_some {k : Str} {t : List Nat} {s : Save} (h : svIn k t = some s) : rdW t = some s ∧ nmL s.1 = k := by
  unfold svIn at h
  obtain ⟨s', e1, e2⟩ := bind_some h
  obtain ⟨c, rfl⟩ := ite_some e2
  exact ⟨e1, c⟩
theorem svIn_of {k : Str} {t : List Nat} {s : Save} (h : rdW t = some s) (hk : nmL s.1 = k) : svIn k t = some s := by
  unfold svIn
  rw [h, Option.bind_some, if_pos hk]
theorem save_in_is {k : Str} {t : List Nat} (ht : t.length ≤ 1000) : F_save_in [.dat (.str k), .dat (.str (S t))] = some (rdD (svIn k t)) := by
  have hr := read_is ht
  refine run_rt ?_
  show B_save_in [.dat (.str k), .dat (.str (S t)), .no] = _
  unfold B_save_in
  rw [v_seqN (ρ' := [.dat (.str k), .dat (.str (S t)), .dat .none]) rfl]
  have hx : xCall (F_read) (xDat (mVar 1) xNil) [.dat (.str k), .dat (.str (S t)), .dat .none] = _ := hr
  unfold svIn
  cases h : rdW t with
  | none =>
    rw [h] at hx
    rw [v_seqN (ρ' := [.dat (.str k), .dat (.str (S t)), .dat .none]) (by
      unfold sTryAsg
      rw [hx]
      rfl)]
    rfl
  | some s =>
    obtain ⟨n, mk, b⟩ := s
    rw [h] at hx
    have hv := (rdW_sound h).1
    have hnm := name_is (n := n) (by have := hv.n9; omega)
    rw [v_seqN (ρ' := [.dat (.str k), .dat (.str (S t)), .dat (svD n mk b)]) (by
      unfold sTryAsg
      rw [hx]
      rfl)]
    have e1 : m2 oIs (mVar 2) (mC .none) [.dat (.str k), .dat (.str (S t)), .dat (svD n mk b)] = some (.bool false) := rfl
    have e2 : m2 oNe (mCall (F_name_of) (xDat (m2 oIx (mVar 2) (mC (.int 0))) xNil)) (mVar 0) [.dat (.str k), .dat (.str (S t)), .dat (svD n mk b)] = some (.bool (!decide (nmL n = k))) := by
      have z : mCall (F_name_of) (xDat (m2 oIx (mVar 2) (mC (.int 0))) xNil) [.dat (.str k), .dat (.str (S t)), .dat (svD n mk b)] = _ := hnm
      rw [v_m2, z, Option.bind_some, v_var0, Option.bind_some, oNe_s, beqS]
    have e3 : mOr (m2 oIs (mVar 2) (mC .none)) (m2 oNe (mCall (F_name_of) (xDat (m2 oIx (mVar 2) (mC (.int 0))) xNil)) (mVar 0)) [.dat (.str k), .dat (.str (S t)), .dat (svD n mk b)] = some (.bool (!decide (nmL n = k))) := by
      rw [v_or e1, if_neg (by decide), e2]
    rw [Option.bind_some]
    by_cases hk : nmL n = k
    · rw [decide_eq_true hk] at e3
      rw [if_pos hk, v_seqN (ρ' := [.dat (.str k), .dat (.str (S t)), .dat (svD n mk b)]) (by rw [v_sIf e3]; rfl)]
      rfl
    · rw [decide_eq_false hk] at e3
      rw [if_neg hk]
      refine v_seqR ?_
      rw [v_sIf e3]
      rfl
/-! ### in order -/
def leN (a b : Save) : Bool := decide (a.1 ≤ b.1)
theorem leN_total : PySem.W.TotalLe leN where
  trans := fun a b c h1 h2 => by
    unfold leN at *
    simp only [decide_eq_true_eq] at *
    omega
  total := fun a b => by
    unfold leN
    simp only [Bool.or_eq_true, decide_eq_true_eq]
    omega
theorem leD_sv {a b : Save} (ne : a.1 ≠ b.1) : leD (svT a) (svT b) = leN a b := by
  show (!PySem.W.dataLt (.tuple [.int b.1, .int b.2.1, bkD b.2.2]) (.tuple [.int a.1, .int a.2.1, bkD a.2.2])) = _
  rw [PySem.W.dataLt_tuple, PySem.W.dataLt_cons (by simp [PySem.W.alike]), if_neg (by simp only [PyData.eqv, beq_iff_eq]; omega), PySem.W.dataLt_int]
  unfold leN
  by_cases h : (b.1 : Int) < a.1
  · rw [decide_eq_true h, decide_eq_false (by omega)]
    rfl
  · rw [decide_eq_false h, decide_eq_true (by omega)]
    rfl
theorem alike_bk : ∀ (a b : Mp Int), PySem.W.alikeAll (itM .int a) (itM .int b) = true
  | [], b => by
    show PySem.W.alikeAll [] _ = true
    simp [PySem.W.alikeAll]
  | p :: a, [] => by
    show PySem.W.alikeAll (_ :: _) [] = true
    simp [PySem.W.alikeAll]
  | p :: a, q :: b => by
    show PySem.W.alikeAll (prD .int p :: itM .int a) (prD .int q :: itM .int b) = true
    rw [PySem.W.alikeAll, alike_bk a b, Bool.and_true]
    unfold prD
    simp [PySem.W.alike, PySem.W.alikeAll]
theorem sortOk_sv {l : List Save} (hl : l.length ≤ 16777216) : sortOk (l.map svT) = true := by
  unfold sortOk
  simp only [Bool.and_eq_true, Bool.or_eq_true, List.all_eq_true, decide_eq_true_eq]
  refine ⟨⟨⟨fun d hd d' hd' => ?_, .inl fun d hd => ?_⟩, fun d hd => ?_⟩, by rw [List.length_map]; exact hl⟩
  · obtain ⟨p, _, rfl⟩ := List.mem_map.mp hd
    obtain ⟨q, _, rfl⟩ := List.mem_map.mp hd'
    unfold svT svD bkD
    simp [PySem.W.alike, PySem.W.alikeAll, alike_bk]
  · obtain ⟨p, _, rfl⟩ := List.mem_map.mp hd
    rfl
  · obtain ⟨p, _, rfl⟩ := List.mem_map.mp hd
    have : Pl 4 (svT p) := pl_tup fun x hx => by
      simp only [List.mem_cons, List.not_mem_nil, or_false] at hx
      rcases hx with rfl | rfl | rfl
      · exact pl_int _ _
      · exact pl_int _ _
      · exact pl_bk _
    have := this.depth
    omega
def NdS (l : List Save) : Prop := (l.map (·.1)).Nodup
theorem nds_eq : ∀ {l : List Save} {a b : Save}, NdS l → a ∈ l → b ∈ l → a.1 = b.1 → a = b
  | x :: l, a, b, h, ha, hb, e => by
    unfold NdS at h
    rw [List.map_cons, List.nodup_cons] at h
    rcases List.mem_cons.mp ha with ha | ha <;> rcases List.mem_cons.mp hb with hb | hb
    · rw [ha, hb]
    · exact absurd (List.mem_map.mpr ⟨b, hb, by rw [← e, ha]⟩) h.1
    · exact absurd (List.mem_map.mpr ⟨a, ha, by rw [e, hb]⟩) h.1
    · exact nds_eq h.2 ha hb e
theorem sort_sv {l : List Save} (h : NdS l) : (l.map svT).mergeSort leD = (l.mergeSort leN).map svT := by
  have key : (l.mergeSort (fun p q => leD (svT p) (svT q))).map svT = (l.map svT).mergeSort leD := PySem.W.sort_maps svT fun a _ b _ => rfl
  rw [← key]
  congr 1
  refine PySem.W.sort_congr fun a ha b hb => ?_
  by_cases e : a.1 = b.1
  · have := nds_eq h ha hb e
    subst this
    rw [leN_total.refl, leD_total.refl]
  · exact leD_sv e
/-- all saves on a disk, as they stand -/
def svA (m : Dk) : List Save := m.filterMap fun p => svIn p.1 p.2
def svL (m : Dk) : List Save := (svA m).mergeSort leN
def On (m : Dk) (s : Save) : Prop := ∃ t, val m (nmL s.1) = some t ∧ rdW t = some s
theorem mem_svA {m : Dk} (nd : Nd m) {s : Save} : s ∈ svA m ↔ On m s := by
  unfold svA
  rw [List.mem_filterMap]
  constructor
  · rintro ⟨⟨k, t⟩, hp, e⟩
    obtain ⟨e1, e2⟩ := svIn_some e
    exact ⟨t, by rw [e2]; exact val_of_mem nd hp, e1⟩
  · rintro ⟨t, e1, e2⟩
    exact ⟨(nmL s.1, t), mem_of_val e1, svIn_of e2 rfl⟩
theorem mem_svL {m : Dk} (nd : Nd m) {s : Save} : s ∈ svL m ↔ On m s := (List.mergeSort_perm _ _).mem_iff.trans (mem_svA nd)
theorem svA_nds : ∀ {m : Dk}, Nd m → NdS (svA m)
  | [], _ => by
    show ([] : List Nat).Nodup
    exact List.nodup_nil
  | (k, t) :: m, nd => by
    have h := nd_cons.mp nd
    have ih := svA_nds h.2
    unfold svA
    rw [List.filterMap_cons]
    simp only
    cases e : svIn k t with
    | none => exact ih
    | some s =>
      unfold NdS
      simp only [List.map_cons, List.nodup_cons]
      refine ⟨fun hm => ?_, ih⟩
      obtain ⟨s', hs', es⟩ := List.mem_map.mp hm
      obtain ⟨t', e1, _⟩ := (mem_svA h.2).mp hs'
      rw [es, (svIn_some e).2] at e1
      have h1 : val m k = none := h.1
      rw [h1] at e1
      cases e1
theorem svL_nds {m : Dk} (nd : Nd m) : NdS (svL m) := ((List.mergeSort_perm (svA m) leN).map (fun s : Save => s.1)).nodup_iff.mpr (svA_nds nd)
theorem svL_len (m : Dk) : (svL m).length ≤ m.length := by
  unfold svL svA
  rw [(List.mergeSort_perm _ _).length_eq]
  exact List.length_filterMap_le _ _
theorem svL_rise {m : Dk} (nd : Nd m) : (svL m).Pairwise fun a b => a.1 < b.1 := by
  have h1 : (svL m).Pairwise fun a b => leN a b = true := List.pairwise_mergeSort (fun a b c => leN_total.trans a b c) (fun a b => by rw [Bool.or_eq_true]; exact leN_total.total a b) (svA m)
  have h2 : (svL m).Pairwise fun a b => a.1 ≠ b.1 := by
    have := svL_nds nd
    unfold NdS at this
    exact List.pairwise_map.mp this
  exact (h1.and h2).imp fun {a b} h => by
    have h3 : a.1 ≤ b.1 := of_decide_eq_true h.1
    have h4 := h.2
    omega
theorem rise_eq : ∀ {l l' : List Save}, (l.Pairwise fun a b => a.1 < b.1) → (l'.Pairwise fun a b => a.1 < b.1) → (∀ s, s ∈ l ↔ s ∈ l') → l = l'
  | [], [], _, _, _ => rfl
  | [], b :: l', _, _, h => absurd ((h b).mpr List.mem_cons_self) (by simp)
  | a :: l, [], _, _, h => absurd ((h a).mp List.mem_cons_self) (by simp)
  | a :: l, b :: l', h1, h2, h => by
    obtain ⟨p1, p2⟩ := List.pairwise_cons.mp h1
    obtain ⟨q1, q2⟩ := List.pairwise_cons.mp h2
    have e : a = b := by
      rcases List.mem_cons.mp ((h a).mp List.mem_cons_self) with e | e
      · exact e
      · rcases List.mem_cons.mp ((h b).mpr List.mem_cons_self) with e' | e'
        · exact e'.symm
        · have := q1 a e
          have := p1 b e'
          omega
    subst e
    rw [rise_eq p2 q2 fun s => ⟨fun hs => (List.mem_cons.mp ((h s).mp (List.mem_cons_of_mem _ hs))).resolve_left fun z => by
      have := p1 s hs
      rw [z] at this
      omega, fun hs => (List.mem_cons.mp ((h s).mpr (List.mem_cons_of_mem _ hs))).resolve_left fun z => by
      have := q1 s hs
      rw [z] at this
      omega⟩]
theorem svL_ext {m m' : Dk} (nd : Nd m) (nd' : Nd m') (h : ∀ s, On m s ↔ On m' s) : svL m = svL m' := rise_eq (svL_rise nd) (svL_rise nd') fun s => by rw [mem_svL nd, mem_svL nd', h s]
def newM (m : Dk) : Option Save := (svL m).getLast?
theorem last_max {l : List Save} (h : l.Pairwise fun a b => a.1 < b.1) {s : Save} (e : l.getLast? = some s) : s ∈ l ∧ ∀ s' ∈ l, s'.1 ≤ s.1 := by
  obtain ⟨t, rfl⟩ := List.getLast?_eq_some_iff.mp e
  refine ⟨by simp, fun s' hs => ?_⟩
  rcases List.mem_append.mp hs with hs | hs
  · have := (List.pairwise_append.mp h).2.2 s' hs s (by simp)
    omega
  · rw [List.mem_singleton.mp hs]
    exact Nat.le_refl _
theorem last_is {l : List Save} (h : l.Pairwise fun a b => a.1 < b.1) {s : Save} (hs : s ∈ l) (hm : ∀ s' ∈ l, s'.1 ≤ s.1) : l.getLast? = some s := by
  cases e : l.getLast? with
  | none =>
    rw [List.getLast?_eq_none_iff.mp e] at hs
    cases hs
  | some s' =>
    obtain ⟨h1, h2⟩ := last_max h e
    have hnd : NdS l := by
      unfold NdS
      exact List.pairwise_map.mpr (h.imp fun {a b} z => by omega)
    rw [nds_eq hnd h1 hs (by have := h2 s hs; have := hm s' h1; omega)]
theorem newM_some {m : Dk} (nd : Nd m) {s : Save} (h : newM m = some s) : On m s ∧ ∀ s', On m s' → s'.1 ≤ s.1 := by
  obtain ⟨h1, h2⟩ := last_max (svL_rise nd) h
  exact ⟨(mem_svL nd).mp h1, fun s' hs => h2 s' ((mem_svL nd).mpr hs)⟩
theorem newM_is {m : Dk} (nd : Nd m) {s : Save} (hs : On m s) (hm : ∀ s', On m s' → s'.1 ≤ s.1) : newM m = some s := last_is (svL_rise nd) ((mem_svL nd).mpr hs) fun s' h => hm s' ((mem_svL nd).mp h)
theorem newM_ext {m m' : Dk} (nd : Nd m) (nd' : Nd m') (h : ∀ s, On m s ↔ On m' s) : newM m = newM m' := by
  unfold newM
  rw [svL_ext nd nd' h]
/-! ### the defs -/
section
variable {m : Dk}
theorem Tl.each {n : Nat} {m : Dk} (nd : Nd m) (h : Tl n m) : ∀ p ∈ m, p.2.length ≤ n := fun p hp => h p.1 p.2 (val_of_mem nd hp)
theorem rdD_T (s : Save) : rdD (some s) = svT s := rfl
theorem filt_sv {ρ : Rho} {i : Nat} (hρ : ∀ d, mVar i (ρ.set i (.dat d)) = some d) : ∀ l : List (Option Save), lcGo (gN i) (m2 oIsNot (mVar i) (mC .none)) (mVar i) ρ (l.map rdD) = some ((l.filterMap id).map svT)
  | [] => rfl
  | o :: l => by
    have ih := filt_sv hρ l
    show ((gN i (rdD o) ρ).bind fun ρ1 => _) = _
    rw [v_gN, Option.bind_some]
    have e1 : m2 oIsNot (mVar i) (mC .none) (ρ.set i (.dat (rdD o))) = some (.bool o.isSome) := by
      rw [v_m2, hρ]
      cases o <;> rfl
    rw [e1]
    cases o with
    | none =>
      show lcGo _ _ _ ρ (l.map rdD) = _
      rw [ih]
      rfl
    | some s =>
      show ((mVar i (ρ.set i (.dat (rdD (some s))))).bind fun y => (lcGo _ _ _ ρ (l.map rdD)).map _) = _
      rw [hρ, ih]
      rfl
theorem saves_on_is (nd : Nd m) (hl : m.length ≤ 1000000) (ht : Tl 1000 m) : F_saves_on [.dat (dkD m)] = some (.list ((svL m).map svT)) := by
  have e1 : mL (lLc [2, 3] (iD (mVar 0)) (gT [2, 3]) mYes (mCall (F_save_in) (xDat (mVar 2) (xDat (mVar 3) xNil)))) [.dat (dkD m), .no, .no, .no, .no] = some (.list ((m.map fun p => svIn p.1 p.2).map rdD)) := by
    have := lc_mapT (ρ := wipeR [.dat (dkD m), .no, .no, .no, .no] [2, 3]) (m := gT [2, 3]) (te := mCall (F_save_in) (xDat (mVar 2) (xDat (mVar 3) xNil))) (prD emT) (fun p => rdD (svIn p.1 p.2)) m fun p hp => ⟨_, rfl, save_in_is (ht.each nd p hp)⟩
    have hi : itemsD (dkD m) = some (m.map (prD emT)) := rfl
    have hl2 : m.length < 16777216 := by omega
    simp only [v_mL, v_lLc, v_iD, v_var0, Option.bind_some, hi, this, List.length_map, sizeLine_is, hl2, if_true, Option.map_some, List.map_map]
    rfl
  refine run_rt ?_
  show B_saves_on [.dat (dkD m), .no, .no, .no, .no] = _
  unfold B_saves_on
  rw [v_seqN (ρ' := [.dat (dkD m), .dat (.list ((m.map fun p => svIn p.1 p.2).map rdD)), .no, .no, .no]) (by rw [v_sSet, e1]; rfl)]
  have e2 : mL (lLc [4] (iD (mVar 1)) (gN 4) (m2 oIsNot (mVar 4) (mC .none)) (mVar 4)) [.dat (dkD m), .dat (.list ((m.map fun p => svIn p.1 p.2).map rdD)), .no, .no, .no] = some (.list ((svA m).map svT)) := by
    have hi : iD (mVar 1) [.dat (dkD m), .dat (.list ((m.map fun p => svIn p.1 p.2).map rdD)), .no, .no, .no] = some ((m.map fun p => svIn p.1 p.2).map rdD) := rfl
    rw [v_mL, v_lLc, hi, Option.bind_some, if_pos (by rw [List.length_map, List.length_map, sizeLine_is]; omega), filt_sv (fun d => rfl), List.filterMap_map]
    rfl
  rw [v_sRet, v_mA, v_aCons, e2]
  have hla : (svA m).length ≤ 16777216 := by
    have := List.length_filterMap_le (fun p : Str × List Nat => svIn p.1 p.2) m
    unfold svA
    omega
  show ((if sortOk ((svA m).map svT) = true then some (PyData.list (((svA m).map svT).mergeSort leD)) else none).map Out.rt) = _
  rw [if_pos (sortOk_sv hla), sort_sv (svA_nds nd)]
  rfl
theorem whole_is (nd : Nd m) (hl : m.length ≤ 1000000) (ht : Tl 1000 m) : F_whole [.dat (dkD m)] = some (.tuple ((svL m).map fun s => PyData.int s.1)) := by
  have h := saves_on_is nd hl ht
  have hlen := svL_len m
  refine run_rt ?_
  show B_whole [.dat (dkD m), .no] = _
  unfold B_whole
  have hi : iD (mCall (F_saves_on) (xDat (mVar 0) xNil)) [.dat (dkD m), .no] = some ((svL m).map svT) := by
    rw [v_iD, show mCall (F_saves_on) (xDat (mVar 0) xNil) [.dat (dkD m), .no] = _ from h]
    rfl
  rw [v_sRet, v_mA, v_aCons, v_mL, v_lLc, hi, Option.bind_some, if_pos (by rw [List.length_map, sizeLine_is]; omega), lc_mapT svT (fun s => PyData.int s.1) (svL m) fun s _ => ⟨_, rfl, rfl⟩]
  rfl
theorem spoilt_is (nd : Nd m) (hl : m.length ≤ 1000000) (ht : Tl 1000 m) : F_spoilt [.dat (dkD m)] = some (ksD ((m.filter fun p => (svIn p.1 p.2).isNone).map (·.1))) := by
  refine run_rt ?_
  show B_spoilt [.dat (dkD m), .no, .no] = _
  unfold B_spoilt
  have hi : iD (mVar 0) [.dat (dkD m), .no, .no] = some (m.map (prD emT)) := rfl
  rw [v_sRet, v_mA, v_aCons, v_mL, v_lLc, hi, Option.bind_some, if_pos (by rw [List.length_map, sizeLine_is]; omega), lc_filterT (prD emT) (fun p => PyData.str p.1) (fun p => (svIn p.1 p.2).isNone) m fun p hp => ⟨_, rfl, by
    have z : mCall (F_save_in) (xDat (mVar 1) (xDat (mVar 2) xNil)) [.dat (dkD m), .dat (.str p.1), .dat (.str (S p.2))] = _ := save_in_is (ht.each nd p hp)
    show m2 oIs (mCall (F_save_in) (xDat (mVar 1) (xDat (mVar 2) xNil))) (mC .none) [.dat (dkD m), .dat (.str p.1), .dat (.str (S p.2))] = _
    rw [v_m2, z]
    cases svIn p.1 p.2 <;> rfl, fun _ => rfl⟩]
  unfold ksD
  rw [List.map_map]
  rfl
theorem last_T (l : List Save) (s : Save) (h : l.getLast? = some s) : atI (l.map svT) (-1) = some (svT s) := by
  obtain ⟨t, rfl⟩ := List.getLast?_eq_some_iff.mp h
  rw [List.map_append]
  exact L2.atI_last _ _
theorem len_T {l : List Save} (h : l.length ≤ 1000000) : oLen [.list (l.map svT)] = some (.int l.length) := by
  have h2 : (l.map svT).length ≤ 16777216 := by rw [List.length_map]; omega
  rw [show oLen [.list (l.map svT)] = some (.int (l.map svT).length) by simp [h2], List.length_map]
def optT : Option Save → D
  | some s => svT s
  | none => .none
theorem newest_is (nd : Nd m) (hl : m.length ≤ 1000000) (ht : Tl 1000 m) : F_newest [.dat (dkD m)] = some (optT (newM m)) := by
  have h := saves_on_is nd hl ht
  have hlen := svL_len m
  refine run_rt ?_
  show B_newest [.dat (dkD m), .no] = _
  unfold B_newest newM
  rw [v_seqN (ρ' := [.dat (dkD m), .dat (.list ((svL m).map svT))]) (by rw [v_sSet, show mCall (F_saves_on) (xDat (mVar 0) xNil) [.dat (dkD m), .no] = _ from h]; rfl)]
  generalize svL m = l at *
  have e1 : m2 oEq (mA oLen (aCons (mVar 1) aNil)) (mC (.int 0)) [.dat (dkD m), .dat (.list (l.map svT))] = some (.bool (decide (l = []))) := by
    have z : mA oLen (aCons (mVar 1) aNil) [.dat (dkD m), .dat (.list (l.map svT))] = _ := len_T (by omega)
    rw [v_m2, z, Option.bind_some, v_C, Option.bind_some, oEq_i]
    congr 2
    cases l with
    | nil => rfl
    | cons a l =>
      rw [decide_eq_false (by simp)]
      exact beq_eq_false_iff_ne.mpr (by rw [List.length_cons]; omega)
  cases e : l.getLast? with
  | none =>
    rw [decide_eq_true (List.getLast?_eq_none_iff.mp e)] at e1
    exact v_seqR (by rw [v_sIf e1]; rfl)
  | some s =>
    rw [decide_eq_false (fun z => by rw [z] at e; cases e)] at e1
    rw [v_seqN (ρ' := [.dat (dkD m), .dat (.list (l.map svT))]) (by rw [v_sIf e1]; rfl), v_sRet, show m2 oIx (mVar 1) (m1 oNeg (mC (.int 1))) [.dat (dkD m), .dat (.list (l.map svT))] = _ from last_T l s e]
    rfl
/-- the newest one that ways lead over -/
def newF (m : Dk) (mk : Nat) : Option Save := ((svL m).filter fun s => decide (s.2.1 ≤ mk)).getLast?
def loadM (m : Dk) (ws : List (List Deed)) : Option (Nat × Mp Int) := (newF m (ws.length + 1)).map fun s => (s.1, overM s.2.2 (ws.drop (s.2.1 - 1)))
def loadD : Option (Nat × Mp Int) → D
  | some (n, b) => .tuple [.int n, bkD b]
  | none => .none
theorem On.sv {s : Save} (h : On m s) : Sv s.1 s.2.1 s.2.2 := by
  obtain ⟨t, _, e⟩ := h
  exact (rdW_sound e).1
theorem filter_last {l : List Save} {c : Save → Bool} {s : Save} (h : (l.filter c).getLast? = some s) : s ∈ l ∧ c s = true := List.mem_filter.mp (List.mem_of_getLast? h)
theorem On.short {s : Save} (h : On m s) (ht : Tl 1000 m) : s.2.2.length ≤ 1000 := by
  obtain ⟨t, e1, e2⟩ := h
  have h1 := ht _ _ e1
  obtain ⟨_, e⟩ := rdW_sound e2
  have : s.2.2.length ≤ (txL (s.2.2.map rowL)).length := by
    have : ∀ rs : List (List Nat), rs.length ≤ (txL rs).length := fun rs => by
      induction rs with
      | nil => exact Nat.le_refl _
      | cons r rs ih =>
        show _ ≤ ((r ++ [10]) ++ txL rs).length
        rw [List.length_append, List.length_append, List.length_cons, List.length_singleton]
        omega
    have := this (s.2.2.map rowL)
    rwa [List.length_map] at this
  have h2 := wrL_size s.1 s.2.1 s.2.2
  have h3 : (bodyL s.1 s.2.1 s.2.2).length = (headL s.1 s.2.1 s.2.2.length ++ [10]).length + (txL (s.2.2.map rowL)).length := by
    show ((headL s.1 s.2.1 s.2.2.length ++ [10]) ++ txL (s.2.2.map rowL)).length = _
    rw [List.length_append]
  rw [e] at h2
  omega
theorem loaded_is {ws : List (List Deed)} (nd : Nd m) (hl : m.length ≤ 1000000) (ht : Tl 1000 m) (hw : WOk ws) : F_loaded [.dat (dkD m), .dat (wyD ws)] = some (loadD (loadM m ws)) := by
  have h := saves_on_is nd hl ht
  have hlen := svL_len m
  have hwl := hw.len
  have hlw : oLen [wyD ws] = some (.int ws.length) := by
    have : ws.length ≤ 16777216 := by omega
    simp [wyD, this]
  refine run_rt ?_
  show B_loaded [.dat (dkD m), .dat (wyD ws), .no, .no, .no, .no, .no] = _
  unfold B_loaded loadM newF
  have e1 : mL (lLc [6] (iD (mCall (F_saves_on) (xDat (mVar 0) xNil))) (gN 6) (m2 oLe (m2 oIx (mVar 6) (mC (.int 1))) (m2 oAdd (mA oLen (aCons (mVar 1) aNil)) (mC (.int 1)))) (mVar 6)) [.dat (dkD m), .dat (wyD ws), .no, .no, .no, .no, .no] = some (.list (((svL m).filter fun s => decide (s.2.1 ≤ ws.length + 1)).map svT)) := by
    have hi : iD (mCall (F_saves_on) (xDat (mVar 0) xNil)) [.dat (dkD m), .dat (wyD ws), .no, .no, .no, .no, .no] = some ((svL m).map svT) := by
      rw [v_iD, show mCall (F_saves_on) (xDat (mVar 0) xNil) [.dat (dkD m), .dat (wyD ws), .no, .no, .no, .no, .no] = _ from h]
      rfl
    rw [v_mL, v_lLc, hi, Option.bind_some, if_pos (by rw [List.length_map, sizeLine_is]; omega), lc_filterT svT svT (fun s => decide (s.2.1 ≤ ws.length + 1)) (svL m) fun s _ => ⟨_, rfl, by
      have z : mA oLen (aCons (mVar 1) aNil) [.dat (dkD m), .dat (wyD ws), .no, .no, .no, .no, .dat (svT s)] = _ := hlw
      show m2 oLe (m2 oIx (mVar 6) (mC (.int 1))) (m2 oAdd (mA oLen (aCons (mVar 1) aNil)) (mC (.int 1))) [.dat (dkD m), .dat (wyD ws), .no, .no, .no, .no, .dat (svT s)] = _
      have z0 : m2 oIx (mVar 6) (mC (.int 1)) [.dat (dkD m), .dat (wyD ws), .no, .no, .no, .no, .dat (svT s)] = some (.int s.2.1) := rfl
      rw [v_m2, z0, Option.bind_some, v_m2, z, Option.bind_some, v_C, Option.bind_some, oAdd_i, Option.bind_some, oLe_i]
      congr 2
      exact decide_eq_decide.mpr (by omega), fun _ => rfl⟩]
    rfl
  rw [v_seqN (ρ' := [.dat (dkD m), .dat (wyD ws), .dat (.list (((svL m).filter fun s => decide (s.2.1 ≤ ws.length + 1)).map svT)), .no, .no, .no, .no]) (by rw [v_sSet, e1]; rfl)]
  have hfl : ((svL m).filter fun s => decide (s.2.1 ≤ ws.length + 1)).length ≤ 1000000 := Nat.le_trans (List.length_filter_le _ _) (by omega)
  have hin : ∀ s, ((svL m).filter fun s => decide (s.2.1 ≤ ws.length + 1)).getLast? = some s → On m s ∧ s.2.1 ≤ ws.length + 1 := fun s hs => by
    obtain ⟨h1, h2⟩ := filter_last hs
    exact ⟨(mem_svL nd).mp h1, of_decide_eq_true h2⟩
  generalize (svL m).filter (fun s => decide (s.2.1 ≤ ws.length + 1)) = l at *
  have e2 : m2 oEq (mA oLen (aCons (mVar 2) aNil)) (mC (.int 0)) [.dat (dkD m), .dat (wyD ws), .dat (.list (l.map svT)), .no, .no, .no, .no] = some (.bool (decide (l = []))) := by
    have z : mA oLen (aCons (mVar 2) aNil) [.dat (dkD m), .dat (wyD ws), .dat (.list (l.map svT)), .no, .no, .no, .no] = _ := len_T hfl
    rw [v_m2, z, Option.bind_some, v_C, Option.bind_some, oEq_i]
    congr 2
    cases l with
    | nil => rfl
    | cons a l =>
      rw [decide_eq_false (by simp)]
      exact beq_eq_false_iff_ne.mpr (by rw [List.length_cons]; omega)
  cases e : l.getLast? with
  | none =>
    rw [decide_eq_true (List.getLast?_eq_none_iff.mp e)] at e2
    exact v_seqR (by rw [v_sIf e2]; rfl)
  | some s =>
    rw [decide_eq_false (fun z => by rw [z] at e; cases e)] at e2
    rw [v_seqN (ρ' := [.dat (dkD m), .dat (wyD ws), .dat (.list (l.map svT)), .no, .no, .no, .no]) (by rw [v_sIf e2]; rfl)]
    have z1 : m2 oIx (mVar 2) (m1 oNeg (mC (.int 1))) [.dat (dkD m), .dat (wyD ws), .dat (.list (l.map svT)), .no, .no, .no, .no] = _ := last_T l s e
    rw [v_seqN (ρ' := [.dat (dkD m), .dat (wyD ws), .dat (.list (l.map svT)), .dat (.int s.1), .dat (.int s.2.1), .dat (bkD s.2.2), .no]) (by rw [v_sAsg, z1]; rfl)]
    obtain ⟨hon, hmk⟩ := hin s e
    have hv := hon.sv
    have hov := over_is (make := (s.2.1 : Int)) hv.bk.rise (by have := hon.short ht; omega) (by have := hv.m1; omega) hw
    rw [Int.toNat_natCast] at hov
    have z2 : mCall (F_led_over) (xDat (mVar 5) (xDat (mVar 4) (xDat (mVar 1) xNil))) [.dat (dkD m), .dat (wyD ws), .dat (.list (l.map svT)), .dat (.int s.1), .dat (.int s.2.1), .dat (bkD s.2.2), .no] = _ := hov
    rw [v_sRet, v_tup, v_aCons, show mVar 3 [.dat (dkD m), .dat (wyD ws), .dat (.list (l.map svT)), .dat (.int s.1), .dat (.int s.2.1), .dat (bkD s.2.2), .no] = some (.int s.1) from rfl, Option.bind_some, v_aCons, z2]
    rfl
end
end Pu

set_option Elab.async false
set_option linter.all false
set_option autoImplicit false
set_option maxRecDepth 100000
/-! drawn disks have short texts; comparing saves -/
namespace Pu
open PySem PySem.Spec PyProof.Rows L2
open SX (S)
open TL (numL)
theorem dkTx_len2 {d : Int} (h : 0 ≤ d) : (dkTx d).length ≤ 200 := by
  have h1 := dkNum_le h
  have h2 := dkMk_le (d := d)
  have h3 := wrL_len2 (n := dkNum d) (mk := dkMk d) (b := dkBk d) (by omega) (by omega) (dkBk_sm d)
  have h4 := dkBk_len d
  have h5 : ((dkBk d).length + 1) * 26 ≤ 6 * 26 := Nat.mul_le_mul_right _ (by omega)
  have h6 : (dkAll d).length ≤ 200 := by unfold dkAll; omega
  unfold dkTx
  split
  · rw [List.length_take]
    omega
  · exact h6
theorem dkN_tl2 (n : Int) : Tl 200 (dkN n) := fun k v h => by
  obtain ⟨d, hd, _, rfl⟩ := dkN_from h
  exact dkTx_len2 hd
theorem Tl.mono {a b : Nat} {m : Dk} (h : Tl a m) (l : a ≤ b) : Tl b m := fun k v e => Nat.le_trans (h k v e) l
theorem pl_svT (s : Save) : Pl 4 (svT s) := pl_tup fun x hx => by
  simp only [List.mem_cons, List.not_mem_nil, or_false] at hx
  rcases hx with rfl | rfl | rfl
  · exact pl_int _ _
  · exact pl_int _ _
  · exact pl_bk _
theorem pl_opt (o : Option Save) : Pl 4 (optT o) := by
  cases o with
  | none => exact pl_none 4
  | some s => exact pl_svT s
@[simp] theorem opt_ne (o : Option Save) : oNe (optT o) (optT o) = some (.bool false) := ((pl_opt o).mono (by decide)).ne
@[simp] theorem opt_eq (o : Option Save) : oEq (optT o) (optT o) = some (.bool true) := ((pl_opt o).mono (by decide)).eq
theorem pl_load (o : Option (Nat × Mp Int)) : Pl 4 (loadD o) := by
  cases o with
  | none => exact pl_none 4
  | some s =>
    refine pl_tup fun x hx => ?_
    simp only [List.mem_cons, List.not_mem_nil, or_false] at hx
    rcases hx with rfl | rfl
    · exact pl_int _ _
    · exact pl_bk _
@[simp] theorem load_ne (o : Option (Nat × Mp Int)) : oNe (loadD o) (loadD o) = some (.bool false) := ((pl_load o).mono (by decide)).ne
@[simp] theorem load_eq (o : Option (Nat × Mp Int)) : oEq (loadD o) (loadD o) = some (.bool true) := ((pl_load o).mono (by decide)).eq
theorem pl_ints {n : Nat} (l : List Int) : ∀ x ∈ l.map PyData.int, Pl n x := fun x hx => by
  obtain ⟨k, _, rfl⟩ := List.mem_map.mp hx
  exact pl_int n k
theorem pl_self_ne {n : Nat} {d : D} (h : Pl n d) (hn : n ≤ 60) : oNe d d = some (.bool false) := (h.mono hn).ne
theorem max2_is (i j : Int) : oMax2 [.int i, .int j] = some (.int (if i < j then j else i)) := rfl
end Pu

set_option Elab.async false
set_option linter.all false
set_option autoImplicit false
set_option maxRecDepth 100000
/-! what a save's steps do to a disk -/
namespace Pu
open PySem PySem.Spec PyProof.Rows L2
open SX (S)
open TL (numL)
abbrev FD := Fm (List Nat)
def NEW : Str := "new"
theorem new_S : NEW = S [110, 101, 119] := by decide +kernel
theorem nm_new (n : Nat) : nmL n ≠ NEW := fun z => by
  rw [new_S] at z
  have := SX.S_inj z
  injection this with h
  cases h
theorem fput_twice {f : FD} {k : Str} {a b : List Nat} : fput (fput f k a) k b = fput f k b := by
  funext j
  unfold fput
  split <;> rfl
theorem fput_at {f : FD} {k : Str} {a : List Nat} : fput f k a k = some a := if_pos rfl
theorem fput_ne {f : FD} {k j : Str} {a : List Nat} (h : j ≠ k) : fput f k a j = f j := if_neg h
theorem fdel_at {f : FD} {k : Str} : fdel f k k = none := if_pos rfl
theorem fdel_ne {f : FD} {k j : Str} (h : j ≠ k) : fdel f k j = f j := if_neg h
def putOf (r : List Nat) : Stp := .put NEW (r ++ [10])
theorem st_put {f : FD} {acc r : List Nat} : stF (fput f NEW acc) (putOf r) = fput f NEW (acc ++ (r ++ [10])) := by
  show (match fput f NEW acc NEW with | some v => fput (fput f NEW acc) NEW (v ++ (r ++ [10])) | none => fput f NEW acc) = _
  rw [fput_at]
  exact fput_twice
theorem st_puts (f : FD) : ∀ (rs : List (List Nat)) (acc : List Nat), (rs.map putOf).foldl stF (fput f NEW acc) = fput f NEW (acc ++ txL rs)
  | [], acc => by
    show fput f NEW acc = fput f NEW (acc ++ [])
    rw [List.append_nil]
  | r :: rs, acc => by
    rw [List.map_cons, List.foldl_cons, st_put, st_puts f rs, List.append_assoc]
    rfl
theorem st_begin (f : FD) : stF f (.begin NEW) = fput f NEW [] := rfl
theorem st_move {f : FD} {n : Nat} {t : List Nat} : stF (fput f NEW t) (.move NEW (nmL n)) = fput (fdel f NEW) (nmL n) t := by
  show (match fput f NEW t NEW with | some v => fput (fdel (fput f NEW t) NEW) (nmL n) v | none => fput f NEW t) = _
  rw [fput_at]
  funext j
  unfold fput fdel
  simp only
  split
  · rfl
  · split <;> rfl
theorem st_drops : ∀ (l : List Int) (f : FD) (k : Str), (dropsT l).foldl stF f k = if (∃ z ∈ l, nmL z.toNat = k) then none else f k
  | [], f, k => by
    rw [if_neg (fun ⟨_, h, _⟩ => nomatch h)]
    rfl
  | z :: l, f, k => by
    show (dropsT l).foldl stF (fdel f (nmL z.toNat)) k = _
    rw [st_drops l]
    by_cases h : ∃ z ∈ l, nmL z.toNat = k
    · obtain ⟨x, hx, e⟩ := h
      rw [if_pos ⟨x, hx, e⟩, if_pos ⟨x, List.mem_cons_of_mem _ hx, e⟩]
    · rw [if_neg h]
      by_cases hk : k = nmL z.toNat
      · rw [if_pos ⟨z, List.mem_cons_self, hk.symm⟩, hk]
        exact fdel_at
      · rw [if_neg (fun ⟨x, hx, e⟩ => (List.mem_cons.mp hx).elim (fun q => hk (by rw [← e, q])) fun q => h ⟨x, q, e⟩)]
        exact fdel_ne hk
theorem tx_app (a b : List (List Nat)) : txL (a ++ b) = txL a ++ txL b := by
  unfold txL
  rw [List.map_append, List.flatten_append]
theorem wr_tx (n mk : Nat) (b : Mp Int) : txL (rowsL n mk b ++ [endL (bodyL n mk b)]) = wrL n mk b := by
  rw [tx_app]
  show bodyL n mk b ++ ((endL (bodyL n mk b) ++ [10]) ++ []) = _
  rw [List.append_nil]
  rfl
theorem steps_parts (m : Dk) (n mk : Nat) (b : Mp Int) (many : Nat) : stepsT m n mk b many = (Stp.begin NEW :: (rowsL n mk b ++ [endL (bodyL n mk b)]).map putOf) ++ (Stp.move NEW (nmL n) :: dropsT ((numsT m n).take ((numsT m n).length - many))) := by
  show ((Stp.begin NEW :: (rowsL n mk b ++ [endL (bodyL n mk b)]).map putOf) ++ [Stp.move NEW (nmL n)]) ++ _ = _
  rw [List.append_assoc]
  rfl
/-- behind the step that moves it -/
def aftF (f : FD) (n mk : Nat) (b : Mp Int) : FD := fput (fdel f NEW) (nmL n) (wrL n mk b)
theorem st_up (f : FD) (n mk : Nat) (b : Mp Int) : ((Stp.begin NEW :: (rowsL n mk b ++ [endL (bodyL n mk b)]).map putOf) ++ [Stp.move NEW (nmL n)]).foldl stF f = aftF f n mk b := by
  rw [List.foldl_append]
  have h : ∀ l : List Stp, (Stp.begin NEW :: l).foldl stF f = l.foldl stF (fput f NEW []) := fun l => rfl
  have h2 : ∀ (g : FD) (x : Stp), [x].foldl stF g = stF g x := fun _ _ => rfl
  rw [h, h2, st_puts, List.nil_append, wr_tx, st_move]
  rfl
theorem st_all (m : Dk) (f : FD) (n mk : Nat) (b : Mp Int) (many : Nat) (k : Str) : (stepsT m n mk b many).foldl stF f k = if (∃ z ∈ (numsT m n).take ((numsT m n).length - many), nmL z.toNat = k) then none else aftF f n mk b k := by
  rw [steps_parts, show ∀ (a : List Stp) (x : Stp) (c : List Stp), a ++ x :: c = (a ++ [x]) ++ c from fun a x c => by simp, List.foldl_append, st_up, st_drops]
/-! ### saves there -/
def OnF (f : FD) (s : Save) : Prop := ∃ t, f (nmL s.1) = some t ∧ rdW t = some s
theorem on_iff {m : Dk} {s : Save} : On m s ↔ OnF (val m) s := Iff.rfl
theorem onF_put {f : FD} {t : List Nat} {s : Save} : OnF (fput f NEW t) s ↔ OnF f s := by
  unfold OnF
  rw [fput_ne (nm_new s.1)]
theorem onF_aft {f : FD} {n mk : Nat} {b : Mp Int} (v : Sv n mk b) {s : Save} : OnF (aftF f n mk b) s ↔ s = (n, mk, b) ∨ (s.1 ≠ n ∧ OnF f s) := by
  unfold OnF aftF
  by_cases h : s.1 = n
  · rw [h, fput_at]
    constructor
    · rintro ⟨t, e, r⟩
      cases e
      rw [rdW_wr v] at r
      exact .inl (Option.some.inj r).symm
    · rintro (e | e)
      · rw [e]
        exact ⟨_, rfl, rdW_wr v⟩
      · exact absurd rfl e.1
  · have hk : nmL s.1 ≠ nmL n := fun z => h (nmL_inj z)
    rw [fput_ne hk, fdel_ne (nm_new s.1)]
    constructor
    · exact fun z => .inr ⟨h, z⟩
    · rintro (e | e)
      · rw [e] at h
        exact absurd rfl h
      · exact e.2
/-! ### numbers there -/
theorem numOf_mem {s : Str} {z : Nat} (hz : 1 ≤ z) (hz9 : z ≤ 9999) : numOf s = z ↔ s = nmL z := by
  constructor
  · intro h
    have := (numOf_pos (s := s) (by omega)).1
    rw [h] at this
    exact this
  · intro h
    rw [h]
    exact numOf_nm hz9
theorem mem_nsOn {m : Dk} {z : Int} : z ∈ nsOn m ↔ 1 ≤ z ∧ z ≤ 9999 ∧ (val m (nmL z.toNat)).isSome = true := by
  unfold nsOn
  rw [List.mem_filter, List.mem_map]
  constructor
  · rintro ⟨⟨p, hp, e⟩, h⟩
    have h : 0 < z := of_decide_eq_true h
    have h9 := numOf_le p.1
    refine ⟨by omega, by omega, ?_⟩
    have hs : p.1 = nmL z.toNat := by
      have := (numOf_pos (s := p.1) (by omega)).1
      rw [this]
      congr 1
      omega
    cases e2 : val m (nmL z.toNat) with
    | some _ => rfl
    | none =>
      rw [val_none_iff] at e2
      exact absurd (List.mem_map.mpr ⟨p, hp, hs⟩) e2
  · rintro ⟨h1, h2, h3⟩
    obtain ⟨t, e⟩ := Option.isSome_iff_exists.mp h3
    refine ⟨⟨(nmL z.toNat, t), mem_of_val e, ?_⟩, decide_eq_true (by omega)⟩
    rw [numOf_nm (by omega)]
    omega
theorem nsOn_nodup : ∀ {m : Dk}, Nd m → (nsOn m).Nodup
  | [], _ => List.nodup_nil
  | (k, t) :: m, nd => by
    have h := nd_cons.mp nd
    have ih := nsOn_nodup h.2
    unfold nsOn at ih ⊢
    rw [List.map_cons, List.filter_cons]
    split
    · rename_i hp
      have hp : (0 : Int) < (numOf k : Int) := of_decide_eq_true hp
      rw [List.nodup_cons]
      refine ⟨fun hm => ?_, ih⟩
      have := (mem_nsOn (m := m)).mp hm
      have hk := (numOf_pos (s := k) (by omega)).1
      rw [Int.toNat_natCast, ← hk, show val m k = none from h.1] at this
      cases this.2.2
    · exact ih
theorem srtI_rise {l : List Int} (h : l.Nodup) : (srtI l).Pairwise (· < ·) := by
  have h1 : (srtI l).Pairwise fun a b => decide (a ≤ b) = true := List.pairwise_mergeSort (fun a b c h1 h2 => by simp only [decide_eq_true_eq] at *; omega) (fun a b => by simp only [Bool.or_eq_true, decide_eq_true_eq]; omega) l
  have h2 : (srtI l).Pairwise (· ≠ ·) := (List.mergeSort_perm l _).nodup_iff.mpr h
  exact (h1.and h2).imp fun {a b} h => by
    have h3 : a ≤ b := of_decide_eq_true h.1
    have h4 := h.2
    omega
theorem srt_sset {l : List Int} (h : l.Nodup) : srtI l = ssetI l := rise_ext (srtI_rise h) (ssetI_rise l) fun z => by rw [mem_srtI, mem_ssetI]
theorem mem_numsT {m : Dk} {n : Nat} {z : Int} : z ∈ numsT m n ↔ z ∈ nsOn m ∨ z = n := by
  unfold numsT
  rw [mem_ssetI, List.mem_append, List.mem_singleton]
theorem numsT_rise (m : Dk) (n : Nat) : (numsT m n).Pairwise (· < ·) := ssetI_rise _
theorem take_drop_apart {l : List Int} (h : l.Pairwise (· < ·)) {i : Nat} {z : Int} (h1 : z ∈ l.take i) (h2 : z ∈ l.drop i) : False := by
  have h := h
  rw [← List.take_append_drop i l] at h
  have := (List.pairwise_append.mp h).2.2 z h1 z h2
  omega
/-- the numbers behind all steps -/
theorem nums_after {m m' : Dk} {n mk : Nat} {b : Mp Int} {many : Nat} (nd' : Nd m') (hn : 1 ≤ n) (hn9 : n ≤ 9999) (e : val m' = (stepsT m n mk b many).foldl stF (val m)) : srtI (nsOn m') = (numsT m n).drop ((numsT m n).length - many) := by
  refine rise_ext (srtI_rise (nsOn_nodup nd')) ((numsT_rise m n).sublist (List.drop_sublist _ _)) fun z => ?_
  rw [mem_srtI, mem_nsOn]
  have hin := numsT_in (m := m) hn hn9
  have hval : ∀ z : Int, 1 ≤ z → z ≤ 9999 → ((val m' (nmL z.toNat)).isSome = true ↔ z ∉ (numsT m n).take ((numsT m n).length - many) ∧ z ∈ numsT m n) := fun z h1 h2 => by
    rw [e, st_all]
    by_cases hd : z ∈ (numsT m n).take ((numsT m n).length - many)
    · rw [if_pos ⟨z, hd, rfl⟩]
      exact ⟨fun q => (nomatch q), fun q => absurd hd q.1⟩
    · rw [if_neg (fun ⟨x, hx, ex⟩ => hd (by
        have := nmL_inj ex
        have hx1 := hin x (List.mem_of_mem_take hx)
        have : x = z := by omega
        rw [← this]
        exact hx))]
      unfold aftF
      by_cases hz : z = n
      · rw [hz, Int.toNat_natCast, fput_at]
        exact ⟨fun _ => ⟨by rw [← hz]; exact hd, mem_numsT.mpr (.inr rfl)⟩, fun _ => rfl⟩
      · have hne : nmL z.toNat ≠ nmL n := fun q => hz (by have := nmL_inj q; omega)
        rw [fput_ne hne, fdel_ne (nm_new _)]
        constructor
        · exact fun q => ⟨hd, mem_numsT.mpr (.inl (mem_nsOn.mpr ⟨h1, h2, q⟩))⟩
        · rintro ⟨_, q⟩
          rcases mem_numsT.mp q with q | q
          · exact (mem_nsOn.mp q).2.2
          · exact absurd q hz
  constructor
  · rintro ⟨h1, h2, h3⟩
    obtain ⟨h4, h5⟩ := (hval z h1 h2).mp h3
    rw [← List.take_append_drop ((numsT m n).length - many) (numsT m n)] at h5
    exact (List.mem_append.mp h5).resolve_left h4
  · intro h
    have h0 := hin z (List.mem_of_mem_drop h)
    exact ⟨h0.1, h0.2, (hval z h0.1 h0.2).mpr ⟨fun q => take_drop_apart (numsT_rise m n) q h, List.mem_of_mem_drop h⟩⟩
/-- the last one is not dropped -/
theorem top_kept {l : List Int} (h : l.Pairwise (· < ·)) {n : Int} (hn : n ∈ l) (hm : ∀ z ∈ l, z ≤ n) {many : Nat} (hmany : 1 ≤ many) : n ∉ l.take (l.length - many) := fun hd => by
  have hne : l.drop (l.length - many) ≠ [] := fun q => by
    have := congrArg List.length q
    rw [List.length_drop, List.length_nil] at this
    cases l with
    | nil => cases hn
    | cons a l =>
      rw [List.length_cons] at this
      omega
  obtain ⟨x, hx⟩ := List.exists_mem_of_ne_nil _ hne
  have h2 := h
  rw [← List.take_append_drop (l.length - many) l] at h2
  have := (List.pairwise_append.mp h2).2.2 n hd x hx
  have := hm x (List.mem_of_mem_drop hx)
  omega
end Pu

set_option Elab.async false
set_option linter.all false
set_option autoImplicit false
set_option maxRecDepth 100000
/-! loops and comprehensions in parts -/
namespace Pu
open PySem PySem.Spec PyProof.Rows L2
open SX (S)
open TL (numL)
theorem lc_app {m : MirG} {tt te : Mir} {ρ : Rho} : ∀ {xs ys a b : List D}, lcGo m tt te ρ xs = some a → lcGo m tt te ρ ys = some b → lcGo m tt te ρ (xs ++ ys) = some (a ++ b)
  | [], ys, a, b, h, h' => by
    cases h
    exact h'
  | x :: xs, ys, a, b, h, h' => by
    show lcGo m tt te ρ (x :: (xs ++ ys)) = _
    rw [lcGo] at h ⊢
    obtain ⟨ρ1, e1, e2⟩ := bind_some h
    rw [e1, Option.bind_some]
    cases q : tt ρ1 with
    | none =>
      rw [q] at e2
      cases e2
    | some d =>
      rw [q] at e2
      cases d <;> try (cases e2; done)
      rename_i c
      cases c
      · exact lc_app e2 h'
      · obtain ⟨y, e3, e4⟩ := bind_some (show ((te ρ1).bind fun y => (lcGo m tt te ρ xs).map fun r => y :: r) = some a from e2)
        obtain ⟨r, e5, rfl⟩ := map_some e4
        show ((te ρ1).bind fun y => (lcGo m tt te ρ (xs ++ ys)).map fun r => y :: r) = _
        rw [e3, lc_app e5 h']
        rfl
theorem en_app : ∀ (xs ys : List D) (i : Nat), enD i (xs ++ ys) = enD i xs ++ enD (i + xs.length) ys
  | [], ys, i => rfl
  | x :: xs, ys, i => by
    show (_ :: enD (i + 1) (xs ++ ys)) = (_ :: enD (i + 1) xs) ++ _
    rw [en_app xs ys (i + 1), List.length_cons, List.cons_append, show i + 1 + xs.length = i + (xs.length + 1) by omega]
theorem max1_is {l : List Int} (h : 0 < l.length) : oMax1 [.list (l.map .int)] = some (.int (maxI l)) := by
  show ((allD intD (l.map .int)).bind fun ns => if 0 < ns.length then some (PyData.int (maxI ns)) else none) = _
  rw [allD_map (f := intD) (g := PyData.int) (fun a => rfl), Option.bind_some, if_pos h]
theorem filter_is {m : Dk} {ρ : Rho} {vs : List Nat} {fi : MirI} {g : MirG} {tt te : Mir} {c : Str × List Nat → Bool} (hi : fi ρ = some (itM emT m)) (hl : m.length ≤ 1000000) (h : ∀ p ∈ m, ∃ ρ1, g (prD emT p) (wipeR ρ vs) = some ρ1 ∧ tt ρ1 = some (.bool (c p)) ∧ te ρ1 = some (prD emT p)) :
    mL (lLc vs fi g tt te) ρ = some (.list (itM emT (m.filter c))) := by
  rw [v_mL, v_lLc, hi, Option.bind_some, if_pos (by rw [itM_len, sizeLine_is]; omega)]
  unfold itM
  rw [lc_filterT (prD emT) (prD emT) c m fun p hp => by
    obtain ⟨ρ1, h1, h2, h3⟩ := h p hp
    exact ⟨ρ1, h1, h2, fun _ => h3⟩]
  rfl
theorem nums_is {m : Dk} {ρ : Rho} {vs : List Nat} {fi : MirI} {g : MirG} {tt te : Mir} (hi : fi ρ = some (itM emT m)) (hl : m.length ≤ 1000000) (h : ∀ p ∈ m, ∃ ρ1, g (prD emT p) (wipeR ρ vs) = some ρ1 ∧ tt ρ1 = some (.bool (decide (0 < (numOf p.1 : Int)))) ∧ te ρ1 = some (.int (numOf p.1))) :
    mA oSorted (aCons (mL (lLc vs fi g tt te)) aNil) ρ = some (.list ((srtI (nsOn m)).map .int)) := by
  have e : mL (lLc vs fi g tt te) ρ = some (.list ((nsOn m).map .int)) := by
    rw [v_mL, v_lLc, hi, Option.bind_some, if_pos (by rw [itM_len, sizeLine_is]; omega)]
    unfold itM
    rw [lc_filterT (prD emT) (fun p => PyData.int (numOf p.1)) (fun p => decide (0 < (numOf p.1 : Int))) m fun p hp => by
      obtain ⟨ρ1, h1, h2, h3⟩ := h p hp
      exact ⟨ρ1, h1, h2, fun _ => h3⟩]
    unfold nsOn
    rw [List.filter_map, List.map_map]
    rfl
  rw [v_mA, v_aCons, e, Option.bind_some, v_aNil, Option.bind_some, Option.bind_some]
  exact sorted_ints_is (by have := nsOn_len m; omega)
theorem del_filter (m : Dk) (k : Str) : (m.filter fun p => !decide (p.1 = k)) = del m k := by
  unfold del
  congr 1
  funext p
  by_cases h : p.1 = k <;> simp [h]
theorem filter_rise {α : Type} {m : Mp α} {c : Str × α → Bool} (h : Rise m) : Rise (m.filter c) := List.Pairwise.sublist List.filter_sublist h
theorem numOf_new : numOf NEW = 0 := by
  by_cases h : numOf NEW = 0
  · exact h
  · exact absurd (numOf_pos (s := NEW) (by omega)).1.symm (nm_new _)
/-- a number greater than all that are there stands behind them -/
theorem nums_snoc {m : Dk} {n : Nat} (nd : Nd m) (h : ∀ z ∈ nsOn m, z < n) : numsT m n = srtI (nsOn m) ++ [(n : Int)] := by
  refine rise_ext (numsT_rise m n) ?_ fun z => ?_
  · refine List.pairwise_append.mpr ⟨srtI_rise (nsOn_nodup nd), List.pairwise_singleton _ _, fun a ha b hb => ?_⟩
    rw [List.mem_singleton.mp hb]
    exact h a ((mem_srtI _ _).mp ha)
  · rw [mem_numsT, List.mem_append, mem_srtI, List.mem_singleton]
theorem stepsT_len (m : Dk) (n mk : Nat) (b : Mp Int) (many : Nat) : (stepsT m n mk b many).length ≤ b.length + m.length + 6 := by
  have := numsT_len m n
  rw [steps_parts]
  simp only [List.length_append, List.length_cons, List.length_map, dropsT, List.length_take, List.length_nil, rowsL_len]
  omega
theorem stepsT_tl {m : Dk} {n mk : Nat} {b : Mp Int} {many : Nat} (h1 : n < 1000000) (h2 : mk < 1000000) (hsm : Sm b) : ∀ d ∈ stepsT m n mk b many, d.tl 100 := fun d hd => by
  rw [steps_parts] at hd
  rcases List.mem_append.mp hd with hd | hd
  · rcases List.mem_cons.mp hd with hd | hd
    · rw [hd]
      trivial
    · obtain ⟨r, hr, rfl⟩ := List.mem_map.mp hd
      have := puts_each (n := n) (mk := mk) h1 h2 hsm r hr
      show (r ++ [10]).length ≤ 100
      rw [List.length_append, List.length_singleton]
      omega
  · rcases List.mem_cons.mp hd with hd | hd
    · rw [hd]
      trivial
    · obtain ⟨z, _, rfl⟩ := List.mem_map.mp hd
      trivial
end Pu

set_option Elab.async false
set_option linter.all false
set_option autoImplicit false
set_option maxRecDepth 100000
/-! saved again and again -/
namespace Pu
open PySem PySem.Spec PyProof.Rows L2
open SX (S)
open TL (numL)
/-- the last few -/
def lastFew {α : Type} (l : List α) (many : Nat) : List α := l.drop (l.length - many)
theorem few_len {α : Type} (l : List α) (many : Nat) : (lastFew l many).length = min l.length many := by
  unfold lastFew
  rw [List.length_drop]
  omega
theorem few_map {α β : Type} (f : α → β) (l : List α) (many : Nat) : lastFew (l.map f) many = (lastFew l many).map f := by
  unfold lastFew
  rw [List.length_map, List.map_drop]
theorem few_snoc {α : Type} {l : List α} {x y : α} {many : Nat} (h : y ∈ lastFew (l ++ [x]) many) : y = x ∨ y ∈ lastFew l many := by
  unfold lastFew at *
  rw [List.length_append, List.length_singleton] at h
  by_cases hm : l.length + 1 - many ≤ l.length
  · rw [List.drop_append_of_le_length hm] at h
    rcases List.mem_append.mp h with h | h
    · refine .inr ?_
      have : l.drop (l.length + 1 - many) = (l.drop (l.length - many)).drop (l.length + 1 - many - (l.length - many)) := by
        rw [List.drop_drop]
        congr 1
        omega
      rw [this] at h
      exact List.mem_of_mem_drop h
    · exact .inl (List.mem_singleton.mp h)
  · have : l.length + 1 - many ≥ (l ++ [x]).length := by
      rw [List.length_append, List.length_singleton]
      omega
    rw [List.drop_of_length_le this] at h
    cases h
theorem few_at {α : Type} {l : List α} {y : α} {many : Nat} (h : y ∈ lastFew l many) : ∃ i, l[i]? = some y ∧ l.length ≤ i + many ∧ i < l.length := by
  unfold lastFew at h
  obtain ⟨j, hj⟩ := List.mem_iff_getElem?.mp h
  rw [List.getElem?_drop] at hj
  refine ⟨_, hj, by omega, (List.getElem?_eq_some_iff.mp hj).1⟩
theorem cut_few (xs : List D) {many : Nat} (h : 1 ≤ many) : cutD xs (some (-(many : Int))) none = lastFew xs many := by
  unfold cutD lastFew
  have e1 : HT.sIx xs.length 0 (some (-(many : Int))) = xs.length - many := by
    unfold HT.sIx
    simp only
    split <;> omega
  rw [e1, HT.sIx_none]
  exact List.take_of_length_le (by rw [List.length_drop]; omega)
/-! ### rising numbers -/
theorem rise_room : ∀ {l : List Int} {a b : Int}, l.Pairwise (· < ·) → (∀ z ∈ l, a < z ∧ z ≤ b) → l.length ≤ (b - a).toNat
  | [], _, _, _, _ => Nat.zero_le _
  | x :: l, a, b, h, hin => by
    obtain ⟨p1, p2⟩ := List.pairwise_cons.mp h
    have hx := hin x List.mem_cons_self
    have := rise_room (a := x) (b := b) p2 fun z hz => ⟨p1 z hz, (hin z (List.mem_cons_of_mem _ hz)).2⟩
    rw [List.length_cons]
    omega
def upTo (a : Int) : Nat → List Int
  | 0 => []
  | n + 1 => a :: upTo (a + 1) n
theorem mem_upTo {z : Int} : ∀ {n : Nat} {a : Int}, z ∈ upTo a n ↔ a ≤ z ∧ z < a + n
  | 0, a => by
    unfold upTo
    constructor
    · intro h
      cases h
    · intro h
      omega
  | n + 1, a => by
    unfold upTo
    rw [List.mem_cons, mem_upTo (n := n)]
    omega
theorem upTo_rise : ∀ {n : Nat} {a : Int}, (upTo a n).Pairwise (· < ·)
  | 0, _ => List.Pairwise.nil
  | n + 1, a => List.pairwise_cons.mpr ⟨fun z hz => by have := mem_upTo.mp hz; omega, upTo_rise⟩
theorem upTo_len : ∀ {n : Nat} {a : Int}, (upTo a n).length = n
  | 0, _ => rfl
  | n + 1, a => by
    unfold upTo
    rw [List.length_cons, upTo_len]
/-- a rising list up to b that has the last t has them at its end -/
theorem rise_end {l : List Int} {b : Int} {t : Nat} (h : l.Pairwise (· < ·)) (hb : ∀ z ∈ l, z < b) (ht : ∀ z, b - t ≤ z → z < b → z ∈ l) : lastFew l t = upTo (b - t) t := by
  have h1 : l = l.filter (fun z => decide (z < b - t)) ++ upTo (b - t) t := by
    refine rise_ext h ?_ fun z => ?_
    · refine List.pairwise_append.mpr ⟨h.sublist List.filter_sublist, upTo_rise, fun x hx y hy => ?_⟩
      have h1 := of_decide_eq_true (List.mem_filter.mp hx).2
      have h2 := mem_upTo.mp hy
      omega
    · rw [List.mem_append, List.mem_filter, mem_upTo]
      constructor
      · intro hz
        have := hb z hz
        by_cases hz2 : z < b - t
        · exact .inl ⟨hz, decide_eq_true hz2⟩
        · exact .inr ⟨by omega, by omega⟩
      · rintro (hz | hz)
        · exact hz.1
        · exact ht z hz.1 (by omega)
  unfold lastFew
  rw [h1, List.length_append, upTo_len, Nat.add_sub_cancel, List.drop_left]
/-- one of the last is not dropped -/
theorem few_kept {l : List Int} (h : l.Pairwise (· < ·)) {n z : Int} (hz : z ∈ l) (hn : ∀ x ∈ l, x ≤ n) {many : Nat} (hm : n - z < many) : z ∉ l.take (l.length - many) := fun hd => by
  have h2 := h
  rw [← List.take_append_drop (l.length - many) l] at h2
  have hap := List.pairwise_append.mp h2
  have hlen := rise_room (l := l.drop (l.length - many)) (a := z) (b := n) hap.2.1 fun x hx => ⟨hap.2.2 z hd x hx, hn x (List.mem_of_mem_drop hx)⟩
  rw [List.length_drop] at hlen
  have hne : 0 < l.length - many := by
    cases hq : l.length - many with
    | zero =>
      rw [hq, List.take_zero] at hd
      cases hd
    | succ k => omega
  have := hn z hz
  omega
/-! ### sizes by keys -/
theorem nodup_le {α : Type} [DecidableEq α] : ∀ {l l' : List α}, l.Nodup → (∀ x ∈ l, x ∈ l') → l.length ≤ l'.length
  | [], _, _, _ => Nat.zero_le _
  | a :: l, l', h, hs => by
    obtain ⟨h1, h2⟩ := List.nodup_cons.mp h
    have ha := hs a List.mem_cons_self
    have := nodup_le (l := l) (l' := l'.erase a) h2 fun x hx => (List.mem_erase_of_ne (fun z : x = a => h1 (by rw [← z]; exact hx))).mpr (hs x (List.mem_cons_of_mem _ hx))
    rw [List.length_erase_of_mem ha] at this
    have hp := List.length_pos_of_mem ha
    rw [List.length_cons]
    omega
theorem mem_keys {α : Type} {m : Mp α} {k : Str} : k ∈ m.map (·.1) ↔ (val m k).isSome = true := by
  cases h : val m k with
  | none => exact ⟨fun z => absurd z (val_none_iff.mp h), fun z => nomatch z⟩
  | some v => exact ⟨fun _ => rfl, fun _ => List.mem_map.mpr ⟨(k, v), mem_of_val h, rfl⟩⟩
theorem len_le_keys {m : Dk} {ks : List Str} (nd : Nd m) (h : ∀ k, (val m k).isSome = true → k ∈ ks) : m.length ≤ ks.length := by
  have := nodup_le (l := m.map (fun p : Str × List Nat => p.1)) (l' := ks) nd fun k hk => h k (mem_keys.mp hk)
  rwa [List.length_map] at this
theorem len_eq_keys {m m' : Dk} (nd : Nd m) (nd' : Nd m') (h : ∀ k, (val m k).isSome = (val m' k).isSome) : m.length = m'.length := by
  have h1 := len_le_keys (ks := m'.map (·.1)) nd fun k hk => mem_keys.mpr (by rw [← h k]; exact hk)
  have h2 := len_le_keys (ks := m.map (·.1)) nd' fun k hk => mem_keys.mpr (by rw [h k]; exact hk)
  rw [List.length_map] at h1 h2
  omega
/-! ### one save on a disk -/
structure Nice (m : Dk) : Prop where
  rise : Rise m
  kl : Kl m
  tl : Tl 600 m
  len : m.length ≤ 60
section
variable {m : Dk} {n mk : Nat} {b : Mp Int} {many : Nat}
def savM (m : Dk) (n mk : Nat) (b : Mp Int) (many : Nat) : Dk := doneM m (stepsT m n mk b many)
theorem savM_rise (h : Rise m) : Rise (savM m n mk b many) := doneM_rise h.nd _
theorem savM_val (h : Rise m) (k : Str) : val (savM m n mk b many) k = if (∃ z ∈ (numsT m n).take ((numsT m n).length - many), nmL z.toNat = k) then none else aftF (val m) n mk b k := by
  unfold savM
  rw [doneM_val h.nd, st_all]
theorem savM_kl (h : Rise m) (hk : Kl m) (hn : n ≤ 9999) : Kl (savM m n mk b many) := fun p hp => by
  have e := val_of_mem (savM_rise h).nd hp
  rw [savM_val h] at e
  split at e
  · cases e
  · unfold aftF fput at e
    split at e
    · rename_i he
      rw [he]
      have := nmL_len hn
      omega
    · unfold fdel at e
      split at e
      · cases e
      · exact hk p (mem_of_val e)
theorem savM_tl (h : Rise m) {a : Nat} (ht : Tl a m) (hw : (wrL n mk b).length ≤ a) : Tl a (savM m n mk b many) := fun k v e => by
  rw [savM_val h] at e
  split at e
  · cases e
  · unfold aftF fput at e
    split at e
    · cases e
      exact hw
    · unfold fdel at e
      split at e
      · cases e
      · exact ht k v e
theorem savM_len (h : Rise m) : (savM m n mk b many).length ≤ m.length + 1 := by
  have := len_le_keys (m := savM m n mk b many) (ks := nmL n :: m.map (·.1)) (savM_rise h).nd fun k hk => by
    rw [savM_val h] at hk
    split at hk
    · cases hk
    · unfold aftF fput at hk
      split at hk
      · rename_i he
        rw [he]
        exact List.mem_cons_self
      · unfold fdel at hk
        split at hk
        · cases hk
        · exact List.mem_cons_of_mem _ (mem_keys.mpr hk)
  rwa [List.length_cons, List.length_map] at this
theorem wrL_600 (v : Sv n mk b) (hb : b.length ≤ 20) : (wrL n mk b).length ≤ 600 := by
  have h9 := v.n9
  have m9 := v.m9
  have := wrL_len2 (n := n) (mk := mk) (by omega) (by omega) (v.bk.sm (by omega))
  have : (b.length + 1) * 26 ≤ 21 * 26 := Nat.mul_le_mul_right _ (by omega)
  omega
theorem savM_is (h : Nice m) (v : Sv n mk b) (hb : b.length ≤ 20) : F_steps_for [.dat (dkD m), .dat (svD n mk b), .dat (.int many)] = some (stD (stepsT m n mk b many)) ∧ F_done [.dat (dkD m), .dat (stD (stepsT m n mk b many))] = some (dkD (savM m n mk b many)) := by
  have h9 := v.n9
  have m9 := v.m9
  have hsm := v.bk.sm (by omega)
  have hsl := stepsT_len m n mk b many
  have hml := h.len
  exact ⟨steps_is h.len h.kl v.n1 v.n9 (by omega) hsm v.bk.keys, done_is (n := 600) (a := 100) h.rise.nd (by omega) h.tl (stepsT_tl (by omega) (by omega) hsm) (by omega)⟩
theorem savM_nums (h : Rise m) (v : Sv n mk b) : srtI (nsOn (savM m n mk b many)) = (numsT m n).drop ((numsT m n).length - many) := nums_after (mk := mk) (b := b) (savM_rise h).nd v.n1 v.n9 (by unfold savM; exact doneM_val h.nd _)
/-- the greatest is on it -/
theorem savM_top (h : Rise m) (v : Sv n mk b) (hm : 1 ≤ many) (hgt : ∀ z ∈ nsOn m, z ≤ n) : newM (savM m n mk b many) = some (n, mk, b) := by
  have hin := numsT_in (m := m) v.n1 v.n9
  refine newM_is (savM_rise h).nd ⟨wrL n mk b, ?_, rdW_wr v⟩ fun s' hs => ?_
  · show val (savM m n mk b many) (nmL n) = _
    rw [savM_val h, if_neg]
    · exact fput_at
    · rintro ⟨z, hz, e⟩
      have h1 := nmL_inj e
      have h2 := hin z (List.mem_of_mem_take hz)
      have : z = (n : Int) := by omega
      rw [this] at hz
      refine top_kept (numsT_rise m n) (mem_numsT.mpr (.inr rfl)) (fun z' h' => ?_) hm hz
      rcases mem_numsT.mp h' with h' | h'
      · exact hgt z' h'
      · omega
  · have hsv := hs.sv
    obtain ⟨t, e1, _⟩ := hs
    have hmem : (s'.1 : Int) ∈ srtI (nsOn (savM m n mk b many)) := (mem_srtI _ _).mpr (mem_nsOn.mpr ⟨by have := hsv.n1; omega, by have := hsv.n9; omega, by rw [Int.toNat_natCast, e1]; rfl⟩)
    rw [savM_nums h v] at hmem
    rcases mem_numsT.mp (List.mem_of_mem_drop hmem) with h' | h'
    · have := hgt _ h'
      show s'.1 ≤ n
      omega
    · show s'.1 ≤ n
      omega
end
end Pu

set_option Elab.async false
set_option linter.all false
set_option autoImplicit false
set_option maxRecDepth 100000
set_option maxHeartbeats 1000000
namespace Pu
open PySem PySem.Spec PyProof.Rows L2
def B_law_righted : MirS :=
  (sSeq (sSet 1 (m2 oSplit (mVar 0) (mC (.str "\n"))))
    (sSeq (sSet 2 (m2 oJoin (mC (.str "")) (mL (lLc [3] (iD (mSl (mVar 1) oNone (oSome (m2 oSub (mA oLen (aCons (mVar 1) aNil)) (mC (.int 2)))))) (gN 3) mYes (m2 oAdd (mVar 3) (mC (.str "\n")))))))
    (sRet (m2 oAdd (m2 oAdd (m2 oAdd (mVar 2) (mC (.str "end "))) (mCall (F_law_sum) (xDat (mVar 2) xNil))) (mC (.str "\n"))))))
def F_law_righted : MirF := runB 4 B_law_righted

def B_law_save : MirS :=
  (sSeq (sSet 1 (m2 oAdd (mC (.int 1)) (m2 oMod (mVar 0) (m2 oIx (mTup (aCons (mC (.int 12)) (aCons (mC (.int 9999)) aNil))) (m2 oMod (m2 oDiv (mVar 0) (mC (.int 16384))) (mC (.int 2)))))))
    (sRet (mTup (aCons (mVar 1) (aCons (m2 oAdd (mC (.int 1)) (m2 oMod (m2 oDiv (mVar 0) (mC (.int 16))) (mC (.int 9)))) (aCons (mCall (F_law_book) (xDat (m2 oDiv (mVar 0) (mC (.int 256))) xNil)) aNil))))))
def F_law_save : MirF := runB 2 B_law_save

def B_law_text2 : MirS :=
  (sSeq (sSet 1 (m2 oAdd (m2 oAdd (m2 oAdd (mC (.str "save ")) (mA oStr (aCons (m2 oIx (mVar 0) (mC (.int 0))) aNil))) (mC (.str " "))) (mA oStr (aCons (m2 oIx (mVar 0) (mC (.int 1))) aNil))))
    (sSeq (sSet 1 (m2 oAdd (m2 oAdd (m2 oAdd (mVar 1) (mC (.str " "))) (mA oStr (aCons (mA oLen (aCons (m2 oIx (mVar 0) (mC (.int 2))) aNil)) aNil))) (mC (.str "\n"))))
    (sSeq (sFor (iD (m2 oIx (mVar 0) (mC (.int 2)))) (gT [2, 3])
      (sSet 1 (m2 oAdd (m2 oAdd (m2 oAdd (m2 oAdd (mVar 1) (mVar 2)) (mC (.str " "))) (mA oStr (aCons (mVar 3) aNil))) (mC (.str "\n")))))
    (sRet (m2 oAdd (m2 oAdd (m2 oAdd (mVar 1) (mC (.str "end "))) (mCall (F_law_sum) (xDat (mVar 1) xNil))) (mC (.str "\n")))))))
def F_law_text2 : MirF := runB 4 B_law_text2

end Pu

set_option Elab.async false
set_option linter.all false
set_option autoImplicit false
set_option maxRecDepth 100000
/-! saves drawn, texts bent and righted -/
namespace Pu
open PySem PySem.Spec PyProof.Rows L2
open SX (S)
open TL (numL)
theorem ltext2_is {n mk : Nat} {b : Mp Int} (h1 : n < 1000000) (h2 : mk < 1000000) (hb : Sm b) : F_law_text2 [.dat (svD n mk b)] = some (.str (S (wrL n mk b))) := by
  have hl := hb.len
  have s1 := oStr_n (n := n) (by omega)
  have s2 := oStr_n (n := mk) (by omega)
  have s3 := oStr_n (n := b.length) (by omega)
  have n1 := num6 h1
  have n2 := num6 h2
  have n3 := num6 (n := b.length) (by omega)
  have hlb : oLen [bkD b] = some (.int b.length) := by simp [bkD, itM_len]
  have hbl := bodyL_len h1 h2 hb
  have hs := lsum_is (bodyL n mk b)
  have c1 : oAdd (.str "save ") (.str (S (numL n))) = some (.str (S ([115, 97, 118, 101, 32] ++ numL n))) := by
    rw [saves_S]
    exact addSS (by simp only [List.length_cons, List.length_nil]; omega)
  have c2 : oAdd (.str (S ([115, 97, 118, 101, 32] ++ numL n))) (.str " ") = some (.str (S ([115, 97, 118, 101, 32] ++ numL n ++ [32]))) := by
    rw [sp_S]
    exact addSS (by rw [List.length_append]; simp only [List.length_cons, List.length_nil]; omega)
  have c3 : oAdd (.str (S ([115, 97, 118, 101, 32] ++ numL n ++ [32]))) (.str (S (numL mk))) = some (.str (S ([115, 97, 118, 101, 32] ++ numL n ++ [32] ++ numL mk))) :=
    addSS (by rw [List.length_append, List.length_append]; simp only [List.length_cons, List.length_nil]; omega)
  have c4 : oAdd (.str (S ([115, 97, 118, 101, 32] ++ numL n ++ [32] ++ numL mk))) (.str " ") = some (.str (S ([115, 97, 118, 101, 32] ++ numL n ++ [32] ++ numL mk ++ [32]))) := by
    rw [sp_S]
    exact addSS (by rw [List.length_append, List.length_append, List.length_append]; simp only [List.length_cons, List.length_nil]; omega)
  have c5 : oAdd (.str (S ([115, 97, 118, 101, 32] ++ numL n ++ [32] ++ numL mk ++ [32]))) (.str (S (numL b.length))) = some (.str (S (headL n mk b.length))) := by
    rw [addSS (by rw [List.length_append, List.length_append, List.length_append, List.length_append]; simp only [List.length_cons, List.length_nil]; omega)]
    unfold headL
    simp
  have hhl := headL_len (n := n) (mk := mk) (k := b.length) h1 h2 (by omega)
  have c6 : oAdd (.str (S (headL n mk b.length))) (.str "\n") = some (.str (S (headL n mk b.length ++ [10]))) := by
    rw [nl_S]
    exact addSS (by simp only [List.length_cons, List.length_nil]; omega)
  obtain ⟨y, z, e⟩ := ltext_loop b b (headL n mk b.length ++ [10]) (.dat (svD n mk b)) .no .no hb.each (by rw [List.length_append]; simp only [List.length_cons, List.length_nil]; omega)
  have hbd : headL n mk b.length ++ [10] ++ txL (b.map rowL) = bodyL n mk b := rfl
  rw [hbd] at e
  have a1 : oAdd (.str (S (bodyL n mk b))) (.str "end ") = some (.str (S (bodyL n mk b ++ [101, 110, 100, 32]))) := by
    rw [end_S, addSS (by simp only [List.length_cons, List.length_nil]; omega)]
  have a2 : oAdd (.str (S (bodyL n mk b ++ [101, 110, 100, 32]))) (.str (S (sum4 (bodyL n mk b)))) = some (.str (S (bodyL n mk b ++ [101, 110, 100, 32] ++ sum4 (bodyL n mk b)))) :=
    addSS (by rw [List.length_append, sum4_len]; simp only [List.length_cons, List.length_nil]; omega)
  have a3 : oAdd (.str (S (bodyL n mk b ++ [101, 110, 100, 32] ++ sum4 (bodyL n mk b)))) (.str "\n") = some (.str (S (wrL n mk b))) := by
    rw [nl_S, addSS (by rw [List.length_append, List.length_append, sum4_len]; simp only [List.length_cons, List.length_nil]; omega)]
    unfold wrL endL
    simp
  have e0 : S (([115, 97, 118, 101, 32] ++ numL n ++ [32]) ++ numL mk) = S ([115, 97, 118, 101, 32] ++ numL n ++ [32] ++ numL mk) := rfl
  refine run_rt ?_
  rw [B_law_text2, v_seqN (ρ' := [.dat (svD n mk b), .dat (.str (S ([115, 97, 118, 101, 32] ++ numL n ++ [32] ++ numL mk))), .no, .no]) ?_, v_seqN (ρ' := [.dat (svD n mk b), .dat (.str (S (headL n mk b.length ++ [10]))), .no, .no]) ?_, v_seqN (ρ' := [.dat (svD n mk b), .dat (.str (S (bodyL n mk b))), y, z]) ?_]
  · simp only [v_sRet, v_m2, v_varS, v_var0, v_C, v_call, v_xDat, v_xNil, Option.bind_some, a1, hs, a2, a3]
    rfl
  · rw [v_sFor]
    exact e
  · have i2 : m2 oIx (mVar 0) (mC (.int 2)) [.dat (svD n mk b), .dat (.str (S ([115, 97, 118, 101, 32] ++ numL n ++ [32] ++ numL mk))), .no, .no] = some (bkD b) := rfl
    rw [v_sSet]
    rw [v_m2, v_m2, v_m2, v_mA, v_aCons, v_mA, v_aCons, i2]
    simp only [v_varS, v_var0, v_C, v_aNil, Option.bind_some, c4, hlb, s3, c5, c6, Option.map_some]
    rfl
  · have i0 : m2 oIx (mVar 0) (mC (.int 0)) (startR 4 [.dat (svD n mk b)]) = some (.int n) := rfl
    have i1 : m2 oIx (mVar 0) (mC (.int 1)) (startR 4 [.dat (svD n mk b)]) = some (.int mk) := rfl
    rw [v_sSet]
    rw [v_m2, v_m2, v_m2, v_mA, v_aCons, i0, v_mA, v_aCons, i1]
    simp only [v_C, v_aNil, Option.bind_some, s1, c1, c2, s2, c3, Option.map_some]
    rfl
theorem ixS {l : List Nat} {i : Nat} {c : Nat} (hl : l.length ≤ 16777216) (h : l[i]? = some c) : oIx (.str (S l)) (.int i) = some (.str (S [c])) := by
  show (if (S l).length ≤ sizeLine then (atI (S l).cps.toList (i : Int)).map fun c => PyData.str (sgn c) else none) = _
  rw [if_pos (by rw [SX.S_len]; exact hl)]
  have : atI (S l).cps.toList (i : Int) = some c := L2.atI_nat (show l[i]? = some c from h)
  rw [this]
  rfl

theorem v_oSome {f : Mir} {ρ : Rho} {i : Int} (h : f ρ = some (.int i)) : oSome f ρ = some (some i) := by
  unfold oSome
  rw [h]
theorem save22 (n : Int) : ∃ N mk : Nat, ∃ b, Sv N mk b ∧ b.length ≤ 5 ∧ F_law_save [.dat (.int n)] = some (svD N mk b) := by
  have hbk := book (n / 256)
  have hb := bkN_bk (n / 256)
  have hbl := bkN_len (n / 256)
  generalize bkN (n / 256) = b at *
  obtain ⟨mk, hmk⟩ : ∃ N : Nat, 1 + n / 16 % 9 = (N : Int) := ⟨(1 + n / 16 % 9).toNat, by omega⟩
  obtain ⟨q, hq, hq2⟩ : ∃ q : Int, (q = 12 ∨ q = 9999) ∧ oIx (.tuple [.int 12, .int 9999]) (.int (n / 16384 % 2)) = some (.int q) := by
    rcases (show n / 16384 % 2 = 0 ∨ n / 16384 % 2 = 1 by omega) with h | h
    · exact ⟨12, .inl rfl, by rw [h]; rfl⟩
    · exact ⟨9999, .inr rfl, by rw [h]; rfl⟩
  obtain ⟨N, hN⟩ : ∃ N : Nat, 1 + n % q = (N : Int) := ⟨(1 + n % q).toNat, by rcases hq with rfl | rfl <;> omega⟩
  have hq0 : q ≠ 0 := by rcases hq with rfl | rfl <;> decide
  have v : Sv N mk b := ⟨by rcases hq with rfl | rfl <;> omega, by rcases hq with rfl | rfl <;> omega, by omega, by omega, hb⟩
  refine ⟨N, mk, b, v, hbl, run_rt ?_⟩
  have hmod : oMod (.int n) (.int q) = some (.int (n % q)) := by
    rcases hq with rfl | rfl <;> simp
  simp (maxDischargeDepth := 10) (implicitDefEqProofs := false) [B_law_save, startR, hq2, hmod, hN, hmk, hbk]
  rfl
/-! rows of any text -/
theorem spl_id : ∀ (l acc : List Nat), txL (TL.spl [10] 0 acc l) = acc ++ l ++ [10]
  | [], acc => by simp [TL.spl, txL]
  | x :: l, acc => by
    rw [spl_cons]
    by_cases h : x = 10
    · rw [if_pos h]
      show (acc ++ [10]) ++ txL (TL.spl [10] 0 [] l) = _
      rw [spl_id l [], h]
      simp
    · rw [if_neg h, spl_id l (acc ++ [x])]
      simp
theorem spl_free : ∀ (l acc : List Nat), 10 ∉ acc → ∀ r ∈ TL.spl [10] 0 acc l, 10 ∉ r
  | [], acc, h, r, hr => by
    have hr : r ∈ [acc] := by simpa [TL.spl] using hr
    rw [List.mem_singleton.mp hr]
    exact h
  | x :: l, acc, h, r, hr => by
    rw [spl_cons] at hr
    by_cases hx : x = 10
    · rw [if_pos hx] at hr
      rcases List.mem_cons.mp hr with e | e
      · rw [e]
        exact h
      · exact spl_free l [] (by simp) r e
    · rw [if_neg hx] at hr
      refine spl_free l (acc ++ [x]) (fun z => ?_) r hr
      rcases List.mem_append.mp z with z | z
      · exact h z
      · exact hx (List.mem_singleton.mp z).symm
theorem join_tx : ∀ (rs : List (List Nat)), rs ≠ [] → TL.joinL [10] rs ++ [10] = txL rs
  | [], h => absurd rfl h
  | [r], _ => by simp [TL.joinL, txL]
  | r :: r' :: rs, _ => by
    have ih := join_tx (r' :: rs) (by simp)
    have e : txL (r :: r' :: rs) = (r ++ [10]) ++ txL (r' :: rs) := rfl
    rw [e, ← ih]
    simp [TL.joinL]
theorem spl_join {rs : List (List Nat)} (h : rs ≠ []) (hf : ∀ r ∈ rs, 10 ∉ r) : TL.spl [10] 0 [] (TL.joinL [10] rs) = rs := by
  obtain ⟨rs', z, rfl⟩ : ∃ rs' z, rs = rs' ++ [z] := ⟨rs.dropLast, rs.getLast h, (List.dropLast_concat_getLast h).symm⟩
  have e : TL.joinL [10] (rs' ++ [z]) = txL rs' ++ z := by
    have := join_tx (rs' ++ [z]) h
    rw [tx_app] at this
    have e2 : txL [z] = z ++ [10] := by simp [txL]
    rw [e2, ← List.append_assoc] at this
    exact List.append_cancel_right this
  rw [e]
  exact spl_tx z (fun r hr => hf r (List.mem_append_left _ hr)) (hf z (List.mem_append_right _ (List.mem_singleton.mpr rfl)))
theorem join_nil : TL.joinL [10] [] = [] := rfl
theorem join_len (rs : List (List Nat)) : (TL.joinL [10] rs).length ≤ (txL rs).length := by
  by_cases h : rs = []
  · subst h
    simp [join_nil]
  · rw [← join_tx rs h, List.length_append]
    omega
theorem tx_len1 {rs : List (List Nat)} (h : rs ≠ []) : (TL.joinL [10] rs).length + 1 = (txL rs).length := by
  rw [← join_tx rs h, List.length_append]
  rfl
theorem rwD_take (rs : List (List Nat)) (k : Nat) : (rwD rs).take k = rwD (rs.take k) := by
  unfold rwD
  rw [List.map_take]
theorem rwD_drop (rs : List (List Nat)) (k : Nat) : (rwD rs).drop k = rwD (rs.drop k) := by
  unfold rwD
  rw [List.map_drop]
theorem rwD_app (a b : List (List Nat)) : rwD a ++ rwD b = rwD (a ++ b) := by
  unfold rwD
  rw [List.map_append]
theorem rwD_len (rs : List (List Nat)) : (rwD rs).length = rs.length := List.length_map _
theorem cutD_seg {xs : List D} {a b : Nat} (h : a ≤ b) : cutD xs (some (a : Int)) (some (b : Int)) = (xs.drop a).take (b - a) := by
  unfold cutD
  rw [HT.sIx_nat, HT.sIx_nat]
  by_cases h1 : a ≤ xs.length
  · by_cases h2 : b ≤ xs.length
    · rw [Nat.min_eq_left h1, Nat.min_eq_left h2]
    · rw [Nat.min_eq_left h1, Nat.min_eq_right (by omega), List.take_of_length_le (by rw [List.length_drop]; omega), List.take_of_length_le (by rw [List.length_drop]; omega)]
  · rw [Nat.min_eq_right (by omega), Nat.min_eq_right (by omega), List.drop_of_length_le (Nat.le_refl _), List.drop_of_length_le (by omega)]
    simp
theorem joinN {rs : List (List Nat)} (hl : (txL rs).length ≤ 3000) : oJoin (.str "\n") (.list (rwD rs)) = some (.str (S (TL.joinL [10] rs))) := by
  have h1 : ∀ {rs : List (List Nat)}, rs.length ≤ (txL rs).length ∧ ∀ r ∈ rs, r.length ≤ (txL rs).length := fun {rs} => by
    induction rs with
    | nil => exact ⟨Nat.le_refl _, fun r hr => nomatch hr⟩
    | cons r rs ih =>
      have e : (txL (r :: rs)).length = r.length + 1 + (txL rs).length := by
        show ((r ++ [10]) ++ txL rs).length = _
        rw [List.length_append, List.length_append]
        rfl
      rw [e]
      refine ⟨by rw [List.length_cons]; omega, fun q hq => ?_⟩
      rcases List.mem_cons.mp hq with z | z
      · rw [z]
        omega
      · have := ih.2 q z
        omega
  rw [nl_S]
  refine joinSS (m := 3000) (fun r hr => Nat.le_trans (h1.2 r hr) hl) ?_
  have := h1 (rs := rs)
  have : rs.length ≤ 3000 := by omega
  show rs.length * 3000 + rs.length * 1 ≤ 16777216
  omega
theorem tx_len_app (a b : List (List Nat)) : (txL (a ++ b)).length = (txL a).length + (txL b).length := by rw [tx_app, List.length_append]
theorem tx_take_drop (rs : List (List Nat)) (k : Nat) : (txL (rs.take k)).length + (txL (rs.drop k)).length = (txL rs).length := by
  rw [← tx_len_app, List.take_append_drop]
theorem tx_take_le (rs : List (List Nat)) (k : Nat) : (txL (rs.take k)).length ≤ (txL rs).length := by have := tx_take_drop rs k; omega
theorem tx_drop_le (rs : List (List Nat)) (k : Nat) : (txL (rs.drop k)).length ≤ (txL rs).length := by have := tx_take_drop rs k; omega
/-- the sum put right -/
def rtL (l : List Nat) : List Nat :=
  let a := txL ((TL.spl [10] 0 [] l).take ((TL.spl [10] 0 [] l).length - 2))
  a ++ (endL a ++ [10])
theorem rtL_len (l : List Nat) : (rtL l).length ≤ l.length + 10 := by
  have h1 := tx_take_le (TL.spl [10] 0 [] l) ((TL.spl [10] 0 [] l).length - 2)
  rw [spl_id] at h1
  have h2 : (endL (txL ((TL.spl [10] 0 [] l).take ((TL.spl [10] 0 [] l).length - 2))) ++ [10]).length = 9 := tailL_len _
  show (_ ++ _ : List Nat).length ≤ _
  rw [List.length_append, h2]
  simp at h1
  omega
theorem cut_to2 (xs : List D) (h : 1 ≤ xs.length) : cutD xs none (some ((xs.length : Int) - 2)) = xs.take (xs.length - 2) := by
  by_cases h2 : 2 ≤ xs.length
  · rw [cutD_to (by omega)]
    congr 1
    omega
  · have : xs.length = 1 := by omega
    rw [this]
    have e : ((1 : Nat) : Int) - 2 = -1 := rfl
    rw [e, cut_last]
    obtain ⟨x, rfl⟩ : ∃ x, xs = [x] := List.length_eq_one_iff.mp this
    rfl
theorem righted_is {l : List Nat} (hl : l.length ≤ 2000) : F_law_righted [.dat (.str (S l))] = some (.str (S (rtL l))) := by
  have hsp := splitN (l := l) (by omega)
  have hsz := spl_size 10 l []
  have hid := spl_id l []
  have hrl : rtL l = txL ((TL.spl [10] 0 [] l).take ((TL.spl [10] 0 [] l).length - 2)) ++ (endL (txL ((TL.spl [10] 0 [] l).take ((TL.spl [10] 0 [] l).length - 2))) ++ [10]) := rfl
  have heach : ∀ r ∈ TL.spl [10] 0 [] l, r.length ≤ 2000 := fun r hr => by
    have := spl_each 10 l [] r hr
    simp at this
    omega
  generalize TL.spl [10] 0 [] l = rs at *
  have htk := tx_take_le rs (rs.length - 2)
  have htl : (txL rs).length = l.length + 1 := by rw [hid]; simp
  have hcut : oSl (.list (rwD rs)) none (some ((rs.length : Int) - 2)) = some (.list (rwD (rs.take (rs.length - 2)))) := by
    have := cut_to2 (rwD rs) (by rw [rwD_len]; omega)
    rw [rwD_len, rwD_take] at this
    show some (PyData.list _) = _
    rw [this]
  generalize hA : rs.take (rs.length - 2) = as at *
  have hasl : as.length ≤ 2001 := by rw [← hA, List.length_take]; omega
  have hae : ∀ r ∈ as, r.length ≤ 2000 := fun r hr => heach r (by rw [← hA] at hr; exact List.mem_of_mem_take hr)
  have hlc : mL (lLc [3] (iD (mSl (mVar 1) oNone (oSome (m2 oSub (mA oLen (aCons (mVar 1) aNil)) (mC (.int 2)))))) (gN 3) mYes (m2 oAdd (mVar 3) (mC (.str "\n")))) [.dat (.str (S l)), .dat (.list (rwD rs)), .no, .no] = some (.list (rwD (as.map (· ++ [10])))) := by
    refine v_listLc (ds := rwD as) ?_ (by rw [rwD_len]; omega) ?_
    · have h1 : oSome (m2 oSub (mA oLen (aCons (mVar 1) aNil)) (mC (.int 2))) [.dat (.str (S l)), .dat (.list (rwD rs)), .no, .no] = some (some ((rs.length : Int) - 2)) := v_oSome (by simp [rwD_len])
      rw [v_iD]
      unfold mSl
      rw [h1]
      show ((oSl (.list (rwD rs)) none (some ((rs.length : Int) - 2))).bind itemsD) = _
      rw [hcut]
      rfl
    · show lcGo _ _ _ _ (as.map fun r => PyData.str (S r)) = some (rwD (as.map (· ++ [10])))
      rw [lc_mapT (fun r => PyData.str (S r)) (fun r => PyData.str (S (r ++ [10]))) as fun r hr => ⟨_, rfl, ?_⟩]
      · unfold rwD
        rw [List.map_map]
        rfl
      · have := hae r hr
        show oAdd (.str (S r)) (.str "\n") = _
        rw [nl_S]
        exact addSS (by simp only [List.length_cons, List.length_nil]; omega)
  have hjn : oJoin (.str "") (.list (rwD (as.map (· ++ [10])))) = some (.str (S (txL as))) := by
    rw [em_S, joinSS (m := 2001) (fun r hr => ?_) (by rw [List.length_map]; simp only [List.length_nil]; omega), joinL_nil]
    · rfl
    · obtain ⟨r', hr', rfl⟩ := List.mem_map.mp hr
      have := hae r' hr'
      rw [List.length_append]
      simp only [List.length_cons, List.length_nil]
      omega
  have hs := lsum_is (txL as)
  have a1 : oAdd (.str (S (txL as))) (.str "end ") = some (.str (S (txL as ++ [101, 110, 100, 32]))) := by
    rw [end_S, addSS (by simp only [List.length_cons, List.length_nil]; omega)]
  have a2 : oAdd (.str (S (txL as ++ [101, 110, 100, 32]))) (.str (S (sum4 (txL as)))) = some (.str (S (txL as ++ [101, 110, 100, 32] ++ sum4 (txL as)))) :=
    addSS (by rw [List.length_append, sum4_len]; simp only [List.length_cons, List.length_nil]; omega)
  have a3 : oAdd (.str (S (txL as ++ [101, 110, 100, 32] ++ sum4 (txL as)))) (.str "\n") = some (.str (S (rtL l))) := by
    rw [nl_S, addSS (by rw [List.length_append, List.length_append, sum4_len]; simp only [List.length_cons, List.length_nil]; omega), hrl]
    unfold endL
    simp
  have q1 : sSet 1 (m2 oSplit (mVar 0) (mC (.str "\n"))) (startR 4 [.dat (.str (S l))]) = some (.nx [.dat (.str (S l)), .dat (.list (rwD rs)), .no, .no]) := by
    simp (implicitDefEqProofs := false) [startR, hsp]
  have q2 : sSet 2 (m2 oJoin (mC (.str "")) (mL (lLc [3] (iD (mSl (mVar 1) oNone (oSome (m2 oSub (mA oLen (aCons (mVar 1) aNil)) (mC (.int 2)))))) (gN 3) mYes (m2 oAdd (mVar 3) (mC (.str "\n")))))) [.dat (.str (S l)), .dat (.list (rwD rs)), .no, .no] = some (.nx [.dat (.str (S l)), .dat (.list (rwD rs)), .dat (.str (S (txL as))), .no]) := by
    rw [v_sSet, v_m2, hlc]
    simp only [v_C, Option.bind_some, hjn]
    rfl
  refine run_rt ?_
  unfold B_law_righted
  rw [v_seqN q1, v_seqN q2]
  simp only [v_sRet, v_m2, v_varS, v_var0, v_C, v_call, v_xDat, v_xNil, Option.bind_some, a1, hs, a2, a3]
  rfl
/-- how long a drawn save's text is -/
theorem wr73 {n mk : Nat} {b : Mp Int} (v : Sv n mk b) (hb : b.length ≤ 5) : (wrL n mk b).length ≤ 73 := by
  have h1 : (numL n).length ≤ 4 := TL.numL_len (by decide) (by have := v.n9; omega)
  have h2 : (numL mk).length ≤ 1 := TL.numL_len (by decide) (by have := v.m9; omega)
  have h3 : (numL b.length).length ≤ 1 := TL.numL_len (by decide) (by omega)
  have hr : ∀ r ∈ b.map rowL, r.length ≤ 9 := fun r hr => by
    obtain ⟨p, hp, rfl⟩ := List.mem_map.mp hr
    have hk := keyOk_len (v.bk.keys p hp)
    have hg := v.bk.gd.2 p hp
    have h4 : (numL p.2.toNat).length ≤ 3 := TL.numL_len (by decide) (by have := hg.2; omega)
    have h5 : p.1.cps.toList.length = p.1.length := by rw [Array.length_toList]; rfl
    unfold rowL
    rw [List.length_append, List.length_cons, h5]
    omega
  have ht := txL_len hr
  rw [List.length_map] at ht
  rw [wrL_size]
  have : (bodyL n mk b).length = (headL n mk b.length).length + 1 + (txL (b.map rowL)).length := by
    show ((headL n mk b.length ++ [10]) ++ txL (b.map rowL)).length = _
    rw [List.length_append, List.length_append]
    rfl
  have hh : (headL n mk b.length).length ≤ 13 := by
    unfold headL
    simp only [List.length_append, List.length_cons, List.length_nil]
    omega
  omega
end Pu

set_option Elab.async false
set_option linter.all false
set_option autoImplicit false
set_option maxRecDepth 100000
/-! range with a step; backwards -/
namespace Pu
open PySem PySem.Spec PyProof.Rows L2
section
variable {X : Cx} {tg e : Expr} {f g : Mir} {pos : Pos} {K : PySem.W.Frag}
/-- range(a, b, c) -/
def rgC (lo c : Int) (n : Nat) : List D := (List.range n).map fun (i : Nat) => PyData.int (lo + (i : Nat) * c)
def iR3 (r : MirA) : MirI := fun ρ => (r ρ).bind fun
  | [.int i, .int j, .int c] => if c ≠ 0 ∧ c.natAbs < 1073741824 ∧ Builtin.Range.small i j c = true ∧ 0 ≤ Builtin.Range.rangeSize i j c then some (rgC i c (Builtin.Range.rangeSize i j c).toNat) else none
  | _ => none
theorem yld_rgC {F : Hp} (lo c : Int) (n : Nat) : Yld K false F (Itc lo c n) (rgC lo c n) := fun H2 s i => by
  refine ⟨fun d hd => ?_, fun hi => ?_⟩
  · unfold rgC at hd
    rw [List.getElem?_map] at hd
    obtain ⟨k, q, rfl⟩ := map_some hd
    obtain ⟨hl, ec⟩ := List.getElem?_eq_some_iff.mp q
    rw [List.length_range] at hl
    rw [List.getElem_range] at ec
    subst ec
    refine ⟨hl, fun x H' ⟨e, ex⟩ => ?_⟩
    subst ex
    exact Yld.flat (fun G => .int _) e
  · unfold rgC at hi
    rw [List.length_map, List.length_range] at hi
    exact Nat.le_of_eq hi
theorem three_of {H : Hp} {vs : List V} {x y z : D} (h : DqAll K H vs [x, y, z]) : ∃ u v w, vs = [u, v, w] ∧ Dq K H u x ∧ Dq K H v y ∧ Dq K H w z := by
  cases h with
  | cons a h =>
    cases h with
    | cons b h =>
      cases h with
      | cons c h =>
        cases h
        exact ⟨_, _, _, rfl, a, b, c⟩
theorem id_range3 {a b c : Expr} {r : MirA} {p : Pos} (hg : Gl X "range") (hm : X.mg "range" = none) (ha : PAD X [a, b, c] r) (hs : starEach [a, b, c] X.env = (false, eval a X.env) :: starEach [b, c] X.env := by rfl) (hpl : (backTo pos (starEach [b, c] X.env)).any (·.1) = false := by rfl) : PID X false tg (.Call (.Name "range" p) [a, b, c] [] pos) (iR3 r) :=
  weakI (pi_range3 hg hm ha hs hpl) fun σ H R ⟨S, B, ρ, ds, E, e, k⟩ => by
    obtain ⟨xs, e1, e2⟩ := bind_some e
    split at e2
    · obtain ⟨c, rfl⟩ := ite_some e2
      refine ⟨S, B, ρ, _, E, e1, fun vs H1 s1 p1 => ?_⟩
      obtain ⟨u, v, w, rfl, q1, q2, q3⟩ := three_of p1
      cases q1
      cases q2
      cases q3
      exact ⟨_, _, _, _, rfl, ⟨c.1, c.2.1, c.2.2.1, by omega⟩, k _ H1 s1 (yld_rgC _ _ _)⟩
    · cases e2
/-- text[::-1] -/
def revS (z : Str) : Str := ⟨z.cps.toList.reverse.toArray⟩
def oRevS : D → Option D
  | .str z => if z.length ≤ sizeLine then some (.str (revS z)) else none
  | _ => none
theorem revS_len (z : Str) : (revS z).length = z.length := by
  show z.cps.toList.reverse.toArray.size = z.cps.size
  simp
theorem made_rev (z : Str) (t tk : Tok) : sliceMade z t none none (some (-1, tk)) = Made.str (revS z) := by
  have e : slicePicked z none none (some (-1, tk)) = (List.range z.cps.size).reverse := by
    show Builtin.Str.strSliceIndices none none (-1) z.length = _
    show sliceRange ((z.length : Int) - 1) (-1) (-1) = _
    rw [PySem.W.krv_sliceRange, PySem.W.krv_range]
    rfl
  unfold sliceMade
  rw [e]
  show (if ((-1 : Int) == 1 && _) = true then _ else _) = _
  rw [if_neg (by simp), List.filterMap_reverse, PySem.W.krv_all]
  rfl
def tRevS (te : TE) : TE := fun σ H Q => te σ H fun x H1 => ∃ z, x = .str z ∧ z.length ≤ sizeLine ∧ Q (.str (revS z)) H1
theorem pe_revS {te : TE} {k : Nat} {p1 p2 p3 : Pos} (he : PE X e te) : PE X (.Subscript e (.Slice none none (some (.UnaryOp .USub (.Constant (.int 1) k p1) p2)) p3) pos) (tRevS te) := by
  refine ⟨fun pins s σ H Q I h => ?_⟩
  refine Subscript_ (thn (he.run pins s σ H _ I h) fun v s1 ⟨x, H1, I1, r1, q1⟩ => ?_)
  have hst : PO X (some (.UnaryOp .USub (.Constant (.int 1) k p1) p2)) (tPart (tUn (rU fun i => .int (-i)) (tC (.int 1)))) := po_some (pe_un un_neg pe_int)
  refine wpAny_Slice (thn (po_none.run pins s1 σ H1 (fun o H2 => o = none ∧ H2 = H1) I1 ⟨rfl, rfl⟩) fun vl s2 ⟨l, H2, I2, pl, el, e2⟩ => ?_)
  subst el e2
  refine thn (po_none.run pins s2 σ H2 (fun o H3 => o = none ∧ H3 = H2) I2 ⟨rfl, rfl⟩) fun vu s3 ⟨u, H3, I3, pu, eu, e3⟩ => ?_
  subst eu e3
  refine thn (hst.run pins s3 σ H3 (fun o H4 => o = some (-1) ∧ H4 = H3) I3 ⟨1, rfl, -1, rfl, rfl, rfl⟩) fun vs s4 ⟨o, H4, I4, ps, eo, e4⟩ => ?_
  subst eo e4
  have I5 : Inv X pins σ H4 { s4 with heap := s4.heap.push { cls := .type "slice", data := .fields #[vl, vu, vs] } } := I4.kept (t' := s4.toks) fun b ob q => Heap.get?_push_of_some _ q
  obtain ⟨ll, rfl, hl1⟩ := IsPart.raw pl
  obtain ⟨uu, rfl, hu1⟩ := IsPart.raw pu
  obtain ⟨ss, rfl, hs1⟩ := IsPart.raw ps
  have hll : ll = none := by
    cases ll with
    | none => rfl
    | some z => cases hl1
  have huu : uu = none := by
    cases uu with
    | none => rfl
    | some z => cases hu1
  obtain ⟨tk, hss⟩ : ∃ tk, ss = some (-1, tk) := by
    cases ss with
    | none => cases hs1
    | some z =>
      obtain ⟨z1, z2⟩ := z
      have : z1 = -1 := Option.some.inj hs1
      exact ⟨z2, by rw [this]⟩
  subst hll huu hss
  obtain ⟨z, ex, hlen, q⟩ := q1
  subst ex
  obtain ⟨t, rfl⟩ := r1
  refine tail_any (ops := [.str z t, .ref s4.heap.objs.size]) (typeIs_str _ _ _) F.slot_str_getitem.lookup ?_ (by with_unfolding_all rfl)
  refine wpAny_getItem_str_slice (l := none) (u := none) (st := some (-1, tk)) (Heap.IsSliceOf.new _ _ _ _) rfl ?_
  rw [made_rev]
  exact ⟨by rw [revS_len]; exact hlen, .str _, H4, I5.tok _, ⟨_, rfl⟩, q⟩
theorem pd_revS {k : Nat} {p1 p2 p3 : Pos} (ha : PD X e f) : PD X (.Subscript e (.Slice none none (some (.UnaryOp .USub (.Constant (.int 1) k p1) p2)) p3) pos) (m1 oRevS f) := weak (pe_revS ha) fun σ H Q ⟨S, B, ρ, d, E, e, kk⟩ => by
  obtain ⟨x, e1, e2⟩ := m1_some e
  refine ⟨S, B, ρ, x, E, e1, fun v H1 s1 q1 => ?_⟩
  unfold oRevS at e2
  split at e2
  · obtain ⟨c, rfl⟩ := ite_some e2
    cases q1
    exact ⟨_, rfl, c, kk _ H1 s1 (.str _)⟩
  · cases e2
/-- list[::-1] -/
def oRevL : D → Option D
  | .list xs => some (.list xs.reverse)
  | _ => none
theorem DqAll.rev {K : PySem.W.Frag} {H : Hp} : ∀ {vs : List V} {ds : List D}, DqAll K H vs ds → DqAll K H vs.reverse ds.reverse
  | _, _, .nil => .nil
  | _, _, .cons a r => by
    rw [List.reverse_cons, List.reverse_cons]
    exact (DqAll.rev r).append (.one a)
theorem pd_revL {k : Nat} {p1 p2 p3 : Pos} (ha : PD X e f) : PD X (.Subscript e (.Slice none none (some (.UnaryOp .USub (.Constant (.int 1) k p1) p2)) p3) pos) (m1 oRevL f) := weak (pe_revL ha) fun σ H Q ⟨S, B, ρ, d, E, e, kk⟩ => by
  obtain ⟨x, e1, e2⟩ := m1_some e
  cases x <;> try (cases e2; done)
  cases e2
  refine ⟨S, B, ρ, _, E, e1, fun v H1 s1 q1 => ?_⟩
  obtain ⟨a, vs, rfl, z1, z2⟩ := Dq.sqL q1
  refine ⟨a, vs, rfl, z1, fun p hp => ?_⟩
  obtain ⟨s4, n4⟩ := new_lst (E.step s1).sub hp z2.rev
  exact kk _ _ (s1.trans s4) n4
end
end Pu

set_option Elab.async false
set_option linter.all false
set_option autoImplicit false
set_option maxRecDepth 100000
/-! the keys of a dict of one's own, walked in a comprehension that reads it; two new dicts at once -/
namespace Pu
open PySem PySem.Spec PyProof.Rows L2
/-- slot i holds a dict that stands locked -/
def FrzAt (K : PySem.W.Frag) (S : Addr → Prop) (H : Hp) (σ : L2.St) (i : Nat) (kvs : KVs) : Prop := ∃ a od es, σ[i]? = some (some (.ref a)) ∧ H a = some (.frz od (.dK es)) ∧ DKV K (hid S H) es kvs
theorem FrzAt.step {K : PySem.W.Frag} {S : Addr → Prop} {H H' : Hp} {σ : L2.St} {i : Nat} {kvs : KVs} (s : Same H H') : FrzAt K S H σ i kvs → FrzAt K S H' σ i kvs
  | ⟨a, od, es, h1, h2, h3⟩ => ⟨a, od, es, h1, s _ _ h2, h3.mono (same_hid s)⟩
def tOfF (K : PySem.W.Frag) (i : Nat) (f : Mir) : TE := fun σ H Q => ∃ S B ρ kvs d, EnvOk K S B H σ ρ ∧ FrzAt K S H σ i kvs ∧ f (ρ.set i (.dic kvs)) = some d ∧ ∀ v H', Same H H' → Dq K (hid S H') v d → Q v H'
def ttOfF (K : PySem.W.Frag) (i : Nat) (f : Mir) : TT := fun σ H Q => ∃ S B ρ kvs b, EnvOk K S B H σ ρ ∧ FrzAt K S H σ i kvs ∧ f (ρ.set i (.dic kvs)) = some (.bool b) ∧ ∀ H', Same H H' → Q b H'
/-- f does not look at slot i -/
def Ind (i : Nat) (f : Mir) : Prop := ∀ (ρ : Rho) (x : Sl), f (ρ.set i x) = f ρ
def IndM (i : Nat) (g : MirM) : Prop := ∀ (ρ : Rho) (x : Sl), g (ρ.set i x) = g ρ
theorem ind_var {i j : Nat} (h : i ≠ j) : Ind i (mVar j) := fun ρ x => by
  unfold mVar
  rw [List.getElem?_set_ne h]
theorem indM_var {i j : Nat} (h : i ≠ j) : IndM i (dVar j) := fun ρ x => by
  unfold dVar
  rw [List.getElem?_set_ne h]
theorem ind_C {i : Nat} {d : D} : Ind i (mC d) := fun _ _ => rfl
theorem ind_m2 {i : Nat} {o : D → D → Option D} {f g : Mir} (h1 : Ind i f) (h2 : Ind i g) : Ind i (m2 o f g) := fun ρ x => by
  unfold m2
  rw [h1, h2]
theorem ind_get2 {i : Nat} {g : MirM} {f h : Mir} (h0 : IndM i g) (h1 : Ind i f) (h2 : Ind i h) : Ind i (mDGet2 g f h) := fun ρ x => by
  unfold mDGet2
  rw [h0, h1, h2]
section
variable {X : Cx} {K : PySem.W.Frag} {a b e : Expr} {f g : Mir} {pos : Pos} {rest : List Expr} {i : Nat}
theorem ft_lift (h : PTD X e f) (n : Ind i f) : PT X e (ttOfF X.K i f) := weakT h fun σ H Q ⟨S, B, ρ, kvs, d, E, F, e, k⟩ => ⟨S, B, ρ, d, E, by rw [← n ρ (.dic kvs)]; exact e, k⟩
theorem fe_lift (h : PD X e f) (n : Ind i f) : PE X e (tOfF X.K i f) := weak h fun σ H Q ⟨S, B, ρ, kvs, d, E, F, e, k⟩ => ⟨S, B, ρ, d, E, by rw [← n ρ (.dic kvs)]; exact e, k⟩
theorem set_at {ρ : Rho} {x : Sl} {j : Nat} {y : Sl} (h : (ρ.set j x)[j]? = some y) : y = x := by
  rcases Nat.lt_or_ge j ρ.length with hl | hl
  · rw [List.getElem?_set_self hl] at h
    exact (Option.some.inj h).symm
  · rw [List.set_eq_of_length_le hl, List.getElem?_eq_none hl] at h
    cases h
theorem fe_dget {x : Str} {px : Pos} (hu : X.A.units + 1 < cLine) (hb : PD X b f) (n : Ind i f) (hN : X.N[i]? = some x := by rfl) (hv : Vis X.env.scope x := by first | exact Or.inl rfl | exact Or.inr (Or.inl rfl) | exact Or.inr (Or.inr rfl)) (hd : (x == ("__debug__" : Str)) = false := by decide)
    (hcd : (x == ("__classdict__" : Str)) = false := by decide) (hs : NoSl b := by intro _ _; rfl) : PE X (.Subscript (.Name x px) b pos) (tOfF X.K i (mDGet (dVar i) f)) :=
  weak (pe_dget hu (pe_var hN hv hd hcd) hb hs) fun σ H Q ⟨S, B, ρ, kvs, d, E, ⟨a, od, es, h1, h2, h3⟩, e, k⟩ => by
    obtain ⟨kv', e1, e2⟩ := bind_some e
    obtain ⟨x, e3, e4⟩ := bind_some e2
    obtain ⟨ky, e5, e6⟩ := bind_some e4
    have hk : kv' = kvs := by
      unfold dVar at e1
      cases q : (ρ.set i (.dic kvs))[i]? with
      | none =>
        rw [q] at e1
        cases e1
      | some y =>
        have := set_at q
        subst this
        rw [q] at e1
        exact (Option.some.inj e1).symm
    subst hk
    rw [n] at e3
    refine ⟨_, h1, S, B, ρ, x, E, e3, fun v H2 s2 p2 => ?_⟩
    obtain rfl := key_dp p2 e5
    have d2 := h3.mono (same_hid s2)
    rcases d2.val ky with ⟨_, q⟩ | ⟨v, d', q1, q2, q3⟩
    · rw [q] at e6
      cases e6
    · rw [q2] at e6
      cases e6
      refine ⟨a, v, rfl, ?_, k v H2 s2 q3⟩
      rw [← q1]
      exact .inl ⟨es, ky, .inr ⟨od, s2 _ _ h2⟩, rfl, rfl⟩
theorem ft_cmp {op : CmpOp} {r : R2} {m : D → D → Option D} (ho : OpR X (compareOp op) r) (hr : R2ok X.K r m) (ha : PE X a (tOfF X.K i f)) (hb : PE X b (tOfF X.K i g)) (hm : behindInMarks op b = false := by first | exact nomark _ | rfl) : PT X (.Compare a [op] [b] pos) (ttOfF X.K i (m2 m f g)) :=
  weakT (pt_cmpR ho ha hb hm) fun σ H Q ⟨S, B, ρ, kvs, d, E, F, e, k⟩ => by
    obtain ⟨x, y, e1, e2, e3⟩ := m2_some e
    refine ⟨S, B, ρ, kvs, x, E, F, e1, fun v H1 s1 p1 => ⟨S, B, ρ, kvs, y, E.step s1, F.step s1, e2, fun w H2 s2 p2 => ?_⟩⟩
    have E2 := (E.step s1).step s2
    exact hr S H2 v w x y (.bool d) _ E2.sub (Dq.mono (same_hid s2) p1) p2 e3 fun u H3 s3 p3 => by
      cases p3
      exact ⟨_, rfl, k H3 ((s1.trans s2).trans s3)⟩
theorem ft_ne (hu : X.A.units + 64 < cLine) (ha : PE X a (tOfF X.K i f)) (hb : PE X b (tOfF X.K i g)) : PT X (.Compare a [.NotEq] [b] pos) (ttOfF X.K i (m2 oNe f g)) := ft_cmp (op_neN hu) ok_ne ha hb
theorem fw_and1 (ha : PT X a (ttOfF X.K i f)) : PW X (.BoolOp .And [a] pos) (ttOfF X.K i f) := pw_and1 ha
theorem fw_and (ha : PT X a (ttOfF X.K i f)) (hb : PW X (.BoolOp .And (b :: rest) pos) (ttOfF X.K i g)) : PW X (.BoolOp .And (a :: b :: rest) pos) (ttOfF X.K i (mAnd f g)) := weakW (pw_and ha hb) fun σ H Q ⟨S, B, ρ, kvs, d, E, F, e, k⟩ => by
  rcases mAnd_some e with ⟨e1, e2⟩ | ⟨e1, e2⟩
  · exact ⟨S, B, ρ, kvs, true, E, F, e1, fun H1 s1 => iteT ⟨S, B, ρ, kvs, d, E.step s1, F.step s1, e2, fun H2 s2 => k H2 (s1.trans s2)⟩⟩
  · cases e2
    exact ⟨S, B, ρ, kvs, false, E, F, e1, fun H1 s1 => iteF (k H1 s1)⟩
/-- [name for name in dict if ..] -/
def lKeys (i j : Nat) (tt : Mir) : MirL := fun ρ => match ρ[i]? with
  | some (.dic kvs) => if kvs.length < sizeLine then lcGo (gN j) tt (mVar j) (wipeR ρ [j]) (kvs.map fun p => kD p.1) else none
  | _ => none
theorem frz_hid {S : Addr → Prop} {H : Hp} {a : Addr} {o : HO} (hS : S a) : hid S (upd H a o) = hid S H := by
  funext b
  unfold hid
  by_cases hb : S b
  · rw [if_pos hb, if_pos hb]
  · rw [if_neg hb, if_neg hb, upd_ne (show b ≠ a from fun z => hb (by rw [z]; exact hS))]
theorem EnvOk.lock {S : Addr → Prop} {B : Base} {H : Hp} {σ : L2.St} {ρ : Rho} {a : Addr} {o : HO} {kvs : KVs} (E : EnvOk K S B H σ ρ) (h : ρ[i]? = some (.dic kvs)) (ha : σ[i]? = some (some (.ref a))) (hS : S a) (hB : B.hi a = none) : EnvOk K S B (upd H a o) σ (ρ.set i .no) := by
  have nb : ∀ {b : Addr} {x : HO}, B.hi b = some x → b ≠ a := fun q z => by
    rw [z, hB] at q
    cases q
  refine ⟨by rw [List.length_set]; exact E.len, fun b hb => ?_, fun b x q => ?_, fun j x hx => ?_, fun j l b x y hn hx ox hy oy => ?_, B.tabM _ _ E.tab fun b o q kp => by
    rw [upd_ne (fun z => slot_kep E h rfl ha (by rw [← z]; exact q) kp)]
    exact q⟩
  · by_cases z : b = a
    · rw [z, upd_same]
      exact fun z => nomatch z
    · rw [upd_ne z]
      exact E.sub b hb
  · rw [upd_ne (nb q)]
    exact E.base b x q
  · by_cases hj : i = j
    · subst hj
      have := set_at hx
      subst this
      cases (σ[i]?.getD none) <;> trivial
    · rw [List.getElem?_set_ne hj] at hx
      have q := E.slot j x hx
      have ap : x.owned = true → σ[j]? ≠ some (some (.ref a)) := fun ox => E.apart i j a _ x hj h rfl hx ox ha
      cases hσ : (σ[j]?.getD none) with
      | none =>
        rw [hσ] at q
        cases x <;> first | trivial | exact q
      | some v =>
        rw [hσ] at q
        have hs : σ[j]? = some (some v) := by
          cases w : σ[j]? with
          | none =>
            rw [w] at hσ
            cases hσ
          | some o =>
            rw [w] at hσ
            exact congrArg some hσ
        cases x with
        | no => trivial
        | dat d =>
          show Dq K (hid S (upd H a o)) v d
          rw [frz_hid hS]
          exact q
        | own ds =>
          obtain ⟨c, vs, e1, e2, e3, e4, e5⟩ := q
          refine ⟨c, vs, e1, e2, e3, ?_, by rw [frz_hid hS]; exact e5⟩
          rw [upd_ne (fun z => ap rfl (by rw [hs, e1, z]))]
          exact e4
        | dic ds =>
          obtain ⟨c, vs, e1, e2, e3, e4, e5⟩ := q
          refine ⟨c, vs, e1, e2, e3, ?_, by rw [frz_hid hS]; exact e5⟩
          rw [upd_ne (fun z => ap rfl (by rw [hs, e1, z]))]
          exact e4
        | mu ds =>
          obtain ⟨c, vs, e1, e2, e3, e4, e5, e6⟩ := q
          refine ⟨c, vs, e1, e2, e3, ?_, by rw [frz_hid hS]; exact e5, e6⟩
          rw [upd_ne (fun z => ap rfl (by rw [hs, e1, z]))]
          exact e4
        | dtab P q' d => exact ⟨by rw [frz_hid hS]; exact q.1, q.2⟩
        | bor ds =>
          obtain ⟨c, vs, e1, e2, e3⟩ := q
          exact ⟨c, vs, e1, e2, by rw [frz_hid hS]; exact e3⟩
  · have nn : ∀ {l : Nat} {y : Sl}, (ρ.set i .no)[l]? = some y → y.owned = true → ρ[l]? = some y := fun {l y} h o => by
      by_cases hl : i = l
      · subst hl
        have := set_at h
        subst this
        cases o
      · rwa [List.getElem?_set_ne hl] at h
    exact E.apart j l b x y hn (nn hx ox) ox (nn hy oy) oy
theorem keys_of {j : Nat} {tt : Mir} (hij : i ≠ j) : ∀ σ H Q, tlOf K (lKeys i j tt) σ H Q → tLockE (tLc (iKeys (tVar i)) (tgOf K false [j] (gN j)) (ttOfF K i tt) (tOf K (mVar j)) [j]) σ H Q := fun σ H Q ⟨S, B, ρ, out, E, e, k⟩ => by
  unfold lKeys at e
  split at e
  case h_2 => cases e
  rename_i kvs hi
  obtain ⟨hlen, e2⟩ : kvs.length < sizeLine ∧ lcGo (gN j) tt (mVar j) (wipeR ρ [j]) (kvs.map fun p => kD p.1) = some out := by
    by_cases h : kvs.length < sizeLine
    · rw [if_pos h] at e
      exact ⟨h, e⟩
    · rw [if_neg h] at e
      cases e
  clear e
  obtain ⟨a, ha, hS, hB, es, hH, hd⟩ : ∃ a, σ[i]? = some (some (.ref a)) ∧ S a ∧ B.hi a = none ∧ ∃ es, H a = some (.dK es) ∧ DKV K (hid S H) es kvs := by
    have q := E.slot i _ hi
    cases w : σ[i]? with
    | none =>
      rw [w] at q
      exact q.elim
    | some o =>
      rw [w] at q
      cases o with
      | none => exact q.elim
      | some v =>
        obtain ⟨c, es, e1, e2, e3, e4, e5⟩ := q
        rw [e1]
        exact ⟨c, rfl, e2, e3, es, e4, e5⟩
  have hel : es.length = kvs.length := hd.len
  refine ⟨a, .dK es, hH, trivial, fun od => ⟨_, ha, a, od, rfl, .inl ⟨es, upd_same, fun P hP => ?_⟩⟩⟩
  have hPa : P ≠ a := fun z => by
    rw [z, upd_same] at hP
    cases hP
  have E1 : EnvOk K S B (upd H a (.frz od (.dK es))) σ (ρ.set i .no) := E.lock hi ha hS hB
  generalize hHf : upd H a (.frz od (.dK es)) = Hf at *
  have hfa : Hf a = some (.frz od (.dK es)) := by rw [← hHf, upd_same]
  have hfh : hid S Hf = hid S H := by rw [← hHf]; exact frz_hid hS
  generalize hds : (kvs.map fun p => kD p.1) = ds at *
  have hdl : ds.length = kvs.length := by rw [← hds, List.length_map]
  refine ⟨fun i' n Hc => i' + n = ds.length ∧ ∃ (vs' : List V) (acc rest : List D), Hc P = some (.lst vs') ∧ Same Hf Hc ∧ DqAll K (hid (plus S P) Hc) vs' acc ∧ vs'.length ≤ i' ∧ lcGo (gN j) tt (mVar j) (wipeR ρ [j]) (ds.drop i') = some rest ∧ out = acc ++ rest,
    ⟨ds.length, by omega, [], [], out, upd_same, same_upd hP, .nil, Nat.zero_le _, by rw [List.drop_zero]; exact e2, rfl⟩, ?_⟩
  rintro i' n Hc ⟨hn, vs', acc, rest, hc, sc, ac, lc, go, eo⟩
  have hca := sc _ _ hfa
  have Ec : EnvOk K (plus S P) B Hc σ (ρ.set i .no) := E1.grow sc hP (by rw [hc]; exact fun z => nomatch z)
  cases n with
  | zero =>
    refine .inl ⟨⟨hca, by omega⟩, hca, ?_⟩
    rw [List.drop_of_length_le (by omega)] at go
    cases go
    rw [List.append_nil] at eo
    subst eo
    refine k P vs' (upd Hc a (.dK es)) (fun b o q => ?_) ?_ (by rw [upd_ne hPa]; exact hc) (by rw [frz_hid (.inl hS)]; exact ac)
    · by_cases hb : b = a
      · rw [hb] at q ⊢
        rw [upd_same, ← hH]
        exact q
      · rw [upd_ne hb]
        refine sc b o ?_
        rw [← hHf, upd_ne hb]
        exact q
    · rw [← hHf, upd_ne hPa] at hP
      exact hP
  | succ n =>
    obtain ⟨kv, hkv⟩ : ∃ kv, kvs[i']? = some kv := ⟨kvs[i'], List.getElem?_eq_getElem (by omega)⟩
    obtain ⟨d, hd1⟩ : ∃ d, ds[i']? = some d ∧ d = kD kv.1 := ⟨kD kv.1, by rw [← hds, List.getElem?_map, hkv]; rfl, rfl⟩
    obtain ⟨hd1, hdk⟩ := hd1
    have ed : ds.drop i' = d :: ds.drop (i' + 1) := by
      obtain ⟨hl, hx⟩ := List.getElem?_eq_some_iff.mp hd1
      rw [List.drop_eq_getElem_cons hl, hx]
    rw [ed] at go
    obtain ⟨ρ3, m1', m2'⟩ := bind_some go
    refine .inr ⟨⟨hca, by omega⟩, fun H' => i' + 1 + n = ds.length ∧ ∃ (vs' : List V) (acc rest : List D), H' P = some (.lst vs') ∧ Same Hf H' ∧ DqAll K (hid (plus S P) H') vs' acc ∧ vs'.length ≤ i' + 1 ∧ lcGo (gN j) tt (mVar j) (wipeR ρ [j]) (ds.drop (i' + 1)) = some rest ∧ out = acc ++ rest, fun H' w => ⟨n, by omega, w⟩, fun x H' hx => ?_⟩
    obtain ⟨rfl, ky, vv, hky, rfl⟩ := hx
    have hkk : ky = kv.1 := by
      obtain ⟨b, hb, hb1, _⟩ := paired_get hd hky
      rw [hkv] at hb
      cases hb
      exact hb1
    have px : Dq K (hid (plus S P) H') (kV ky) d := by
      rw [hdk, hkk]
      exact kD_dp _
    have E3 := Ec.wipe [j]
    have hρ : ((wipeR (ρ.set i .no) [j]).set j (.dat d)).set i (.dic kvs) = ρ3 := by
      have h3 : ρ3 = (wipeR ρ [j]).set j (.dat d) := (Option.some.inj m1').symm
      rw [h3]
      show ((((ρ.set i .no).set j .no).set j (.dat d)).set i (.dic kvs)) = (ρ.set j .no).set j (.dat d)
      rw [List.set_set, List.set_set, List.set_comm _ _ hij, List.set_set]
      refine List.ext_getElem? fun l => ?_
      by_cases hl : i = l
      · subst hl
        have hlt : i < (ρ.set j (.dat d)).length := by
          rw [List.length_set]
          exact (List.getElem?_eq_some_iff.mp hi).1
        rw [List.getElem?_set_self hlt, List.getElem?_set_ne (Ne.symm hij), hi]
      · rw [List.getElem?_set_ne hl]
    refine ⟨plus S P, B, _, d, _, E3, .inl px, rfl, fun σ2 E4 hσ hl => ⟨?_, ?_⟩⟩
    · rw [wipe_eq hl hσ, wipe_wipe]
    · have hσi : σ2[i]? = some (some (.ref a)) := by
        rw [hσ i (by simp [hij]), wipe_get (by simp [hij])]
        exact ha
      have F2 : FrzAt K (plus S P) H' σ2 i kvs := ⟨a, od, es, hσi, hca, by
        refine hd.mono ?_
        rw [← hfh]
        intro b o q
        obtain ⟨n1, n2⟩ := of_hid q
        refine hid_of (fun z => ?_) (sc b o n2)
        rcases z with z | z
        · exact n1 z
        · rw [z, hP] at n2
          cases n2⟩
      have cP : ∀ {H2 : Hp}, Same H' H2 → H2 P = some (.lst vs') := fun s => s _ _ hc
      have mj : ∀ {r : Rho}, ρ3 = r.set j (.dat d) → mVar j ρ3 = some d ∨ mVar j ρ3 = none := fun {r} hr => by
        unfold mVar
        cases q : ρ3[j]? with
        | none => exact .inr rfl
        | some y =>
          rw [hr] at q
          have := set_at q
          subst this
          exact .inl rfl
      cases qt : tt ρ3 with
      | none =>
        rw [qt] at m2'
        cases m2'
      | some b =>
        rw [qt] at m2'
        cases b <;> try (cases m2'; done)
        rename_i b
        cases b
        · have m2' : lcGo (gN j) tt (mVar j) (wipeR ρ [j]) (ds.drop (i' + 1)) = some rest := m2'
          refine ⟨plus S P, B, _, kvs, false, E4, F2, by rw [hρ]; exact qt, fun H5 s5 => iteF ⟨by omega, vs', acc, rest, cP s5, sc.trans s5, ac.mono (same_hid s5), by omega, m2', eo⟩⟩
        · obtain ⟨yd, m3, m4⟩ := bind_some (show ((mVar j ρ3).bind fun y => (lcGo (gN j) tt (mVar j) (wipeR ρ [j]) (ds.drop (i' + 1))).map fun r => y :: r) = some rest from m2')
          obtain ⟨rest', m5, rfl⟩ := map_some m4
          have m3' : mVar j ((wipeR (ρ.set i .no) [j]).set j (.dat d)) = some yd := by
            rw [← m3, ← hρ]
            unfold mVar
            rw [List.getElem?_set_ne hij]
          refine ⟨plus S P, B, _, kvs, true, E4, F2, by rw [hρ]; exact qt, fun H5 s5 => iteT ⟨plus S P, B, _, yd, E4.step s5, m3', fun v H6 s6 p6 => ⟨vs', cP (s5.trans s6), by omega, by omega, vs' ++ [v], acc ++ [yd], rest', upd_same, ?_, ?_, ?_, m5, ?_⟩⟩⟩
          · exact fun b o q => by
              have hb : b ≠ P := ne_of_none q hP
              rw [upd_ne hb]
              exact s6 _ _ (s5 _ _ (sc _ _ q))
          · have sh : Same (hid (plus S P) H6) (hid (plus S P) (upd H6 P (.lst (vs' ++ [v])))) := fun b o q => by
              obtain ⟨n1, n2⟩ := of_hid q
              refine hid_of n1 ?_
              rw [upd_ne (fun z => n1 (.inr z))]
              exact n2
            exact ((ac.mono (same_hid (s5.trans s6))).snoc p6).mono sh
          · rw [List.length_append, List.length_singleton]
            omega
          · rw [eo, List.append_assoc]
            rfl
theorem ld_keys {j : Nat} {tt : Mir} {x y : Str} {px py pe : Pos} {ifs : List Expr} {scope : Scope} (hij : i ≠ j) (hc : X.calm = true) (hN : X.N.Nodup) (hX : X.N[i]? = some x) (hv : Vis X.env.scope x)
    (ok : BlkOk X.N X.env.scope scope [(y, j)])
    (hg : ∀ (s : Shared) (H : Hp) (C : Addr) (cl : List (Str × Addr)) (fp : List Addr), PGD (X.blk s H scope (compEnvC scope cl C X.env) fp) false (.Name y py) [j] (gN j))
    (ht : ∀ (s : Shared) (H : Hp) (C : Addr) (cl : List (Str × Addr)) (fp : List Addr), PTs (X.blk s H scope (compEnvC scope cl C X.env) fp) ifs (ttOfF X.K i tt))
    (he : ∀ (s : Shared) (H : Hp) (C : Addr) (cl : List (Str × Addr)) (fp : List Addr), PD (X.blk s H scope (compEnvC scope cl C X.env) fp) (.Name y pe) (mVar j)) (hd : (x == ("__debug__" : Str)) = false := by decide)
    (hcd : (x == ("__classdict__" : Str)) = false := by decide) (hs : ∀ z, foldedSetIterable (.Name x px) X.env z = pure z := by intro _; rfl) :
    PLD X (.ListComp (.Name y pe) [⟨.Name y py, .Name x px, ifs, 0⟩] scope pos) (lKeys i j tt) :=
  weak (pe_lock (pe_lc (own := [(y, j)]) hc hN (pi_keys (pe_var hX hv hd hcd)) ok hg ht he hs)) (keys_of hij)
/-- here, there = two new dicts -/
def sDPar (i j : Nat) (g g' : MirM) : MirS := fun ρ => (g ρ).bind fun ks => (g' ρ).map fun ls => Out.nx ((ρ.set i (.dic ks)).set j (.dic ls))
theorem sd_dpar {i j : Nat} {x y : Str} {a b : Expr} {g g' : MirM} {px py pt : Pos} {kt k2 pt2} (hc : X.calm = true) (hN : X.N.Nodup) (ha : PND X a g) (hb : PND X b g') (hi : X.N[i]? = some x := by rfl) (hj : X.N[j]? = some y := by rfl) (hij : i ≠ j := by decide)
    (hx : X.env.scope.names.lookup x = some .local := by rfl) (hy : X.env.scope.names.lookup y = some .local := by rfl)
    (hsa : starEach [a, b] X.env = (false, eval a X.env) :: starEach [b] X.env := by rfl) (hsb : starEach [b] X.env = (false, eval b X.env) :: starEach [] X.env := by rfl)
    (hw : swappedStores [.Tuple [.Name x px, .Name y py] kt pt] (.Tuple [a, b] k2 pt2) X.env = pure (some [x, y]) := by rfl)
    (hs : swapsWithSole [.Tuple [.Name x px, .Name y py] kt pt] (.Tuple [a, b] k2 pt2) pos.line X.env = pure false := by rfl) :
    PSD X (.Assign [.Tuple [.Name x px, .Name y py] kt pt] (.Tuple [a, b] k2 pt2) pos) (sDPar i j g g') :=
  weakS (ps_par hc hN hi hj hij hx hy (pa_cons ha (pa_cons hb pa_nil hsb) hsa) hw hs) fun Dn σ H ⟨T, B, ρ, o, ⟨S, E⟩, e, k⟩ => by
    obtain ⟨ks, e1, e2⟩ := bind_some e
    obtain ⟨ls, e3, rfl⟩ := map_some e2
    refine ⟨S, B, ρ, ks, E.env, e1, fun p es H1 s1 hp hq d => ?_⟩
    have hq0 : H1 p ≠ none := by rw [hq]; exact fun z => nomatch z
    refine ⟨plus S p, B, ρ, ls, E.env.grow s1 hp hq0, e3, fun p' es' H2 s2 hp' hq' d' => ⟨_, _, rfl, ?_⟩⟩
    have E1 : StOk X.K (plus S p) T B H1 (σ.set i (some (.ref p))) (ρ.set i (.dic ks)) := E.setNew s1 hp hq0 ⟨p, es, rfl, .inr rfl, E.env.base.free hp, hq, d⟩
    exact k _ H2 ⟨_, E1.setNew s2 hp' (by rw [hq']; exact fun z => nomatch z) ⟨p', es', rfl, .inr rfl, E1.env.base.free hp', hq', d'⟩⟩
/-- the same where a name is captured by a block: through a tuple -/
theorem sd_dparC {i j : Nat} {x y : Str} {a b : Expr} {g g' : MirM} {px py pt : Pos} {kt k2 pt2} (hc : X.calm = true) (hN : X.N.Nodup) (ha : PND X a g) (hb : PND X b g') (hi : X.N[i]? = some x := by rfl) (hj : X.N[j]? = some y := by rfl)
    (hx : Loc X.env.scope x := by first | exact .inl rfl | exact .inr rfl) (hy : Loc X.env.scope y := by first | exact .inl rfl | exact .inr rfl)
    (fx : X.fn x = true ∨ X.env.scope.names.lookup x = some .local := by first | exact .inl rfl | exact .inr rfl | assumption) (fy : X.fn y = true ∨ X.env.scope.names.lookup y = some .local := by first | exact .inl rfl | exact .inr rfl | assumption)
    (hsa : starEach [a, b] X.env = (false, eval a X.env) :: starEach [b] X.env := by rfl) (hsb : starEach [b] X.env = (false, eval b X.env) :: starEach [] X.env := by rfl)
    (hs : swapsWithSole [.Tuple [.Name x px, .Name y py] kt pt] (.Tuple [a, b] k2 pt2) pos.line X.env = pure false := by rfl)
    (hw : swappedStores [.Tuple [.Name x px, .Name y py] kt pt] (.Tuple [a, b] k2 pt2) X.env = pure none := by rfl)
    (h1 : (assignEach [.Tuple [.Name x px, .Name y py] kt pt] X.env).map (·.2) = [assign (.Tuple [.Name x px, .Name y py] kt pt) X.env] := by rfl)
    (hn : (assignEach [.Name x px, .Name y py] X.env).length = 2 := by rfl) (hst : (assignEach [.Name x px, .Name y py] X.env).findIdx? (·.1) = none := by rfl) :
    PSD X (.Assign [.Tuple [.Name x px, .Name y py] kt pt] (.Tuple [a, b] k2 pt2) pos) (sDPar i j g g') :=
  weakS (ps_asg (pe_tupF (pa_cons ha (pa_cons hb pa_nil hsb) hsa)) (pg_tup hc (pgs_cons (pg_name (i := i) hN hi hx fx) (pgs_cons (pg_name (i := j) hN hj hy fy) pgs_nil)) hn hst) hs hw h1) fun Dn σ H ⟨T, B, ρ, o, ⟨S, E⟩, e, k⟩ => by
    obtain ⟨ks, e1, e2⟩ := bind_some e
    obtain ⟨ls, e3, rfl⟩ := map_some e2
    refine ⟨S, B, ρ, ks, E.env, e1, fun p es H1 s1 hp hq d => ?_⟩
    have hq0 : H1 p ≠ none := by rw [hq]; exact fun z => nomatch z
    refine ⟨plus S p, B, ρ, ls, E.env.grow s1 hp hq0, e3, fun p' es' H2 s2 hp' hq' d' => ⟨by show 2 ≤ sizeLine; decide, fun q oq hfree _ => ?_⟩⟩
    have s3 : Same H2 (upd H2 q (.frz oq (.tup [.ref p, .ref p']))) := same_upd hfree
    refine ⟨q, [.ref p, .ref p'], rfl, .inl (.inr ⟨oq, upd_same⟩), rfl, _, _, rfl, _, _, rfl, rfl, ?_⟩
    have E1 : StOk X.K (plus S p) T B H1 (σ.set i (some (.ref p))) (ρ.set i (.dic ks)) := E.setNew s1 hp hq0 ⟨p, es, rfl, .inr rfl, E.env.base.free hp, hq, d⟩
    have E2 := E1.setNew (i := j) s2 hp' (by rw [hq']; exact fun z => nomatch z) (x := .dic ls) ⟨p', es', rfl, .inr rfl, E1.env.base.free hp', hq', d'⟩
    exact k _ _ ⟨_, E2.step s3⟩
end
end Pu

set_option Elab.async false
set_option linter.all false
set_option autoImplicit false
set_option maxRecDepth 100000
/-! dict(zip(tuple, tuple)) -/
namespace Pu
open PySem PySem.Spec PyProof.Rows L2
section
variable {pg : Program} {wd : World} {Ar : Around} {Ex : Value → Shared → Prop} {st : Shared}
theorem zt_item {q ti tu old ia ib la lb : Addr} {fl : Bool} {ob : Obj} {ma mb : Nat} {us vs : Array Value} {u v : Value} {Po : Value → Shared → Prop} (Ap : ZipApart q ti tu ia ib la lb)
    (gz : IsZipHeld st.heap q ti tu old fl) (go : st.heap.get? old = some ob) (gt : IsPair st.heap ti (.ref ia) (.ref ib))
    (ga : st.heap.IsTupleIter ia la ma) (gb : st.heap.IsTupleIter ib lb mb) (sa : st.heap.IsTuple la us) (sb : st.heap.IsTuple lb vs) (eu : us[ma]? = some u) (ev : vs[mb]? = some v)
    (k : ∀ g, IsZipHeld g q ti tu old true → g.IsTupleIter ia la (ma + 1) → g.IsTupleIter ib lb (mb + 1) → IsPair g st.heap.objs.size u v → g.objs.size = st.heap.objs.size + 1 →
      (∀ c o, c ≠ q → c ≠ ia → c ≠ ib → st.heap.get? c = some o → g.get? c = some o) → Po (.ref st.heap.objs.size) { st with heap := g }) :
    wpAny (model pg wd) Ar (Builtin.«zip.__next__» ⟨[.ref q], []⟩) (fun fin z => ∃ r, fin = .done (.ret r) ∧ Po r z) Ex st := by
  show wpAny _ _ (field (.ref q) 2 >>= _) _ _ _
  refine wpAny_bind (wpAny_field gz rfl (x := .bool false) rfl ?_); show wpAny _ _ (field (.ref q) 3 >>= _) _ _ _
  refine wpAny_bind (wpAny_field gz rfl (x := .ref ti) rfl (wpAny_bind (wpAny_seqItems gt rfl ?_))); show wpAny _ _ (Builtin.SmallTypes.ownedTupleIsFree (.ref q) >>= _) _ _ _
  refine wpAny_bind (wpAny_tupleHeld_zip gz go fun g1 z1 d1 => ?_); simp only [if_false, Bool.false_eq_true]
  refine wpAny_bind ?_; rw [← Array.forIn_toList]; simp only [List.forIn_nil, List.forIn_cons]
  refine wpAny_bind (wpAny_bind (wpAny_holding ?_)); show wpAny _ _ (Builtin.SmallTypes.nextOf (.ref ia) >>= _) _ _ _
  have xb : ∀ {a b : Addr} {n : Nat} {g g' : Heap} {c : Addr}, Heap.SameBut c g g' → a ≠ c → g.IsTupleIter a b n → g'.IsTupleIter a b n := fun d ne ⟨o, e, r⟩ => ⟨o, d.extBut _ _ ne e, r⟩
  have xl : ∀ {a : Addr} {is : Array Value} {g g' : Heap} {c : Addr}, Heap.SameBut c g g' → a ≠ c → g.IsTuple a is → g'.IsTuple a is := fun d ne ⟨o, e, r⟩ => ⟨o, d.extBut _ _ ne e, r⟩
  refine wpAny_bind (RZ.nextOf_tuple_item (s := { st with heap := g1 }) (xb d1 Ap.i1z ga) (xl d1 Ap.l1z sa) eu fun g2 n2 d2 => wpAny_pure (wpAny_pure ?_))
  refine wpAny_bind (wpAny_bind (wpAny_holding ?_)); show wpAny _ _ (Builtin.SmallTypes.nextOf (.ref ib) >>= _) _ _ _
  refine wpAny_bind (RZ.nextOf_tuple_item (s := { st with heap := g2 }) (xb d2 Ap.i12.symm (xb d1 Ap.i2z gb)) (xl d2 Ap.l2i1 (xl d1 Ap.l2z sb)) ev fun g3 n3 d3 => wpAny_pure (wpAny_pure (wpAny_pure ?_)))
  show wpAny _ _ (newTuple [u, v] >>= _) _ _ _
  refine wpAny_bind (wpAny_newTuple (wpAny_pure ⟨_, rfl, ?_⟩))
  have e3 : g3.objs.size = st.heap.objs.size := by rw [d3.1, d2.1, d1.1]
  have z3 : IsZipHeld g3 q ti tu old true := d3.extBut _ _ Ap.i2z.symm (d2.extBut _ _ Ap.i1z.symm z1)
  have pr : IsPair (g3.push { cls := .type "tuple", data := .seq #[u, v] }) g3.objs.size u v := Heap.get?_push_size _ rfl
  have sz : (g3.push { cls := .type "tuple", data := .seq #[u, v] }).objs.size = g3.objs.size + 1 := Heap.size_push ..
  show Po (.ref g3.objs.size) _
  rw [e3] at pr sz ⊢
  have up : ∀ {a b : Addr} {n : Nat} {g : Heap} {o : Obj}, g.IsTupleIter a b n → (g.push o).IsTupleIter a b n := fun ⟨o, e, r⟩ => ⟨o, Heap.get?_push_of_some _ e, r⟩
  exact k _ (Heap.get?_push_of_some _ z3) (up (xb d3 Ap.i12 n2)) (up n3) pr sz fun c o c1 c2 c3 e => Heap.get?_push_of_some _ (d3.extBut _ _ c3 (d2.extBut _ _ c2 (d1.extBut _ _ c1 e)))
theorem zt_end {q ti tu old ia ib la lb : Addr} {fl : Bool} {ob : Obj} {ma mb : Nat} {us vs : Array Value} {Po : Fin → Shared → Prop} (hn : Ar.handled = none) (Ap : ZipApart q ti tu ia ib la lb)
    (gz : IsZipHeld st.heap q ti tu old fl) (go : st.heap.get? old = some ob) (gt : IsPair st.heap ti (.ref ia) (.ref ib))
    (ga : st.heap.IsTupleIter ia la ma) (gb : st.heap.IsTupleIter ib lb mb) (sa : st.heap.IsTuple la us) (sb : st.heap.IsTuple lb vs) (en : us[ma]? = none ∨ vs[mb]? = none)
    (k : ∀ g e, (∀ c o, c ≠ q → c ≠ ia → c ≠ ib → st.heap.get? c = some o → g.get? c = some o) → (∃ o, g.get? e = some o ∧ o.cls = .type "StopIteration") → Ex (.ref e) { st with heap := g }) :
    wpAny (model pg wd) Ar (Builtin.«zip.__next__» ⟨[.ref q], []⟩) Po Ex st := by
  show wpAny _ _ (field (.ref q) 2 >>= _) _ _ _
  refine wpAny_bind (wpAny_field gz rfl (x := .bool false) rfl ?_); show wpAny _ _ (field (.ref q) 3 >>= _) _ _ _
  refine wpAny_bind (wpAny_field gz rfl (x := .ref ti) rfl (wpAny_bind (wpAny_seqItems gt rfl ?_))); show wpAny _ _ (Builtin.SmallTypes.ownedTupleIsFree (.ref q) >>= _) _ _ _
  refine wpAny_bind (wpAny_tupleHeld_zip gz go fun g1 z1 d1 => ?_); simp only [if_false, Bool.false_eq_true]
  refine wpAny_bind ?_; rw [← Array.forIn_toList]; simp only [List.forIn_nil, List.forIn_cons]
  refine wpAny_bind (wpAny_bind (wpAny_holding ?_)); show wpAny _ _ (Builtin.SmallTypes.nextOf (.ref ia) >>= _) _ _ _
  have xb : ∀ {a b : Addr} {n : Nat} {g g' : Heap} {c : Addr}, Heap.SameBut c g g' → a ≠ c → g.IsTupleIter a b n → g'.IsTupleIter a b n := fun d ne ⟨o, e, r⟩ => ⟨o, d.extBut _ _ ne e, r⟩
  have xl : ∀ {a : Addr} {is : Array Value} {g g' : Heap} {c : Addr}, Heap.SameBut c g g' → a ≠ c → g.IsTuple a is → g'.IsTuple a is := fun d ne ⟨o, e, r⟩ => ⟨o, d.extBut _ _ ne e, r⟩
  cases eu : us[ma]? with
  | none => exact wpAny_bind (RZ.nextOf_tuple_end (s := { st with heap := g1 }) hn (xb d1 Ap.i1z ga) (xl d1 Ap.l1z sa) eu fun g2 e d2 he => k g2 e (fun c o c1 c2 _ x => d2 _ _ c2 (d1.extBut _ _ c1 x)) he)
  | some u =>
    have ev : vs[mb]? = none := en.resolve_left fun z => by
      rw [eu] at z
      cases z
    refine wpAny_bind (RZ.nextOf_tuple_item (s := { st with heap := g1 }) (xb d1 Ap.i1z ga) (xl d1 Ap.l1z sa) eu fun g2 n2 d2 => wpAny_pure (wpAny_pure ?_))
    refine wpAny_bind (wpAny_bind (wpAny_holding ?_)); show wpAny _ _ (Builtin.SmallTypes.nextOf (.ref ib) >>= _) _ _ _
    exact wpAny_bind (RZ.nextOf_tuple_end (s := { st with heap := g2 }) hn (xb d2 Ap.i12.symm (xb d1 Ap.i2z gb)) (xl d2 Ap.l2i1 (xl d1 Ap.l2z sb)) ev fun g3 e d3 he => k g3 e (fun c o c1 c2 c3 x => d3 _ _ c3 (d2.extBut _ _ c2 (d1.extBut _ _ c1 x))) he)
theorem zt_nextI {q ti tu old ia ib la lb : Addr} {fl : Bool} {ob : Obj} {ma mb : Nat} {us vs : Array Value} {u v : Value} {Po : Option Value → Shared → Prop} (Ap : ZipApart q ti tu ia ib la lb)
    (gz : IsZipHeld st.heap q ti tu old fl) (go : st.heap.get? old = some ob) (gt : IsPair st.heap ti (.ref ia) (.ref ib))
    (ga : st.heap.IsTupleIter ia la ma) (gb : st.heap.IsTupleIter ib lb mb) (sa : st.heap.IsTuple la us) (sb : st.heap.IsTuple lb vs) (eu : us[ma]? = some u) (ev : vs[mb]? = some v)
    (k : ∀ g, IsZipHeld g q ti tu old true → g.IsTupleIter ia la (ma + 1) → g.IsTupleIter ib lb (mb + 1) → IsPair g st.heap.objs.size u v → g.objs.size = st.heap.objs.size + 1 →
      (∀ c o, c ≠ q → c ≠ ia → c ≠ ib → st.heap.get? c = some o → g.get? c = some o) → Po (some (.ref st.heap.objs.size)) { st with heap := g }) : wpAny (model pg wd) Ar (pyNext (.ref q)) Po Ex st := by
  have ty : st.TypeIs (.ref q) "zip" := ⟨_, gz, rfl⟩
  unfold pyNext
  exact wpAny_bind (wpAny_attempt (wpAny_callSpecial?_slot (name := Str.ofString "__next__") ty F.slot_zip_next (wpAny_call_entry F.slot_zip_next ty F.entry_zip_next (zt_item Ap gz go gt ga gb sa sb eu ev fun g b1 b2 b3 b4 b5 b6 => wpAny_pure (k g b1 b2 b3 b4 b5 b6)) (F.args_zip_next_1 _))))
theorem zt_nextE {q ti tu old ia ib la lb : Addr} {fl : Bool} {ob : Obj} {ma mb : Nat} {us vs : Array Value} {Po : Option Value → Shared → Prop} (hn : Ar.handled = none) (Ap : ZipApart q ti tu ia ib la lb)
    (gz : IsZipHeld st.heap q ti tu old fl) (go : st.heap.get? old = some ob) (gt : IsPair st.heap ti (.ref ia) (.ref ib))
    (ga : st.heap.IsTupleIter ia la ma) (gb : st.heap.IsTupleIter ib lb mb) (sa : st.heap.IsTuple la us) (sb : st.heap.IsTuple lb vs) (en : us[ma]? = none ∨ vs[mb]? = none)
    (k : ∀ g, (∀ c o, c ≠ q → c ≠ ia → c ≠ ib → st.heap.get? c = some o → g.get? c = some o) → Po none { st with heap := g }) : wpAny (model pg wd) Ar (pyNext (.ref q)) Po Ex st := by
  have ty : st.TypeIs (.ref q) "zip" := ⟨_, gz, rfl⟩
  unfold pyNext
  refine wpAny_bind (wpAny_attempt (wpAny_callSpecial?_slot (name := Str.ofString "__next__") ty F.slot_zip_next (wpAny_call_entry F.slot_zip_next ty F.entry_zip_next (zt_end hn Ap gz go gt ga gb sa sb en fun g e hk ⟨o, ho, hc⟩ => ?_) (F.args_zip_next_1 _))))
  exact wpAny_bind (wpAny_isInstance (T := "StopIteration") (b := true) ⟨o, ho, hc⟩ isSubtype_stop (wpAny_pure (k _ hk)))
end
theorem zt_arg {pg : Program} {wd : World} (q ti tu ia ib la lb : Addr) (Ap : ZipApart q ti tu ia ib la lb) (us vs : Array Value) :
    PairArg pg wd "zip" q [q, ti, tu, ia, ib, la, lb] [q, tu, ia, ib] (min us.size vs.size) (fun i k v => us[i]? = some k ∧ vs[i]? = some v)
      (fun g => IsZip g q ti tu .none ∧ IsPair g ti (.ref ia) (.ref ib) ∧ (∃ a b, IsPair g tu a b) ∧ g.IsTupleIter ia la 0 ∧ g.IsTupleIter ib lb 0 ∧ g.IsTuple la us ∧ g.IsTuple lb vs) := by
  have kI : ∀ {a b : Addr} {n : Nat} {g g' : Heap}, g.IsTupleIter a b n → (∀ o, g.get? a = some o → g'.get? a = some o) → g'.IsTupleIter a b n := fun ⟨o, e, r⟩ f => ⟨o, f o e, r⟩
  have kT : ∀ {a : Addr} {is : Array Value} {g g' : Heap}, g.IsTuple a is → (∀ o, g.get? a = some o → g'.get? a = some o) → g'.IsTuple a is := fun ⟨o, e, r⟩ f => ⟨o, f o e, r⟩
  exact {
    type := fun s ok => ⟨_, ok.1, rfl⟩
    notDict := by decide
    keep := fun h h' ⟨gz, gt, ⟨a, b, gu⟩, ga, gb, sa, sb⟩ hk => ⟨hk _ _ gz, hk _ _ gt, ⟨a, b, hk _ _ gu⟩, kI ga (hk _), kI gb (hk _), kT sa (hk _), kT sb (hk _)⟩
    there := fun h ⟨gz, gt, ⟨a, c, gu⟩, ⟨o1, h1, _⟩, ⟨o2, h2, _⟩, ⟨o3, h3, _⟩, ⟨o4, h4, _⟩⟩ b hb => by
      simp only [List.mem_cons, List.not_mem_nil, or_false] at hb
      rcases hb with rfl | rfl | rfl | rfl | rfl | rfl | rfl
      all_goals first | exact ⟨_, gz⟩ | exact ⟨_, gt⟩ | exact ⟨_, gu⟩ | exact ⟨_, h1⟩ | exact ⟨_, h2⟩ | exact ⟨_, h3⟩ | exact ⟨_, h4⟩
    sub := fun b hb => by
      simp only [List.mem_cons, List.not_mem_nil, or_false] at hb ⊢
      rcases hb with z | z | z | z <;> simp [z]
    noKeys := fun A s Q E hA ok h => getAttrOr_miss_zip ok.1 rfl rfl rfl zip_no_keys (by decide +kernel) hA h
    iter := fun A s d Q E hA ⟨gz, gt, ⟨a, b, gu⟩, ga, gb, sa, sb⟩ hd hdf h => by
      simp only [List.mem_cons, List.not_mem_nil, or_false, not_or] at hdf
      obtain ⟨nq, nti, ntu, nia, nib, nla, nlb⟩ := hdf
      refine wpAny_pyIter_zip gz (h q [q, tu, ia, ib] (fun i g => IsPair g ti (.ref ia) (.ref ib) ∧ g.IsTupleIter ia la i ∧ g.IsTupleIter ib lb i ∧ g.IsTuple la us ∧ g.IsTuple lb vs ∧
        ((IsZip g q ti tu .none ∧ ∃ a b, IsPair g tu a b) ∨ ∃ T f oT, IsZipHeld g q ti tu T f ∧ g.get? T = some oT ∧ T ≠ q ∧ T ≠ ia ∧ T ≠ ib ∧ T ≠ d)) s.heap s.toks ?_ ⟨gt, ga, gb, sa, sb, .inl ⟨gz, a, b, gu⟩⟩ (fun _ _ e => e) fun b hb => .inl hb)
      exact {
        off := fun hm => by
          simp only [List.mem_cons, List.not_mem_nil, or_false] at hm
          rcases hm with e | e | e | e
          · exact nq e
          · exact ntu e
          · exact nia e
          · exact nib e
        frame := fun i h1 h2 ⟨gt, ga, gb, sa, sb, gz⟩ hk => by
          refine ⟨hk _ _ (Ne.symm nti) gt, kI ga (fun o => hk _ o (Ne.symm nia)), kI gb (fun o => hk _ o (Ne.symm nib)), kT sa (fun o => hk _ o (Ne.symm nla)), kT sb (fun o => hk _ o (Ne.symm nlb)), ?_⟩
          rcases gz with ⟨gz, a, b, gu⟩ | ⟨T, f, oT, gz, gT, r1, r2, r3, r4⟩
          · exact .inl ⟨hk _ _ (Ne.symm nq) gz, a, b, hk _ _ (Ne.symm ntu) gu⟩
          · exact .inr ⟨T, f, oT, hk _ _ (Ne.symm nq) gz, hk _ _ r4 gT, r1, r2, r3, r4⟩
        item := fun i s1 Q1 E1 hi ⟨gt, ga, gb, sa, sb, gz⟩ hds hQ => by
          have eu := Array.getElem?_eq_getElem (Nat.lt_of_lt_of_le hi (Nat.min_le_left ..))
          have ev := Array.getElem?_eq_getElem (Nat.lt_of_lt_of_le hi (Nat.min_le_right ..))
          have nw : ∀ {c o}, s1.heap.get? c = some o → s1.heap.objs.size ≠ c := fun e => Nat.ne_of_gt (Heap.lt_size e)
          have w1 : s1.heap.objs.size ≠ ia := let ⟨_, e, _⟩ := ga; nw e
          have w2 : s1.heap.objs.size ≠ ib := let ⟨_, e, _⟩ := gb; nw e
          rcases gz with ⟨gz, a, b, gu⟩ | ⟨T, f, oT, gz, gT, r1, r2, r3, r4⟩
          · refine RZ.pyNext_zipT_item Ap gz gt gu ga gb sa sb eu ev fun g a1 a2 a3 a4 a5 a6 hk => ?_
            exact hQ s1.heap.objs.size _ _ g s1.toks ⟨eu, ev⟩ (.inl ⟨_, a5, rfl, _, rfl⟩) ⟨hk _ _ Ap.TIz Ap.TITO Ap.TIi1 Ap.TIi2 gt, a3, a4, kT sa (fun o => hk _ o Ap.l1z Ap.l1TO Ap.l1i1 Ap.l1i2), kT sb (fun o => hk _ o Ap.l2z Ap.l2TO Ap.l2i1 Ap.l2i2), .inr ⟨s1.heap.objs.size, false, _, a1, a5, nw gz, w1, w2, Nat.ne_of_gt hds⟩⟩
              fun c o hc e => hk c o (fun x => hc (by simp [x])) (fun x => hc (by simp [x])) (fun x => hc (by simp [x])) (fun x => hc (by simp [x])) e
          · refine zt_nextI Ap gz gT gt ga gb sa sb eu ev fun g a1 a3 a4 a5 a6 hk => ?_
            exact hQ s1.heap.objs.size _ _ g s1.toks ⟨eu, ev⟩ (.inl ⟨_, a5, rfl, _, rfl⟩) ⟨hk _ _ Ap.TIz Ap.TIi1 Ap.TIi2 gt, a3, a4, kT sa (fun o => hk _ o Ap.l1z Ap.l1i1 Ap.l1i2), kT sb (fun o => hk _ o Ap.l2z Ap.l2i1 Ap.l2i2), .inr ⟨T, true, oT, a1, hk _ _ r1 r2 r3 gT, r1, r2, r3, r4⟩⟩
              fun c o hc e => hk c o (fun x => hc (by simp [x])) (fun x => hc (by simp [x])) (fun x => hc (by simp [x])) e
        done := fun s1 Q1 E1 ⟨gt, ga, gb, sa, sb, gz⟩ hQ => by
          have en : us[min us.size vs.size]? = none ∨ vs[min us.size vs.size]? = none := by
            rcases Nat.le_total us.size vs.size with h | h
            · exact .inl (Array.getElem?_eq_none (by omega))
            · exact .inr (Array.getElem?_eq_none (by omega))
          rcases gz with ⟨gz, a, b, gu⟩ | ⟨T, f, oT, gz, gT, r1, r2, r3, r4⟩
          · exact RZ.pyNext_zipT_end hA Ap gz gt gu ga gb sa sb en fun g hk => hQ g s1.toks fun c o hc e => hk c o (fun x => hc (by simp [x])) (fun x => hc (by simp [x])) (fun x => hc (by simp [x])) (fun x => hc (by simp [x])) e
          · exact zt_nextE hA Ap gz gT gt ga gb sa sb en fun g hk => hQ g s1.toks fun c o hc e => hk c o (fun x => hc (by simp [x])) (fun x => hc (by simp [x])) (fun x => hc (by simp [x])) e } }
end Pu

set_option Elab.async false
set_option linter.all false
set_option autoImplicit false
set_option maxRecDepth 100000
/-! dict(zip(tuple, tuple)) as a new dict -/
namespace Pu
open PySem PySem.Spec PyProof.Rows L2
/-- the pairs of two rows, as many as the shorter has -/
def zipK : List D → List D → Option KVs
  | x :: xs, y :: ys => (keyD x).bind fun k => (zipK xs ys).map fun r => (k, y) :: r
  | [], _ => some []
  | _ :: _, [] => some []
def dZip (r : MirA) : MirM := fun ρ => (r ρ).bind fun
  | [.tuple xs, .tuple ys] => (zipK xs ys).map fun kvs => mergeD [] kvs
  | _ => none
section
variable {X : Cx} {a b : Expr} {r : MirA}
theorem zip_rows {K : PySem.W.Frag} {F : Hp} (P : Program) (wo : World) : ∀ {xs ys : List D} {vs ws : List V} {us ts : List Value} {kvs : KVs}, DqAll K F vs xs → DqAll K F ws ys → Vals vs us → Vals ws ts → zipK xs ys = some kvs →
    ∃ (es : List (Key × V)) (prs : List (Key × Value)), DKV K F es kvs ∧ KV es prs ∧ prs.length = min us.length ts.length ∧ ∀ (j : Nat) (k v : Value), us[j]? = some k → ts[j]? = some v → ∃ key, prs[j]? = some (key, v) ∧ keyIs key k = true
  | [], _, _, _, _, _, _, .nil, _, .nil, _, e => by
    cases e
    exact ⟨[], [], .nil, .nil, by simp, fun j k v e _ => by simp at e⟩
  | _ :: _, [], _, _, _, _, _, .cons _ _, .nil, .cons _ _, .nil, e => by
    cases e
    exact ⟨[], [], .nil, .nil, by simp, fun j k v _ e => by simp at e⟩
  | x :: xs, y :: ys, _, _, _, _, kvs, .cons p1 q1, .cons p2 q2, .cons r1 t1, .cons r2 t2, e => by
    obtain ⟨k, e1, e2⟩ := bind_some (show ((keyD x).bind fun k => (zipK xs ys).map fun r => (k, y) :: r) = some kvs from e)
    obtain ⟨kv, e3, rfl⟩ := map_some e2
    obtain ⟨es, prs, h1, h2, h3, h4⟩ := zip_rows P wo q1 q2 t1 t2 e3
    have hk := key_dp p1 e1
    subst hk
    refine ⟨(k, _) :: es, (k, _) :: prs, .cons ⟨rfl, p2⟩ h1, .cons ⟨rfl, r2⟩ h2, by rw [List.length_cons, List.length_cons, List.length_cons, h3]; omega, fun j k' v' f1 f2 => ?_⟩
    cases j with
    | zero =>
      rw [List.getElem?_cons_zero] at f1 f2
      cases f1
      cases f2
      exact ⟨k, rfl, kV_is (P := P) (w := wo) r1⟩
    | succ j =>
      rw [List.getElem?_cons_succ] at f1 f2 ⊢
      exact h4 j k' v' f1 f2
theorem dn_zip {p p2 pos pos2 : Pos} (hg : Gl X "dict") (hm : X.mg "dict" = none) (hg2 : Gl X "zip") (hm2 : X.mg "zip" = none) (ha : PAD X [a, b] r) (hc : X.calm = true := by rfl)
    (he : starEach [.Call (.Name "zip" p2) [a, b] [] pos2] X.env = (false, eval (.Call (.Name "zip" p2) [a, b] [] pos2) X.env) :: starEach [] X.env := by rfl) (hpl : (backTo pos (starEach [] X.env)).any (·.1) = false := by rfl)
    (he2 : starEach [a, b] X.env = (false, eval a X.env) :: starEach [b] X.env := by rfl) (hpl2 : (backTo pos2 (starEach [b] X.env)).any (·.1) = false := by rfl) :
    PND X (.Call (.Name "dict" p) [.Call (.Name "zip" p2) [a, b] [] pos2] [] pos) (dZip r) := by
  refine ⟨fun pins s σ H Q I h => ?_⟩
  obtain ⟨S, B, ρ, kvs, E, e, k⟩ := h
  obtain ⟨ds, e1, e2⟩ := bind_some e
  split at e2
  case h_2 => cases e2
  rename_i xs ys
  obtain ⟨kv, e3, rfl⟩ := map_some e2
  refine wpAny_Call_Name_kw (ld_blt I hg hm boot_dict ?_ (by decide) (by decide))
  refine callWith_type1 ?_ he hpl
  rw [he]
  show wpAny _ _ (spliced ((false, eval (.Call (.Name "zip" p2) [a, b] [] pos2) X.env) :: backTo pos (starEach [] X.env))) _ _ s
  refine Calls.spliced_cons ?_
  refine wpAny_Call_Name_kw (ld_blt I hg2 hm2 boot_zip ?_ (by decide) (by decide))
  refine callWith_type1 (thn (ha.run pos2 pins s σ H (fun vs H1 => Same H H1 ∧ DqAll X.K (hid S H1) vs [.tuple xs, .tuple ys]) I ⟨S, B, ρ, _, E, e1, fun vs H1 s1 p1 => ⟨s1, p1⟩⟩) fun us s1 ⟨vs, H1, I1, r1, s01, p1⟩ => ?_) he2 hpl2
  obtain ⟨v, w, rfl, d1, d2⟩ := two_of p1
  cases d1 with
  | @tup la xv _ ta qa =>
    cases d2 with
    | @tup lb yv _ tb qb =>
      obtain ⟨u1, u2, rfl, ru, rw'⟩ := vals2 r1
      obtain rfl : u1 = Value.ref la := ru
      obtain rfl : u2 = Value.ref lb := rw'
      obtain ⟨its, rv, q1, z1⟩ := I1.tuple ((hid_same S H1).seqT ta.sq)
      obtain ⟨its2, rv2, q2, z2⟩ := I1.tuple ((hid_same S H1).seqT tb.sq)
      obtain ⟨o1, ho1, _⟩ := id q1
      obtain ⟨o2, ho2, _⟩ := id q2
      obtain ⟨es, prs, h1, h2, h3, h4⟩ := zip_rows X.prog X.w qa qb rv rv2 e3
      refine RZ.call_zipT (show s1.heap.IsTuple la its.toArray from q1) (show s1.heap.IsTuple lb its2.toArray from q2) fun h' hz hTI hTO g1 g2 hsz hk => ?_
      refine Calls.spliced_nil ?_
      have I2 : Inv X pins σ H1 { s1 with heap := h' } := I1.kept (t' := s1.toks) hk
      have kT : ∀ {a : Addr} {is : Array Value}, s1.heap.IsTuple a is → h'.IsTuple a is := fun ⟨o, e, r⟩ => ⟨o, hk _ _ e, r⟩
      refine call_dict_pairs (s := { s1 with heap := h' }) (knd := mixKind X.prog X.w) (kvs := prs) (zt_arg _ _ _ _ _ la lb (PySem.W.ktu_apart s1.heap.objs.size la lb (Heap.lt_size ho1) (Heap.lt_size ho2)) its.toArray its2.toArray) (I2.ok.hd hc) ⟨hz, hTI, ⟨_, _, hTO⟩, g1, g2, kT q1, kT q2⟩ ⟨by rw [h3]; simp, fun i key v ⟨f1, f2⟩ => ?_⟩ ?_ fun h'' tk hd' kp => ?_
      · obtain ⟨ky, f3, f4⟩ := h4 i key v (by simpa using f1) (by simpa using f2)
        exact ⟨ky, f3, f4⟩
      · have := rv.length
        rw [List.size_toArray, List.size_toArray]
        omega
      · have hle : ∀ c, c ∈ [s1.heap.objs.size + 4, s1.heap.objs.size + 3, s1.heap.objs.size, s1.heap.objs.size + 1] → FpOk X pins H1 c := fun c hcm => by
          have hl : s1.heap.objs.size ≤ c := by
            simp only [List.mem_cons, List.not_mem_nil, or_false] at hcm
            omega
          exact I1.fpOk hl (I1.hok.fresh hl)
        have hm' : (h'.objs.size == sysModules) = false := beq_eq_false_iff_ne.mpr (Nat.ne_of_gt I2.big)
        have hlen : (mergeK [] es).length ≤ sizeLine := by
          have l1 := length_mergeK es []
          have l2 : es.length = prs.length := Paired.length h2
          have l3 := rv.length
          rw [List.length_nil] at l1
          omega
        have hfr : H1 h'.objs.size = none := I2.hok.fresh (Nat.le_refl _)
        obtain ⟨s4, n4⟩ := new_dic hfr (h1.merge .nil)
        exact ⟨.ref h'.objs.size, upd H1 h'.objs.size (.dK (mergeK [] es)), I2.turnedNew (t' := tk) kp hle (Nat.le_refl _) (show ObjOk X.prog X.w _ _ _ (.dK (mergeK [] es)) from ⟨hlen, hm', merged [] prs, KV.merge h2 .nil, hd'⟩), rfl, k _ _ _ (s01.trans s4) (s01.free hfr) upd_same n4⟩
end
end Pu

set_option Elab.async false
set_option linter.all false
set_option autoImplicit false
set_option maxRecDepth 100000
/-! lambdas: what passes through one; a def whose table of code objects is known -/
namespace Pu
open PySem PySem.Spec PyProof.Rows L2
/-- what a callee lets out passes through the lambda -/
theorem lam_pass {X : Cx} {A : Around} {outer : List Env} {s : Shared} {H : Hp} {E : XK} {scope : Scope} {f c : Addr} : ∀ σ, PassesAt (L2.CX X.prog X.w) (LamX.lamCx X A outer s H E scope f c) σ E := fun σ =>
  passAt (W := fun cls d _ H => E cls d H) (takes_of rfl rfl rfl rfl) σ
theorem tabP_mono (P : Addr) (q : Str) : ∀ H H', tabP P q H → (∀ b o, H b = some o → Kep o → H' b = some o) → tabP P q H' := fun H H' ⟨ps, h1, h2, h3⟩ k =>
  ⟨ps, k _ _ h1 trivial, h2, fun pos cv hc => by
    obtain ⟨c, e1, e2⟩ := h3 pos cv hc
    exact ⟨c, e1, k _ _ e2 trivial⟩⟩
noncomputable def baseP (H : Hp) (P : Addr) (q : Str) : Base := ⟨less H P, less H P, Same.refl _, 0, tabP P q, tabP_mono P q⟩
theorem less_at (H : Hp) (P : Addr) : less H P P = none := by
  cases q : less H P P with
  | none => rfl
  | some o => exact absurd rfl (of_hid q).1
/-- data handed in are data without the table -/
theorem start_tab {K : PySem.W.Frag} {N : List Str} {H : Hp} {P : Addr} {q : Str} {vs : List V} {ds : List D} (hT : LamX.TabS H P q) (h : DqAll K (hid (fun b => b = P) H) vs ds) (hn : ds.length ≤ N.length) :
    StOk K (fun b => b = P) (fun _ => False) (baseP H P q) H (L2.start N vs) (startR N.length (ds.map .dat)) := by
  have hl := h.length
  obtain ⟨ps, hp, _⟩ := id hT
  refine ⟨⟨?_, fun a ha => ?_, hid_same _ _, fun i x e => ?_, fun i j b x y _ hx ox => ?_, hT⟩, fun _ z => z.elim, fun _ z => z.elim, fun a ha => .inr ?_⟩
  · unfold L2.start startR
    simp [hl]
  · rw [show a = P from ha, hp]
    exact fun z => nomatch z
  · unfold startR at e
    unfold L2.start
    by_cases hi : i < (ds.map Sl.dat).length
    · rw [List.getElem?_append_left hi, List.getElem?_map] at e
      obtain ⟨d, hd, rfl⟩ := map_some e
      obtain ⟨v, hv, p⟩ := h.get hd
      rw [List.length_map] at hi
      rw [List.getElem?_append_left (by rw [List.length_map, hl]; exact hi), List.getElem?_map, hv]
      exact p
    · rw [List.getElem?_append_right (by omega)] at e
      obtain ⟨_, e⟩ := List.getElem?_eq_some_iff.mp e
      rw [List.getElem_replicate] at e
      subst e
      generalize (Option.getD _ none : Option V) = z
      cases z <;> trivial
  · unfold startR at hx
    by_cases hi : i < (ds.map Sl.dat).length
    · rw [List.getElem?_append_left hi, List.getElem?_map] at hx
      obtain ⟨d, _, rfl⟩ := map_some hx
      cases ox
    · rw [List.getElem?_append_right (by omega)] at hx
      obtain ⟨_, e⟩ := List.getElem?_eq_some_iff.mp hx
      rw [List.getElem_replicate] at e
      subst e
      cases ox
  · show less H P a = none
    rw [show a = P from ha]
    exact less_at H P
end Pu

set_option Elab.async false
set_option linter.all false
set_option autoImplicit false
set_option maxRecDepth 100000
set_option maxHeartbeats 2000000
/-! a lambda made: only the table changes -/
namespace Pu
open PySem PySem.Spec PyProof.Rows L2
/-- all but what lies at P stays -/
def SameP (P : Addr) (H H' : Hp) : Prop := ∀ b o, b ≠ P → H b = some o → H' b = some o
theorem SameP.of {P : Addr} {H H' : Hp} (s : Same H H') : SameP P H H' := fun b o _ e => s b o e
theorem SameP.trans {P : Addr} {H H' H2 : Hp} (s : SameP P H H') (t : SameP P H' H2) : SameP P H H2 := fun b o n e => t b o n (s b o n e)
section
variable {X : Cx} {pins : List (Addr × Obj)} {σ : L2.St} {H : Hp} {s : Shared}
theorem lam_make3 {cd tb : Addr} {ar : Arguments} {bd : Expr} {sc : Scope} {pos : Pos} {Ex : Value → Shared → Prop} {Po : Value → Shared → Prop} (I : Inv X pins σ H s) (TB : LamX.TabB X.base X.mg cd tb) (hcd : X.env.code = .ref cd)
    (hT : LamX.TabS H tb (X.env.qual ++ "<lambda>")) (hdf : defaultsOf ar X.env = ([], [])) (hfr : ∀ y ∈ sc.names, y.2 = .free → ∃ c, X.env.cells.lookup y.1 = some c)
    (k : ∀ (f c' : Addr) (pm ct : Value) (G : Hp) (s' : Shared), Inv X pins σ G s' → SameP tb H G → LamX.TabS G tb (X.env.qual ++ "<lambda>") →
      s'.heap.get? f = some (PySem.W.kla_obj "<lambda>" (X.env.qual ++ "<lambda>") ar bd sc (cloFrom X.env.cells sc.names []) pm c' ct) → G f = none → f ∉ frs X.stack → G c' = some (LamX.CodeO c' (X.env.qual ++ "<lambda>")) → Po (.ref f) s') :
    wpAny (model X.prog X.w) X.A (eval (.Lambda ar bd sc pos) X.env) Po Ex s := by
  obtain ⟨ps, e0, ok, al⟩ := hT
  refine PySem.W.kla_eval hdf ?_
  have bt : s.heap.BuiltinsAt X.mg tb := TB.bm.keeps I.bk
  have et : s.heap.get? tb = some { cls := .none, data := .fields ps } := I.hok tb _ e0
  have out : ∀ f, s.heap.objs.size ≤ f → f ∉ frs X.stack := fun f hf z => (List.mem_cons.mp (I.stkSub _ z)).elim (fun e => by
    have lt := I.lt
    rw [← e] at lt
    exact absurd (Nat.lt_of_lt_of_le lt hf) (Nat.lt_irrefl _)) (I.nofs hf)
  cases hc : codeAmong pos ps.toList with
  | none =>
    refine PySem.W.kla_makeFunction (mg := X.mg) (c := cd) (P := tb) (ps := ps) (closure_ok hfr) I.ok.glob (I.mod.glob.keeps I.bk) hcd (TB.code.keeps I.bk) et ok hc TB.gP bt fun c' ct g tk hx ge lt ⟨c2, oc, vs, t, e2, hoc, hd, hv⟩ htb => ?_
    cases e2
    have sz : s.heap.objs.size ≤ g.objs.size := by omega
    have nc : H c' = none := I.hok.fresh ge
    have J := LamX.inv_table (t' := tk) (more := #[rawInt pos.line, rawInt pos.col, .ref c']) (h' := g.push (PySem.W.kla_obj "<lambda>" (X.env.qual ++ "<lambda>") ar bd sc (cloFrom X.env.cells sc.names []) ((X.mg "__name__").getD .none) c' ct)) I e0
      (fun b o hb e => Heap.get?_push_of_some _ (hx b o hb e)) (Heap.get?_push_of_some _ htb) ge ⟨oc, vs, t, Heap.get?_push_of_some _ hoc, hd, hv⟩
    have sp : SameP tb H (upd (upd H tb (.tbl (ps ++ #[rawInt pos.line, rawInt pos.col, .ref c']))) c' (LamX.CodeO c' (X.env.qual ++ "<lambda>"))) := fun b o n e => by
      rw [upd_ne (ne_of_none e nc), upd_ne n]
      exact e
    have el : (ps ++ #[rawInt pos.line, rawInt pos.col, .ref c']).toList = ps.toList ++ [rawInt pos.line, rawInt pos.col, .ref c'] := by simp
    refine k g.objs.size c' ((X.mg "__name__").getD .none) ct _ _ J sp ⟨_, by rw [upd_ne (ne_of_none e0 nc), upd_same], by rw [el]; exact PySem.TriplesOk_snoc _ _ _ _ ok, fun p' cv hcv => ?_⟩ (Heap.get?_push_size _ rfl) ?_ (out _ sz) upd_same
    · rw [el] at hcv
      rcases LamX.among_app _ ok hcv with z | z
      · obtain ⟨c0, q1, q2⟩ := al p' cv z
        exact ⟨c0, q1, sp _ _ (fun w => by rw [w, e0] at q2; exact LamX.codeO_ne ps (Option.some.inj q2).symm) q2⟩
      · exact ⟨c', z, upd_same⟩
    · rw [upd_ne (Nat.ne_of_gt lt), upd_ne (Nat.ne_of_gt (Nat.lt_of_lt_of_le (Heap.lt_size et) sz))]
      exact I.hok.fresh sz
  | some cv =>
    obtain ⟨c', rfl, hco⟩ := al pos cv hc
    refine PySem.W.kla_makeFunctionHit (mg := X.mg) (c := cd) (P := tb) (ps := ps) (closure_ok hfr) I.ok.glob (I.mod.glob.keeps I.bk) hcd (TB.code.keeps I.bk) et ok hc bt fun ct g tk hx sz => ?_
    exact k g.objs.size c' ((X.mg "__name__").getD .none) ct H _ (I.kept fun b o e => Heap.get?_push_of_some _ (hx b o e)) (.of (Same.refl H)) ⟨ps, e0, ok, al⟩ (Heap.get?_push_size _ rfl) (I.hok.fresh sz) (out _ sz) hco
def tLamP (tb : Addr) (q : Str) (TT : (XK → Hp → VK → Prop) → Hp → VK → Prop) (t : XK → TE) : TE := fun σ H Q => LamX.TabS H tb q ∧ ∀ G, SameP tb H G → LamX.TabS G tb q → TT (fun E H' Q' => t E σ H' Q') G Q
/-- x(lambda: body) -/
theorem pe_lam3 {TT : (XK → Hp → VK → Prop) → Hp → VK → Prop} {x a : Str} {g cd tb : Addr} {k : Nat} {pg : Arguments} {bg : List Stmt} {sg : Scope} {dV kV doc pm cdv ct oc : Value} {an od : Option Addr} {osl : Array (Option Value)} {Ng : List Str}
    {ar : Arguments} {bd : Expr} {sc : Scope} {t : XK → TE} {p lp pos : Pos} (hg : Gl X x) (hm : X.mg x = some (.ref g)) (hk : PySem.W.keepIn X.K (.ref g) = true)
    (lk : X.K.lookup g = some ⟨oc, od, .func (PySem.W.fnOf x x pg bg sg dV kV doc pm an cdv ct), osl⟩) (hcg : PySem.W.codeIn X.K cdv x = true) (hb : L2.Binds X.K (PySem.W.fnOf x x pg bg sg dV kV doc pm an cdv ct) [a] []) (Sg : FnScope Ng [a] sg) (hNg : Ng[0]? = some a) (hva : Vis sg a)
    (hG : LamX.GivesTo X Ng x sg g cdv bg a (X.env.qual ++ "<lambda>") TT) (TB : LamX.TabB X.base X.mg cd tb) (hcd : X.env.code = .ref cd) (hr : Room (k + 2) X.A) (L : LamX.LamS X.env.scope sc) (hdf : defaultsOf ar X.env = ([], []))
    (hbi : ∀ (q : Str) (cl : List (Str × Addr)) (pm cv ctv : Value), bindArgs (PySem.W.kla_fn "<lambda>" q ar bd sc cl pm cv ctv) ⟨[], []⟩ = pure [])
    (hbo : ∀ (A : Around) (outer : List Env) (s : Shared) (H : Hp) (E : XK) (f c' : Addr), Room k (A.deeper (LamX.lamEnv X sc s.heap.objs.size f c')) → PE (LamX.lamCx X A outer s H E sc f c') bd (t E))
    (hdb : (x == ("__debug__" : Str)) = false := by decide) (hd : (a == ("__debug__" : Str)) = false := by decide) (hcx : (a == ("__classdict__" : Str)) = false := by decide) :
    PE X (.Call (.Name x p) [.Lambda ar bd sc lp] [] pos) (tLamP tb (X.env.qual ++ "<lambda>") TT t) := by
  refine ⟨fun pins s σ H Q I ⟨hT, h⟩ => ?_⟩
  refine wpAny_Call_Name_kw (ld_glob I hg hm (PySem.W.callWith_K (h₀ := X.base) I.ok.mod.kin hk ?_ (by rfl) (by rfl)) hdb)
  show wpAny _ _ (spliced ((false, eval (.Lambda ar bd sc lp) X.env) :: backTo pos (starEach [] X.env))) _ _ s
  refine Calls.spliced_cons (lam_make3 I TB hcd hT hdf (L.has I.ok) fun f c' pm' cv' G s' J sp T1 hf hfn hfs hco => Calls.spliced_nil ⟨J.kIn, ?_⟩)
  have rc : codeAny (model X.prog X.w) X.A (.call (.ref g) ⟨[.ref f], []⟩) (CR C8.CX0 X.stack X.prog X.w G s' Q C8.E0) s' := by
    refine LamX.run_ofS (N := Ng) (ps := [a]) (us := [.ref f]) (vs := [.ref f]) lk hcg Sg hr J.env0 (hb s' [.ref f] J.kIn rfl) (.cons rfl .nil) rfl fun hr' => ?_
    obtain ⟨t', y1, y2⟩ := hG f c' s' G Q (fun E H' Q' => t E σ H' Q') (fun W pn xe E p1 p2 tk hW => LamX.pe_act (i := 0) J L hf hfn hfs (hbi _ _ _ _ _) tk hW hr' (fun A outer s H hr2 => hbo A outer s H E f c' hr2) hNg hva hd hcx) hco (h G sp T1)
    exact ⟨t', y1.nox, y2⟩
  refine wpAny_call (codeAny_mono rc fun r s2 hq => ?_)
  cases r with
  | error e => exact (show False from hq).elim
  | ok fl =>
    cases fl with
    | ret u => exact J.after hq
    | next => exact False.elim hq
    | brk => exact False.elim hq
    | cont => exact False.elim hq
end
end Pu

set_option Elab.async false
set_option linter.all false
set_option autoImplicit false
set_option maxRecDepth 100000
/-! what is known of the slots stays while only the table changes -/
namespace Pu
open PySem PySem.Spec PyProof.Rows L2
section
variable {K : PySem.W.Frag} {S T : Addr → Prop} {B : Base} {H H' : Hp} {σ : L2.St} {ρ : Rho} {P : Addr} {q : Str}
theorem same_hidP (s : SameP P H H') (hS : S P) : Same (hid S H) (hid S H') := fun b o e => by
  obtain ⟨n1, n2⟩ := of_hid e
  exact hid_of n1 (s b o (fun z => n1 (by rw [z]; exact hS)) n2)
theorem EnvOk.stepP (E : EnvOk K S B H σ ρ) (s : SameP P H H') {ps : Array Value} (hP : H P = some (.tbl ps)) (hP' : H' P ≠ none) (hS : S P) (hB : B.hi P = none) (ht : B.tab H') : EnvOk K S B H' σ ρ := by
  have sh := same_hidP s hS
  have ne : ∀ {b : Addr} {o : HO}, H b = some o → (∀ qs, o ≠ .tbl qs) → b ≠ P := fun e n z => by
    rw [z, hP] at e
    exact n ps (Option.some.inj e).symm
  refine ⟨E.len, fun a ha => ?_, fun b o e => s b o (fun z => by rw [z, hB] at e; cases e) (E.base b o e), fun i x h => ?_, E.apart, ht⟩
  · by_cases z : a = P
    · rw [z]
      exact hP'
    · cases w : H a with
      | none => exact absurd w (E.sub a ha)
      | some o =>
        rw [s a o z w]
        exact fun z => nomatch z
  · have w := E.slot i x h
    cases hσ : (σ[i]?.getD none) with
    | none =>
      rw [hσ] at w
      cases x <;> first | trivial | exact w
    | some v =>
      rw [hσ] at w
      cases x with
      | no => trivial
      | dat d => exact Dq.mono sh w
      | dtab P' q' d => exact ⟨Dq.mono sh w.1, w.2⟩
      | own ds =>
        obtain ⟨a, vs, e1, e2, e3, e4, e5⟩ := w
        exact ⟨a, vs, e1, e2, e3, s _ _ (ne e4 fun _ z => nomatch z) e4, e5.mono sh⟩
      | dic kvs =>
        obtain ⟨a, vs, e1, e2, e3, e4, e5⟩ := w
        exact ⟨a, vs, e1, e2, e3, s _ _ (ne e4 fun _ z => nomatch z) e4, e5.mono sh⟩
      | mu kvs =>
        obtain ⟨a, vs, e1, e2, e3, e4, e5, e6⟩ := w
        exact ⟨a, vs, e1, e2, e3, s _ _ (ne e4 fun _ z => nomatch z) e4, e5.mono sh, e6⟩
      | bor kvs =>
        obtain ⟨a, vs, e1, e2, e3⟩ := w
        exact ⟨a, vs, e1, e2, e3.mono sh⟩
/-- slot 0 tells of the table -/
theorem tab_slot {d : D} (E : EnvOk K S B H σ ρ) (h : ρ[0]? = some (.dtab P q d)) : S P ∧ B.hi P = none ∧ B.tab = tabP P q ∧ LamX.TabS H P q := by
  have w := E.slot 0 _ h
  cases hσ : (σ[0]?.getD none) with
  | none =>
    rw [hσ] at w
    exact w.elim
  | some v =>
    rw [hσ] at w
    refine ⟨w.2.1, w.2.2.1, w.2.2.2, ?_⟩
    have t := E.tab
    rw [w.2.2.2] at t
    exact t
end
end Pu

set_option Elab.async false
set_option linter.all false
set_option autoImplicit false
set_option maxRecDepth 100000
/-! what a def that tells makes of a lambda -/
namespace Pu
open PySem PySem.Spec PyProof.Rows L2
/-- ("told", what it gave), or ("refused", True) -/
def TTld (C : Addr) : (XK → Hp → VK → Prop) → Hp → VK → Prop := fun tl H Q =>
  tl (fun cls d H' => cls = .ref C ∧ d = none ∧ ∀ p o, H' p = none → o.dict = none → Q (.ref p) (upd H' p (.frz o (.tup [.str "refused", .bl true])))) H
    fun v H' => [V.str "told", v].length ≤ sizeLine ∧ ∀ p o, H' p = none → o.dict = none → Q (.ref p) (upd H' p (.frz o (.tup [.str "told", v])))
/-- what is known of the classes -/
structure TldF (K : PySem.W.Frag) (mg : Str → Option Value) (C SE : Addr) : Prop where
  gC : mg "NoSave" = some (.ref C)
  gS : mg "SaveError" = some (.ref SE)
  gV : mg "ValueError" = none
  gI : mg "isinstance" = none
  ex : PySem.W.exmOne K (.ref C) (.ref SE) = some true
  ec : ExcC K C
  kV : PySem.W.kitOne K (.ref C) (.type "ValueError") = some true
section
variable {X : Cx} {C SE : Addr}
theorem pe_up {X : Cx} {e : Expr} {t : TE} (h : PE X e t) : PE X e (fun σ H Q => ∃ Q' : VK, (∀ v H', Q' v H' → Q v H') ∧ t σ H Q') :=
  ⟨fun pins s σ H Q I ⟨Q', k, q⟩ => thn (h.run pins s σ H Q' I q) fun v s' ⟨x, H', J, r, z⟩ => ⟨x, H', J, r, k x H' z⟩⟩
theorem told_gives {x q : Str} {sg : Scope} {g : Addr} {cdg : Value} {j0 j1 : Nat} {k0 k1} {p0 p1 p2 p3 p4 p5 p6 p7 p8 p9 pa pb pc pd pe pf pg ph pi pj pk pl pm pn : Pos} (F : TldF X.K X.mg C SE)
    (hS : sg.names.lookup ("SaveError" : Str) = some .globalImplicit := by rfl) (hV : sg.names.lookup ("ValueError" : Str) = some .globalImplicit := by rfl) (hC : sg.names.lookup ("NoSave" : Str) = some .globalImplicit := by rfl) (hI : sg.names.lookup ("isinstance" : Str) = some .globalImplicit := by rfl)
    (hf : sg.names.lookup ("found" : Str) = some .local := by rfl) (he : sg.names.lookup ("e" : Str) = some .local := by rfl) :
    LamX.GivesTo X ["deed", "found", "e"] x sg g cdg [.Try [.Assign [.Name "found" p0] (.Tuple [.Constant (.str "told") j0 p1, .Call (.Name "deed" p2) [] [] p3] k0 p4) p5]
      [.ExceptHandler (some (.Name "SaveError" p6)) (some "e") [.Assign [.Name "found" p7] (.Tuple [.Constant (.str "refused") j1 p8, .BoolOp .And [.Call (.Name "isinstance" p9) [.Name "e" pa, .Name "ValueError" pb] [] pc, .Call (.Name "isinstance" pd) [.Name "e" pe, .Name "NoSave" pf] [] pg] ph] k1 pi) pj] pk] [] [] pl, .Return (some (.Name "found" pm)) pn] "deed" q (TTld C) := by
  intro f c' s H Q tl act hc h
  have nd : (["deed", "found", "e"] : List Str).Nodup := by decide
  refine ⟨_, pss_cons (ps_try_as (X := (cxOf C8.CX0 X.prog X.w X.K X.mg X.base ["deed", "found", "e"] x sg g cdg X.A X.stack s H C8.E0).nox) (c := .ref SE) (i := 2)
      (tb := fun W D σ H => ∃ (Ech : XK) (Q' : VK), (∀ v H', Q' v H' → [V.str "told", v].length ≤ sizeLine ∧ ∀ p o, H' p = none → o.dict = none → D.nx (σ.set 1 (some (.ref p))) (upd H' p (.frz o (.tup [.str "told", v])))) ∧ (∀ cls d σ' H', Ech cls d H' → W cls d σ' H') ∧ σ[0]? = some (some (.ref f)) ∧ H c' = some (LamX.CodeO c' q) ∧ tl Ech H Q')
      (ts := fun a cls d D σ H => cls = .ref C ∧ d = none ∧ (∃ σ0 : L2.St, σ = σ0.set 2 (some (.ref a))) ∧ ∀ p o, σ.length = 3 → H p = none → o.dict = none → D.nx (σ.set 1 (some (.ref p))) (upd H p (.frz o (.tup [.str "refused", .bl true]))))
      rfl rfl nd rfl he ⟨hS, by decide, .inl F.gS⟩ LamX.takes0 (fun W pn xe tk _ => ?_) (fun a oe cls d pn hz hf' => ?_)) (pss_one (ps_ret (pe_var (i := 1) rfl (.inl hf) (by decide) (by decide)))), ?_⟩
  · refine ⟨fun pins s' σ H' D I h' => ?_⟩
    obtain ⟨Ech, Q', k, hW, h1, h2, h3⟩ := h'
    have hp := pe_up (act W pn xe Ech p2 p3 tk hW)
    have hq := pss_one (ps_set (pos := p5) (i := 1) (x := "found") (pos' := p0) nd rfl (.inl hf) (pe_tupF (pos := p4) (x1 := k0) (pa_cons (pe_str (pos := p1) (x := "told") (j := j0)) (pa_cons hp pa_nil))) rfl (.inr hf))
    exact hq.run pins s' σ H' D I ⟨Q', k, h1, h2, h3⟩
  · refine ⟨fun pins s' σ H' D I h' => ?_⟩
    obtain ⟨rfl, rfl, ⟨σ0, h0⟩, h2⟩ := h'
    have hlen : σ.length = 3 := I.len
    have h1 : σ[2]? = some (some (.ref a)) := by
      rw [h0, List.length_set] at hlen
      rw [h0, List.getElem?_set_self (by omega)]
    have h2 := fun p o => h2 p o hlen
    have isE : ∀ {y : Str} {v : V} {cv : Value} {p q r t : Pos}, PE ((cxOf C8.CX0 X.prog X.w X.K X.mg X.base ["deed", "found", "e"] x sg g cdg X.A X.stack s H C8.E0).nox.suite a ((a, oe) :: pn)) (.Name y r) (tC v) →
        PE ((cxOf C8.CX0 X.prog X.w X.K X.mg X.base ["deed", "found", "e"] x sg g cdg X.A X.stack s H C8.E0).nox.suite a ((a, oe) :: pn)) (.Call (.Name "isinstance" p) [.Name "e" q, .Name y r] [] t) (tCB (rIsE X.K C a) _) := fun {y v cv p q r t} hy =>
      pe_callB (call_isE (X := (cxOf C8.CX0 X.prog X.w X.K X.mg X.base ["deed", "found", "e"] x sg g cdg X.A X.stack s H C8.E0).nox) F.ec hz hf') hI F.gI (by decide +kernel) (pa_cons (pe_var (i := 2) rfl (.inl he) (by decide) (by decide)) (pa_cons hy pa_nil))
    have hq := pss_one (ps_set (pos := pj) (i := 1) (x := "found") (pos' := p7) nd rfl (.inl hf) (pe_tupF (pos := pi) (x1 := k1) (pa_cons (pe_str (pos := p8) (x := "refused") (j := j1)) (pa_cons (pe_and (pos := ph) (isE (p := p9) (q := pa) (r := pb) (t := pc) (cv := .type "ValueError") (pe_bltn (v := .ty "ValueError") hV F.gV (by decide +kernel) rfl)) (pe_one (isE (p := pd) (q := pe) (r := pf) (t := pg) (cv := .ref C) (pe_glob (v := .ref C) hC F.gC rfl)))) pa_nil))) rfl (.inr hf))
    refine hq.run pins s' σ H' D I ?_
    refine ⟨_, h1, .ty "ValueError", .type "ValueError", true, rfl, fun u r => ?_, F.kV, true, rfl, iteT ⟨_, h1, .ref C, .ref C, true, rfl, fun u r => ?_, ?_, ?_⟩⟩
    · cases r; rfl
    · cases r; rfl
    · unfold PySem.W.kitOne
      rw [if_pos (by simp)]
    · exact ⟨by show 2 ≤ sizeLine; decide, h2⟩
  · refine ⟨fun cls d H' => cls = .ref C ∧ d = none ∧ ∀ (p : Addr) (o : Obj), H' p = none → o.dict = none → Q (.ref p) (upd H' p (.frz o (.tup [.str "refused", .bl true]))), _, ?_, ?_, rfl, hc, h⟩
    · rintro v H' ⟨k1, k2⟩
      exact ⟨k1, fun p o hp ho => ⟨.ref p, rfl, k2 p o hp ho⟩⟩
    · rintro cls d σ' H' ⟨rfl, rfl, h2⟩
      refine ⟨true, F.ex, fun _ a ha => ⟨rfl, rfl, ⟨_, rfl⟩, fun p o hl hp ho => ⟨.ref p, ?_, h2 p o hp ho⟩⟩, fun z => nomatch z⟩
      rw [List.getElem?_set_ne (by decide), List.getElem?_set_self (by omega)]
end
end Pu

set_option Elab.async false
set_option linter.all false
set_option autoImplicit false
set_option maxRecDepth 100000
/-! expressions with an effect on what the slots hold -/
namespace Pu
open PySem PySem.Spec PyProof.Rows L2
abbrev MirEf := Rho → Option (D × Rho)
def tOfE (K : PySem.W.Frag) (f : MirEf) : TE := fun σ H Q => ∃ T B ρ d ρ', StE K T B H σ ρ ∧ f ρ = some (d, ρ') ∧ ∀ S' v H', StOk K S' T B H' σ ρ' → Dq K (hid S' H') v d → Q v H'
def ttOfE (K : PySem.W.Frag) (f : MirEf) : TT := fun σ H Q => ∃ T B ρ b ρ', StE K T B H σ ρ ∧ f ρ = some (.bool b, ρ') ∧ ∀ S' H', StOk K S' T B H' σ ρ' → Q b H'
abbrev PDE (X : Cx) (e : Expr) (f : MirEf) : Prop := PE X e (tOfE X.K f)
abbrev PTE (X : Cx) (e : Expr) (f : MirEf) : Prop := PT X e (ttOfE X.K f)
abbrev PWE (X : Cx) (e : Expr) (f : MirEf) : Prop := PW X e (ttOfE X.K f)
section
variable {X : Cx} {K : PySem.W.Frag} {a b e : Expr} {rest : List Expr} {f g : Mir} {fe ge : MirEf} {pos : Pos} {F G : MirS}
def fUp (f : Mir) : MirEf := fun ρ => (f ρ).map fun d => (d, ρ)
theorem pde_up (h : PD X e f) : PDE X e (fUp f) := weak h fun σ H Q ⟨T, B, ρ, d, ρ', ⟨S, E⟩, e, k⟩ => by
  obtain ⟨d', e1, e2⟩ := map_some e
  cases e2
  exact ⟨S, B, ρ, _, E.env, e1, fun v H' s p => k S v H' (E.step s) p⟩
theorem pte_up (h : PTD X e f) : PTE X e (fUp f) := weakT h fun σ H Q ⟨T, B, ρ, d, ρ', ⟨S, E⟩, e, k⟩ => by
  obtain ⟨d', e1, e2⟩ := map_some e
  cases e2
  exact ⟨S, B, ρ, d, E.env, e1, fun H' s => k S H' (E.step s)⟩
def f2 (m : D → D → Option D) (f : MirEf) (g : Mir) : MirEf := fun ρ => (f ρ).bind fun x => (g x.2).bind fun y => (m x.1 y).map fun d => (d, x.2)
theorem f2_some {m : D → D → Option D} {ρ ρ' : Rho} {d : D} (h : f2 m fe g ρ = some (d, ρ')) : ∃ x y, fe ρ = some (x, ρ') ∧ g ρ' = some y ∧ m x y = some d := by
  obtain ⟨⟨x, ρ1⟩, e1, e2⟩ := bind_some h
  obtain ⟨y, e3, e4⟩ := bind_some e2
  obtain ⟨z, e5, e6⟩ := map_some e4
  cases e6
  exact ⟨x, y, e1, e3, e5⟩
theorem ope_of {r : R2} {m : D → D → Option D} (hr : R2ok K r m) : ∀ σ H Q, tOfE K (f2 m fe g) σ H Q → tOp r (tOfE K fe) (tOf K g) σ H Q := fun σ H Q ⟨T, B, ρ, d, ρ', E, e, k⟩ => by
  obtain ⟨x, y, e1, e2, e3⟩ := f2_some e
  refine ⟨T, B, ρ, x, ρ', E, e1, fun S1 v H1 E1 p1 => ⟨S1, B, ρ', y, E1.env, e2, fun w H2 s2 p2 => ?_⟩⟩
  exact hr S1 H2 v w x y d Q (E1.env.step s2).sub (Dq.mono (same_hid s2) p1) p2 e3 fun u H3 s3 p3 => k S1 u H3 (E1.step (s2.trans s3)) p3
theorem pde_cmp {op : CmpOp} {r : R2} {m : D → D → Option D} (ho : OpR X (compareOp op) r) (hr : R2ok X.K r m) (ha : PDE X a fe) (hb : PD X b g) (hm : behindInMarks op b = false := by first | exact nomark _ | rfl) : PDE X (.Compare a [op] [b] pos) (f2 m fe g) :=
  weak (pe_cmpR ho ha hb hm) (ope_of hr)
theorem pte_cmp {op : CmpOp} {r : R2} {m : D → D → Option D} (ho : OpR X (compareOp op) r) (hr : R2ok X.K r m) (ha : PDE X a fe) (hb : PD X b g) (hm : behindInMarks op b = false := by first | exact nomark _ | rfl) : PTE X (.Compare a [op] [b] pos) (f2 m fe g) :=
  weakT (pt_cmpR ho ha hb hm) fun σ H Q ⟨T, B, ρ, b, ρ', E, e, k⟩ => ope_of hr σ H _ ⟨T, B, ρ, .bool b, ρ', E, e, fun S1 v H1 E1 p1 => by
    cases p1
    exact ⟨b, rfl, k S1 H1 E1⟩⟩
theorem pde_eq (hu : X.A.units + 64 < cLine) (ha : PDE X a fe) (hb : PD X b g) : PDE X (.Compare a [.Eq] [b] pos) (f2 oEq fe g) := pde_cmp (op_eqN hu) ok_eq ha hb
theorem pde_ne (hu : X.A.units + 64 < cLine) (ha : PDE X a fe) (hb : PD X b g) : PDE X (.Compare a [.NotEq] [b] pos) (f2 oNe fe g) := pde_cmp (op_neN hu) ok_ne ha hb
theorem pde_is (ha : PDE X a fe) (hb : PD X b g) : PDE X (.Compare a [.Is] [b] pos) (f2 oIs fe g) := pde_cmp op_is2 ok_is ha hb
theorem pte_eq (hu : X.A.units + 64 < cLine) (ha : PDE X a fe) (hb : PD X b g) : PTE X (.Compare a [.Eq] [b] pos) (f2 oEq fe g) := pte_cmp (op_eqN hu) ok_eq ha hb
theorem pte_ne (hu : X.A.units + 64 < cLine) (ha : PDE X a fe) (hb : PD X b g) : PTE X (.Compare a [.NotEq] [b] pos) (f2 oNe fe g) := pte_cmp (op_neN hu) ok_ne ha hb
theorem pte_val (h : PDE X e fe) (he : ∀ whole, isTrue e X.env whole = (do let v ← whole; standAt e.pos; holding [v] (truthy v)) := by intro _; rfl) : PTE X e fe := weakT (pt_val h he) fun σ H Q ⟨T, B, ρ, b, ρ', E, e, k⟩ => ⟨T, B, ρ, .bool b, ρ', E, e, fun S1 v H1 E1 p1 => by
  cases p1
  exact ⟨b, rfl, k S1 H1 E1⟩⟩
def fNot (f : MirEf) : MirEf := fun ρ => (f ρ).bind fun x => (oNot x.1).map fun d => (d, x.2)
theorem pte_not (ha : PTE X a fe) : PTE X (.UnaryOp .Not a pos) (fNot fe) := weakT (pt_not ha) fun σ H Q ⟨T, B, ρ, b, ρ', E, e, k⟩ => by
  obtain ⟨⟨x, ρ1⟩, e1, e2⟩ := bind_some e
  obtain ⟨d, e3, e4⟩ := map_some e2
  cases e4
  cases x <;> try (cases e3; done)
  cases e3
  exact ⟨T, B, ρ, _, _, E, e1, fun S1 H1 E1 => k S1 H1 E1⟩
def fAnd (f g : MirEf) : MirEf := fun ρ => (f ρ).bind fun x => match x.1 with
  | .bool true => g x.2
  | .bool false => some (.bool false, x.2)
  | _ => none
def fOr (f g : MirEf) : MirEf := fun ρ => (f ρ).bind fun x => match x.1 with
  | .bool true => some (.bool true, x.2)
  | .bool false => g x.2
  | _ => none
theorem we_and1 (ha : PTE X a fe) : PWE X (.BoolOp .And [a] pos) fe := pw_and1 ha
theorem we_or1 (ha : PTE X a fe) : PWE X (.BoolOp .Or [a] pos) fe := pw_or1 ha
theorem we_and (ha : PTE X a fe) (hb : PWE X (.BoolOp .And (b :: rest) pos) ge) : PWE X (.BoolOp .And (a :: b :: rest) pos) (fAnd fe ge) := weakW (pw_and ha hb) fun σ H Q ⟨T, B, ρ, d, ρ', E, e, k⟩ => by
  obtain ⟨⟨x, ρ1⟩, e1, e2⟩ := bind_some e
  dsimp only at e2
  split at e2
  · exact ⟨T, B, ρ, true, ρ1, E, e1, fun S1 H1 E1 => iteT ⟨T, B, ρ1, d, ρ', ⟨S1, E1⟩, e2, k⟩⟩
  · cases e2
    exact ⟨T, B, ρ, false, _, E, e1, fun S1 H1 E1 => iteF (k S1 H1 E1)⟩
  · cases e2
theorem we_or (ha : PTE X a fe) (hb : PWE X (.BoolOp .Or (b :: rest) pos) ge) : PWE X (.BoolOp .Or (a :: b :: rest) pos) (fOr fe ge) := weakW (pw_or ha hb) fun σ H Q ⟨T, B, ρ, d, ρ', E, e, k⟩ => by
  obtain ⟨⟨x, ρ1⟩, e1, e2⟩ := bind_some e
  dsimp only at e2
  split at e2
  · cases e2
    exact ⟨T, B, ρ, true, _, E, e1, fun S1 H1 E1 => iteT (k S1 H1 E1)⟩
  · exact ⟨T, B, ρ, false, ρ1, E, e1, fun S1 H1 E1 => iteF ⟨T, B, ρ1, d, ρ', ⟨S1, E1⟩, e2, k⟩⟩
  · cases e2
/-! ### statements -/
def sSetE (i : Nat) (f : MirEf) : MirS := fun ρ => (f ρ).map fun x => Out.nx (x.2.set i (.dat x.1))
theorem sde_set {i : Nat} {x : Str} {pos' : Pos} (h : PDE X e fe) (hN : X.N.Nodup) (hi : X.N[i]? = some x := by rfl) (hx : Loc X.env.scope x := by first | exact .inl rfl | exact .inr rfl) (hs : swapsWith e (some (.Name x pos')) pos.line X.env = pure false := by rfl) (hf : X.fn x = true ∨ X.env.scope.names.lookup x = some .local := by first | exact .inl rfl | exact .inr rfl | assumption) :
    PSD X (.Assign [.Name x pos'] e pos) (sSetE i fe) := weakS (ps_set (i := i) hN hi hx h hs hf) fun Dn σ H ⟨T, B, ρ, o, E, e, k⟩ => by
  obtain ⟨⟨d, ρ'⟩, e1, rfl⟩ := map_some e
  exact ⟨T, B, ρ, d, ρ', E, e1, fun S' v H' E' p => k _ H' ⟨S', E'.setD p⟩⟩
def sExprE (f : MirEf) : MirS := fun ρ => (f ρ).map fun x => Out.nx x.2
theorem sde_expr (h : PDE X e fe) (hs : swapsWith e none pos.line X.env = pure false := by rfl) : PSD X (.Expr e pos) (sExprE fe) := weakS (ps_expr h hs) fun Dn σ H ⟨T, B, ρ, o, E, e, k⟩ => by
  obtain ⟨⟨d, ρ'⟩, e1, rfl⟩ := map_some e
  exact ⟨T, B, ρ, d, ρ', E, e1, fun S' v H' E' p => k σ H' ⟨S', E'⟩⟩
/-- what the slots hold is not asked for any more -/
def sRetE (f : MirEf) : MirS := fun ρ => (f ρ).map fun x => Out.rt x.1
theorem sde_ret (h : PDE X e fe) : PSD X (.Return (some e) pos) (sRetE fe) := weakS (ps_ret h) fun Dn σ H ⟨T, B, ρ, o, E, e, k⟩ => by
  obtain ⟨⟨d, ρ'⟩, e1, rfl⟩ := map_some e
  exact ⟨T, B, ρ, d, ρ', E, e1, fun S' v H' E' p => k v H' E'.env.base (Dq.mono (hid_le H' E'.sup) p)⟩
def sIfE (c : MirEf) (F G : MirS) : MirS := fun ρ => (c ρ).bind fun x => match x.1 with
  | .bool true => F x.2
  | .bool false => G x.2
  | _ => none
theorem sde_if {c : Expr} {a b : List Stmt} (hc : PTE X c fe) (ha : PSsD X a F) (hb : PSsD X b G) : PSD X (.If c a b pos) (sIfE fe F G) := weakS (ps_if hc ha hb) fun Dn σ H ⟨T, B, ρ, o, E, e, k⟩ => by
  obtain ⟨⟨x, ρ1⟩, e1, e2⟩ := bind_some e
  dsimp only at e2
  split at e2
  · exact ⟨T, B, ρ, true, ρ1, E, e1, fun S1 H1 E1 => iteT ⟨T, B, ρ1, o, ⟨S1, E1⟩, e2, k⟩⟩
  · exact ⟨T, B, ρ, false, ρ1, E, e1, fun S1 H1 E1 => iteF ⟨T, B, ρ1, o, ⟨S1, E1⟩, e2, k⟩⟩
  · cases e2
/-! ### told -/
/-- slot 0 tells that the table P is known -/
def hasTab (P : Addr) (q : Str) (ρ : Rho) : Bool := match (ρ[0]? : Option Sl) with
  | some (.dtab P' q' _) => decide (P' = P) && decide (q' = q)
  | _ => false
theorem hasTab_some {P : Addr} {q : Str} {ρ : Rho} (h : hasTab P q ρ = true) : ∃ d, ρ[0]? = some (.dtab P q d) := by
  unfold hasTab at h
  split at h
  · rename_i e
    rw [Bool.and_eq_true, decide_eq_true_eq, decide_eq_true_eq] at h
    obtain ⟨rfl, rfl⟩ := h
    exact ⟨_, e⟩
  · cases h
def tldD : Rz D → D
  | .ok d => .tuple [.str "told", d]
  | .ex => .tuple [.str "refused", .bool true]
def mTold (P : Addr) (q : Str) (f : MirE) : MirEf := fun ρ => if hasTab P q ρ = true then (f ρ).map fun r => (tldD r, ρ) else none
theorem told_of {P C : Addr} {q : Str} {fx : MirE} : ∀ σ H Q, tOfE K (mTold P q fx) σ H Q → tLamP P q (TTld C) (fun E => tOfX K C (fun _ => E) fx) σ H Q := fun σ H Q ⟨T, B, ρ, d, ρ', ⟨S, E⟩, e, k⟩ => by
  unfold mTold at e
  by_cases ht : hasTab P q ρ = true
  rotate_left
  · rw [if_neg ht] at e
    cases e
  rw [if_pos ht] at e
  obtain ⟨r, e1, e2⟩ := map_some e
  obtain ⟨d0, h0⟩ := hasTab_some ht
  obtain ⟨hS, hB, hb, hT⟩ := tab_slot E.env h0
  refine ⟨hT, fun G sp tG => ?_⟩
  obtain ⟨ps, hp, _⟩ := id hT
  obtain ⟨ps', hp', _⟩ := id tG
  have EG : StOk K S T B G σ ρ := ⟨E.env.stepP sp hp (by rw [hp']; exact fun z => nomatch z) hS hB (by rw [hb]; exact tG), E.sup, E.inn, E.lim⟩
  refine ⟨S, B, ρ, r, EG.env, e1, fun d1 hd v H1 s1 p1 => ⟨by show 2 ≤ sizeLine; decide, fun p o hp ho => ?_⟩, fun hr H1 s1 => ⟨rfl, rfl, fun p o hp ho => ?_⟩⟩
  · subst hd
    cases e2
    obtain ⟨s2, n2⟩ := new_tup (EG.env.step s1).sub hp ho (.cons (.str "told") (.cons p1 .nil))
    exact k S _ _ (EG.step (s1.trans s2)) n2
  · subst hr
    cases e2
    obtain ⟨s2, n2⟩ := new_tup (EG.env.step s1).sub hp ho (K := K) (.cons (.str "refused") (.cons (.bl true) .nil))
    exact k S _ _ (EG.step (s1.trans s2)) n2
/-- _law_told(lambda: body) -/
theorem pde_told {C cd P : Addr} {q : Str} {fx : MirE} {k : Nat} {st : Stmt} {ar : Arguments} {bd : Expr} {sc : Scope} {p lp : Pos} (hr : Room (k + 2) X.A) (hcd : X.env.code = .ref cd) (TB : LamX.TabB X.base X.mg cd P) (Dt : Def X.K X.mg "_law_told" st ["deed"]) (Sg : FnScope ["deed", "found", "e"] ["deed"] (defScope st))
    (hG : ∀ g cdg, LamX.GivesTo X ["deed", "found", "e"] "_law_told" (defScope st) g cdg (defBody st) "deed" q (TTld C)) (hq : X.env.qual ++ "<lambda>" = q) (L : LamX.LamS X.env.scope sc)
    (hbo : ∀ (A : Around) (outer : List Env) (s : Shared) (H : Hp) (E : XK) (f c' : Addr), Room k (A.deeper (LamX.lamEnv X sc s.heap.objs.size f c')) → PDX (LamX.lamCx X A outer s H E sc f c') C (fun _ => E) bd fx)
    (hva : Vis (defScope st) "deed" := by first | exact Or.inl rfl | exact Or.inr (Or.inl rfl)) (hg : Gl X "_law_told" := by rfl) (hdf : defaultsOf ar X.env = ([], []) := by rfl)
    (hbi : ∀ (q : Str) (cl : List (Str × Addr)) (pm cv ctv : Value), bindArgs (PySem.W.kla_fn "<lambda>" q ar bd sc cl pm cv ctv) ⟨[], []⟩ = pure [] := by intros; rfl) :
    PDE X (.Call (.Name "_law_told" p) [.Lambda ar bd sc lp] [] pos) (mTold P q fx) := by
  obtain ⟨g, fd, h1, h2, h3⟩ := Dt
  have hk := h1.kp
  obtain ⟨oc, od, kV, doc, pm, an, cdv, ct, osl, rfl, lk, hcg⟩ := h1.ex
  subst hq
  exact weak (pe_lam3 hg h2 hk lk hcg h3 Sg rfl hva (hG g cdv) TB hcd hr L hdf hbi hbo) told_of
end
end Pu

set_option Elab.async false
set_option linter.all false
set_option autoImplicit false
set_option maxRecDepth 100000
/-! the end -/
namespace Pu
open PySem PySem.Spec PyProof.Rows L2
def spLaw (K : PySem.W.Frag) : Sp := fun vs H Q _ => ∃ (a : Addr) (ns : List Int), vs = [.ref a] ∧ SqL K H a (ns.map V.int) ∧ ns.length ≤ 63 ∧ ∀ H', Q (.bl true) H'
theorem dq_ints {K : PySem.W.Frag} {F : Hp} : ∀ ns : List Int, DqAll K F (ns.map V.int) (ns.map PyData.int)
  | [] => .nil
  | n :: ns => .cons (.int n) (dq_ints ns)
theorem law_end {P : Program} {w : World} {K : PySem.W.Frag} {mg : Str → Option Value} {base : Heap} {k : Nat} {fa : Addr} {F : MirF} {fd : FuncData} {ps : List Str} (ok : FnOk P w K mg base CX0 k fa fd ps (spOf K 1 F)) (hF : ∀ ns : List Int, ns.length ≤ 63 → F [.dat (.list (ns.map .int))] = some (.bool true)) :
    FnOk P w K mg base CX0 k fa fd ps (spLaw K) := by
  refine ok.imp fun vs H Q E ⟨a, ns, e, q, hl, k⟩ => ?_
  subst e
  refine ⟨fun _ => False, [.dat (.list (ns.map .int))], .bool true, fun _ z => z.elim, .cons ?_ .nil, rfl, hF ns hl, fun v H' _ p => ?_⟩
  · have s : Same H (hid (fun _ => False) H) := fun b o e => hid_of (fun z => z) e
    exact .lst (s.seq q) (dq_ints ns)
  · cases p
    exact k H'
/-- a def and what is known of it -/
theorem def_mk {K : PySem.W.Frag} {mg : Str → Option Value} {x : Str} {st : Stmt} {ps : List Str} {f : Addr} {fd : FuncData} (F : Fun K x x st f fd) (hm : mg x = some (.ref f)) (b : Binds K fd ps []) : Def K mg x st ps := ⟨f, fd, F, hm, b⟩
theorem fn_of {P : Program} {w : World} {K : PySem.W.Frag} {mg : Str → Option Value} {base : Heap} {x : Str} {st : Stmt} {N ps : List Str} {k : Nat} {F : MirS} {fa : Addr} {fd : FuncData} (Fn : Fun K x x st fa fd) (Sc : FnScope N ps (defScope st)) (hps : ps.length ≤ N.length)
    (hbody : ∀ (fa : Addr) (cdv : Value) (A : Around) (outer : List Env) (s : Shared) (H : Hp) (E : XK), Room k (A.deeper (envOfC x (defScope st) s.heap.objs.size fa cdv)) → PSsD (cxOf CX0 P w K mg base N x (defScope st) fa cdv A outer s H E).nox (defBody st) F) :
    FnOk P w K mg base CX0 (k + 1) fa fd ps (spOf K ps.length (runB N.length F)) := fn_pure Fn Sc hps fun cdv A outer s H E hr => hbody fa cdv A outer s H E hr
end Pu

set_option Elab.async false
set_option linter.all false
set_option autoImplicit false
set_option maxRecDepth 100000
/-! a law that makes lambdas: its promise, the end -/
namespace Pu
open PySem PySem.Spec PyProof.Rows L2
theorem tab0 {K : PySem.W.Frag} {S T : Addr → Prop} {B : Base} {H : Hp} {σ : L2.St} {R : Rho} {P : Addr} {q : Str} {d : D} (E : StOk K S T B H σ (.dat d :: R)) (hS : S P) (hB : B.hi P = none) (hb : B.tab = tabP P q) : StOk K S T B H σ (.dtab P q d :: R) := by
  refine ⟨⟨E.env.len, E.env.sub, E.env.base, fun i x h => ?_, fun i j a x y n hx ox hy oy => ?_, E.env.tab⟩, E.sup, E.inn, E.lim⟩
  · cases i with
    | zero =>
      have z := E.env.slot 0 _ rfl
      cases h
      cases w : (σ[0]?.getD none) with
      | none =>
        rw [w] at z
        exact z.elim
      | some v =>
        rw [w] at z
        exact ⟨z, hS, hB, hb⟩
    | succ i => exact E.env.slot (i + 1) x h
  · cases i with
    | zero =>
      cases hx
      cases ox
    | succ i =>
      cases j with
      | zero =>
        cases hy
        cases oy
      | succ j => exact E.env.apart (i + 1) (j + 1) a x y n hx ox hy oy
def spTab (K : PySem.W.Frag) (P : Addr) (q : Str) : Sp := fun vs H Q _ => ∃ (a : Addr) (ns : List Int), vs = [.ref a] ∧ LamX.TabS H P q ∧ SqL K H a (ns.map V.int) ∧ ns.length ≤ 63 ∧ ∀ H', Q (.bl true) H'
theorem fn_tab {P : Program} {w : World} {K : PySem.W.Frag} {mg : Str → Option Value} {base : Heap} {x y : Str} {st : Stmt} {N : List Str} {k : Nat} {F : MirS} {fa c T : Addr} {q : Str} {fd : FuncData} (Fn : Fun K x x st fa fd) (Sc : FnScope N [y] (defScope st)) (hps : 1 ≤ N.length) (hc : fd.code = .ref c)
    (hbody : ∀ (A : Around) (outer : List Env) (s : Shared) (H : Hp) (E : XK), Room k (A.deeper (envOfC x (defScope st) s.heap.objs.size fa (.ref c))) → PSsD (cxOf CX0 P w K mg base N x (defScope st) fa (.ref c) A outer s H E).nox (defBody st) F)
    (hF : ∀ ns : List Int, ns.length ≤ 63 → F (startR N.length [.dtab T q (.list (ns.map .int))]) = some (.rt (.bool true))) :
    FnOk P w K mg base CX0 (k + 1) fa fd [y] (spTab K T q) := by
  obtain ⟨oc, od, kV, doc, pm, an, cdv, ct, osl, rfl, lk, hcd⟩ := Fn.ex
  obtain rfl : cdv = .ref c := hc
  refine L2.fn_of lk hcd Sc (fun vs H Q E ⟨a, ns, e, _⟩ => by rw [e]; rfl) fun A outer s H vs Q E hr ⟨a, ns, e, hT, hq, hl, k⟩ => ⟨_, (hbody A outer s H E hr).nox, ?_⟩
  subst e
  have hne : ∀ b o, H b = some o → (∀ ps, o ≠ .tbl ps) → b ≠ T := fun b o e n z => by
    obtain ⟨ps, hp, _⟩ := hT
    rw [z, hp] at e
    exact n ps (Option.some.inj e).symm
  have hq' : SqL K (hid (fun b => b = T) H) a (ns.map V.int) := by
    rcases hq with (h | ⟨o, h⟩) | h
    · exact .inl (.inl (hid_of (hne _ _ h fun _ z => nomatch z) h))
    · exact .inl (.inr ⟨o, hid_of (hne _ _ h fun _ z => nomatch z) h⟩)
    · exact .inr h
  have E0 := start_tab (K := K) (N := N) (q := q) (vs := [.ref a]) (ds := [.list (ns.map .int)]) hT (.one (.lst hq' (dq_ints ns))) hps
  have E1 := tab0 (P := T) (q := q) E0 rfl (less_at H T) rfl
  exact ⟨fun _ => False, baseP H T q, _, .rt (.bool true), ⟨_, E1⟩, hF ns hl, fun v H' s' p' => by
    cases p'
    exact k H'⟩
theorem walk_tt {l : PySem.W.OpenLaw} {n k : Nat} {q : Program} {loose : List Str} {XP : (Str → Option Value) → Heap → Prop} {YP : World → Heap → Prop} {d : DefRec} {K : Params → PySem.W.Frag} {CX : World → CXT} {x : Str}
    (hn : l.most = some n) (hn2 : n ≤ sizeLine) (hdf : d.params.defaults = []) (hr : Room k callerA) (hY : ∀ (w : World) (h : Heap), YP w h → (K w.params).In h)
    (F : ∀ (w : World) (mg mb : Str → Option Value) (fa : Addr) (h : Heap) (mean : ExcName → Option Value), Top q (PySem.W.looseW q loose) mean mg mb h → (K w.params).In h → mg d.name = some (.ref fa) → LamX.LawAtS l w (K w.params) (CX w) k n x mg fa h)
    (hCX : ∀ (w : World) (H : Hp) (s : Shared) (e : Value) (s' : Shared), CX w [] H s (fun _ _ _ => False) e s' → False) :
    PySem.W.WalkO q loose XP YP l.row.toRowW d [] (fun f vs => PySem.call f vs) := by
  refine Att.attach_callB hn hdf fun w s₀ s₁ mg mb fa o pm cd doc a vs ns G Y ho hd hcd hmg hobj hints hlen hbits hg => ?_
  have KX := hY w _ Y
  obtain ⟨fd, cs, sp, hT, nT, C, hb, hsp, hF⟩ := F w mg mb fa _ _ G.T KX hmg
  exact LamX.law_callTs KX G.T.g G.T.b G.T.builtins G.T.nolimit hg hT nT C G.T.bmain hobj hints (Nat.le_trans hlen hn2) hr hF hb (fun H hH hS => hsp H a ns hlen hbits hH hS) fun H e s' => hCX w H s₁ e s'
/-- what the law keeps, from what the head leaves -/
theorem law_at {l : PySem.W.OpenLaw} {w : World} {K : PySem.W.Frag} {mg : Str → Option Value} {k : Nat} {fa c T : Addr} {fd : FuncData} {h : Heap} {q : Str} (hT : h.get? T = some (PySem.W.tabObj #[])) (nT : K.lookup T = none) (C : PySem.W.CodeHd h c T) (hb : ∀ (s : Shared) (u : Value), BindsTo s fd ⟨[u], []⟩ [("script", u)])
    (hF : ∀ base : Heap, K.In base → base.Ns mainGlobals mg → LamX.TabB base mg c T → FnOk l.prog w K mg base CX0 k fa fd ["script"] (spTab K T q)) : LamX.LawAtS l w K CX0 k 63 "script" mg fa h := by
  refine ⟨fd, [(c, T)], spTab K T q, fun p hp => ?_, fun p hp => ?_, fun p hp => ?_, hb, fun H a ns hl _ ht hs => ⟨a, ns, rfl, .nil (ht (c, T) (List.mem_singleton.mpr rfl)), hs, hl, fun _ => rfl⟩, fun base h1 h2 h3 => hF base h1 h2 (h3 (c, T) (List.mem_singleton.mpr rfl))⟩
  all_goals
    rw [List.mem_singleton.mp hp]
    assumption
end Pu

set_option Elab.async false
set_option linter.all false
set_option autoImplicit false
set_option maxRecDepth 100000
/-! a law that makes lambdas: facts of the head -/
namespace Pu
open PySem PySem.Spec PyProof.Rows L2
theorem tabIn_of {K : PySem.W.Frag} {x : Str} {f c P : Addr} {oc : Value} {od : Option Addr} {fd : FuncData} {sl : Array (Option Value)} {o1 : Value} {o2 : Option Addr} {vs : Array Value} {o4 : Array (Option Value)}
    (a : PySem.W.nsIn K mainGlobals x = some (some (.ref f))) (l : K.lookup f = some ⟨oc, od, .func fd, sl⟩) (hc : fd.code = .ref c) (lc : K.lookup c = some ⟨o1, o2, .fields vs, o4⟩) (vP : (vs[11]? : Option Value) = some (.ref P)) : PySem.W.tabIn K x = some (c, P) := by
  unfold PySem.W.tabIn
  rw [a]
  simp only [l, hc, lc, vP]
theorem noTab {K : PySem.W.Frag} {h : Heap} {P : Addr} (X : K.In h) (hP : h.get? P = some (PySem.W.tabObj #[])) (hK : PySem.W.noTabs K = true) : K.lookup P = none := by
  cases q : K.lookup P with
  | none => rfl
  | some o =>
    have e := X P o q
    rw [hP] at e
    cases e
    have h2 := List.all_eq_true.mp hK (P, _) (PySem.W.mem_of_lookupK q)
    exact absurd (show false = true from h2) Bool.false_ne_true
theorem kit_VE {K : PySem.W.Frag} {C : Addr} (h : PySem.W.subIn K (.ref C) (.type "ValueError") = some true) : PySem.W.kitOne K (.ref C) (.type "ValueError") = some true := by
  unfold PySem.W.kitOne
  rw [if_neg (by intro z; exact Bool.noConfusion z)]
  show (if PySem.W.kitMeta "ValueError" = true then PySem.W.subIn K (.ref C) (.type "ValueError") else none) = some true
  rw [if_pos (by decide +kernel), h]
end Pu
namespace Pu
open PySem PySem.Spec PyProof.Rows L2
theorem lam_passE {X : Cx} {A : Around} {outer : List Env} {s : Shared} {H : Hp} {E : XK} {scope : Scope} {f c : Addr} : ∀ σ, PassesAt (L2.CX (LamX.lamCx X A outer s H E scope f c).prog (LamX.lamCx X A outer s H E scope f c).w) (LamX.lamCx X A outer s H E scope f c) σ ((fun _ => E) σ) := @lam_pass X A outer s H E scope f c
end Pu

set_option Elab.async false
set_option linter.all false
set_option autoImplicit false
set_option maxRecDepth 100000
/-! tuple[::-1]; a list of one's own that is changed no more -/
namespace Pu
open PySem PySem.Spec PyProof.Rows L2
section
variable {prog : Program} {w : World} {A : Around} {E : Value → Shared → Prop} {s : Shared}
theorem applied_rev {sl : Addr} {tk : Tok} {n : Nat} {Q : Int × Int × Nat → Shared → Prop} (hs : s.heap.IsSliceOf sl .none .none (.int (-1) tk)) (h : Q ((n : Int) - 1, -1, n) s) : wpAny (model prog w) A (Builtin.Slice.sliceApplied (.ref sl) (pure (n : Int))) Q E s := by
  obtain ⟨os, hos, hcs, hds⟩ := id hs
  unfold Builtin.Slice.sliceApplied Builtin.Slice.sliceFields
  refine wpAny_bind (wpAny_bind (wpAny_field hos hds (x := .none) rfl (wpAny_bind (wpAny_field hos hds (x := .none) rfl (wpAny_bind (wpAny_field hos hds (x := .int (-1) tk) rfl (wpAny_pure ?_)))))))
  refine wpAny_bind (slicePart_int ?_)
  show wpAny _ _ (if ((-1 : Int) == 0) = true then _ else _) _ _ s
  rw [if_neg (by decide)]
  refine wpAny_bind (slicePart_none (wpAny_bind (slicePart_none (wpAny_bind (wpAny_pure ?_)))))
  have e : Builtin.Slice.sliceAdjust none none (-1) (n : Int) = ((n : Int) - 1, -1) := rfl
  show wpAny _ _ (match Builtin.Slice.sliceAdjust none none (-1) (n : Int) with | (lo, hi) => pure (lo, (-1 : Int), Builtin.Slice.slicePlaces lo hi (-1))) _ _ s
  rw [e]
  have e2 : Builtin.Slice.slicePlaces ((n : Int) - 1) (-1) (-1) = n := by
    unfold Builtin.Slice.slicePlaces
    have h1 : ¬ ((-1 : Int) > 0) := by decide
    simp only [h1, if_false]
    rw [show (- -1 : Int) = 1 by decide, Int.ediv_one]
    split <;> omega
  show wpAny _ _ (pure ((n : Int) - 1, (-1 : Int), Builtin.Slice.slicePlaces ((n : Int) - 1) (-1) (-1))) _ _ s
  rw [e2]
  exact wpAny_pure h
theorem pick_rev (xs : Array Value) : ((List.range xs.size).filterMap fun (m : Nat) => xs[(((xs.size : Int) - 1) + (m : Int) * (-1)).toNat]?).toArray = xs.toList.reverse.toArray := by
  have e : (fun (m : Nat) => xs[(((xs.size : Int) - 1) + (m : Int) * (-1)).toNat]?) = (fun i => xs[i]?) ∘ fun m => xs.size - 1 - m := by
    funext m
    have : (((xs.size : Int) - 1) + (m : Int) * (-1)).toNat = xs.size - 1 - m := by omega
    show xs[(((xs.size : Int) - 1) + (m : Int) * (-1)).toNat]? = xs[xs.size - 1 - m]?
    rw [this]
  rw [e, ← List.filterMap_map, PySem.W.krv_range, List.filterMap_reverse, PySem.W.krv_all]
theorem getItem_rev {t sl : Addr} {items : Array Value} {tk : Tok} {Q : Value → Shared → Prop} (ht : IsTup s.heap t items) (hs : s.heap.IsSliceOf sl .none .none (.int (-1) tk))
    (h : Q (.ref s.heap.objs.size) { s with heap := s.heap.push { cls := .type "tuple", data := .seq items.toList.reverse.toArray } })
    (hsz : items.size ≤ sizeLine) : wpAny (model prog w) A (getItem (.ref t) (.ref sl)) Q E s := by
  have htake : sizeOk (.seq items.toList.reverse.toArray) := by
    show items.toList.reverse.toArray.size ≤ sizeLine
    rw [List.size_toArray, List.length_reverse, Array.length_toList]
    exact hsz
  obtain ⟨os, hos, hcs, hds⟩ := id hs
  have hTs : s.TypeIs (.ref sl) "slice" := ⟨os, hos, hcs⟩
  unfold getItem
  try with_reducible refine wpAny_holding ?_
  first | refine wpAny_bind (wpAny_pure ?_) | skip
  refine wpAny_bind (wpAny_sequenceKey ht.typeIs (by decide) ?_)
  refine wpAny_bind (wpAny_callSpecial?_slot (name := Str.ofString "__getitem__") ht.typeIs PyProof.Rows.slot_tuple_getitem
    (wpAny_call_entry PyProof.Rows.slot_tuple_getitem ht.typeIs entry_tuple_getitem ?_ (args_tuple_getitem _ _)))
  show wpAny _ _ (Builtin.Tuple.tupleItemsOf (.ref t) >>= _) _ _ s
  refine wpAny_bind (tupleItemsOf_ ht ?_)
  refine wpAny_bind (wpAny_typeOf hTs ?_)
  rw [if_pos (by decide)]
  refine wpAny_bind (applied_rev hs ?_)
  have hno : ¬ ((((items.size : Int) - 1) == 0 && (-1 : Int) == 1 && items.size == items.size) = true) := by
    intro q
    rw [Bool.and_eq_true, Bool.and_eq_true] at q
    exact absurd q.1.2 (by decide)
  show wpAny _ _ (if (((items.size : Int) - 1) == 0 && (-1 : Int) == 1 && items.size == items.size) = true then _ else _) _ _ s
  rw [if_neg hno, pick_rev]
  first
    | exact wpAny_bind (m := Builtin.Tuple.tupleExact _) (wpAny_newObj_type (wpAny_pure ⟨_, rfl, wpAny_pure h⟩) htake)
    | exact wpAny_bind (m := Builtin.Tuple.tupleExact _) (wpAny_newObj_type (wpAny_bind (wpAny_pure (wpAny_pure ⟨_, rfl, wpAny_pure h⟩))) htake)
    | exact wpAny_bind (wpAny_bind (m := Builtin.Tuple.tupleExact _) (wpAny_newObj_type (wpAny_pure (wpAny_pure ⟨_, rfl, wpAny_pure h⟩)) htake))
    | exact wpAny_bind (wpAny_bind (m := Builtin.Tuple.tupleExact _) (wpAny_newObj_type (wpAny_pure ⟨_, rfl, wpAny_pure h⟩) htake))
end
section
variable {X : Cx} {e : Expr} {f : Mir} {pos : Pos} {K : PySem.W.Frag} {st : Stmt} {F : MirS}
def tRevT (K : PySem.W.Frag) (te : TE) : TE := fun σ H Q => te σ H fun x H1 => ∃ a xs, x = .ref a ∧ SqT K H1 a xs ∧ ∀ p o, H1 p = none → o.dict = none → Q (.ref p) (upd H1 p (.frz o (.tup xs.reverse)))
theorem pe_revT {te : TE} {k : Nat} {p1 p2 p3 : Pos} (he : PE X e te) : PE X (.Subscript e (.Slice none none (some (.UnaryOp .USub (.Constant (.int 1) k p1) p2)) p3) pos) (tRevT X.K te) := by
  refine ⟨fun pins s σ H Q I h => ?_⟩
  refine Subscript_ (thn (he.run pins s σ H _ I h) fun v s1 ⟨x, H1, I1, r1, q1⟩ => ?_)
  obtain ⟨a, xs, ex, hx, q⟩ := q1
  subst ex
  cases r1
  have hst : PO X (some (.UnaryOp .USub (.Constant (.int 1) k p1) p2)) (tPart (tUn (rU fun i => .int (-i)) (tC (.int 1)))) := po_some (pe_un un_neg pe_int)
  refine wpAny_Slice (thn (po_none.run pins s1 σ H1 (fun o H2 => o = none ∧ H2 = H1) I1 ⟨rfl, rfl⟩) fun vl s2 ⟨l, H2, I2, pl, el, e2⟩ => ?_)
  subst el e2
  refine thn (po_none.run pins s2 σ H2 (fun o H3 => o = none ∧ H3 = H2) I2 ⟨rfl, rfl⟩) fun vu s3 ⟨u, H3, I3, pu, eu, e3⟩ => ?_
  subst eu e3
  refine thn (hst.run pins s3 σ H3 (fun o H4 => o = some (-1) ∧ H4 = H3) I3 ⟨1, rfl, -1, rfl, rfl, rfl⟩) fun vs s4 ⟨o, H4, I4, ps, eo, e4⟩ => ?_
  subst eo e4
  obtain rfl : vl = .none := by cases pl; rfl
  obtain rfl : vu = .none := by cases pu; rfl
  obtain ⟨tk, rfl⟩ : ∃ tk, vs = .int (-1) tk := by cases ps; exact ⟨_, rfl⟩
  have I5 : Inv X pins σ H4 { s4 with heap := s4.heap.push { cls := .type "slice", data := .fields #[.none, .none, .int (-1) tk] } } := I4.kept (t' := s4.toks) fun b ob q => Heap.get?_push_of_some _ q
  obtain ⟨us, r, ht, hz⟩ := I5.tuple hx
  have hl : us.toArray.size = xs.length := by rw [List.size_toArray, r.length]
  show wpAny (model X.prog X.w) X.A (subscriptTail e (.Slice none none (some (.UnaryOp .USub (.Constant (.int 1) k p1) p2)) p3) (.ref a) (.ref s4.heap.objs.size)) (EP X pins σ Q) X.xe { s4 with heap := s4.heap.push { cls := .type "slice", data := .fields #[.none, .none, .int (-1) tk] } }
  refine tail_any (ops := [.ref a, .ref s4.heap.objs.size]) ht.typeIs (PyProof.Rows.slot_tuple_getitem.lookup) ?_ (by with_unfolding_all rfl)
  refine getItem_rev ht (Heap.IsSliceOf.new _ .none .none (.int (-1) tk)) ?_ (by rw [hl]; exact hz)
  exact ⟨.ref _, _, laidT (t' := s4.toks) I5 r.reverse (by rw [List.length_reverse]; exact hz), rfl, q _ _ (I5.hok.fresh (Nat.le_refl _)) rfl⟩
def oRevT : D → Option D
  | .tuple xs => some (.tuple xs.reverse)
  | _ => none
theorem pd_revT {k : Nat} {p1 p2 p3 : Pos} (ha : PD X e f) : PD X (.Subscript e (.Slice none none (some (.UnaryOp .USub (.Constant (.int 1) k p1) p2)) p3) pos) (m1 oRevT f) := weak (pe_revT ha) fun σ H Q ⟨S, B, ρ, d, E, e, kk⟩ => by
  obtain ⟨x, e1, e2⟩ := m1_some e
  cases x <;> try (cases e2; done)
  cases e2
  refine ⟨S, B, ρ, _, E, e1, fun v H1 s1 q1 => ?_⟩
  obtain ⟨a, vs, rfl, z1, z2⟩ := Dq.sqT q1
  refine ⟨a, vs, rfl, z1, fun p o hp ho => ?_⟩
  obtain ⟨s4, n4⟩ := new_tup (E.step s1).sub hp ho z2.rev
  exact kk _ _ (s1.trans s4) n4
/-! ### a list of one's own becomes data -/
def frz (i : Nat) (ρ : Rho) : Rho := match ρ[i]? with
  | some (.own ds) => ρ.set i (.dat (.list ds))
  | _ => ρ
def sFrz (i : Nat) (F : MirS) : MirS := fun ρ => F (frz i ρ)
theorem frz_ok {S T : Addr → Prop} {B : Base} {H : Hp} {σ : L2.St} {ρ : Rho} (i : Nat) (E : StOk K S T B H σ ρ) : ∃ S', StOk K S' T B H σ (frz i ρ) := by
  unfold frz
  split
  rotate_left
  · exact ⟨S, E⟩
  rename_i ds hi
  have hl : i < ρ.length := (List.getElem?_eq_some_iff.mp hi).1
  have z := E.env.slot i _ hi
  cases hw : (σ[i]?.getD none) with
  | none =>
    rw [hw] at z
    exact z.elim
  | some v =>
    rw [hw] at z
    obtain ⟨a, vs, rfl, z1, z2, z3, z4⟩ := z
    have hσ : σ[i]? = some (some (.ref a)) := by
      cases q : σ[i]? with
      | none =>
        rw [q] at hw
        cases hw
      | some o =>
        rw [q] at hw
        exact congrArg some hw
    have le : ∀ b, (S b ∧ b ≠ a) → S b := fun b h => h.1
    have ap : ∀ j x, j ≠ i → ρ[j]? = some x → x.owned = true → ∀ b, σ[j]? = some (some (.ref b)) → b ≠ a := fun j x n hx ox b hb e => by
      rw [e] at hb
      exact E.env.apart j i a x _ n hx ox hi rfl hb hσ
    have gd : ∀ {j : Nat} {v : V}, σ[j]?.getD none = some v → σ[j]? = some (some v) := fun {j v} h => by
      cases q : σ[j]? with
      | none =>
        rw [q] at h
        cases h
      | some o =>
        rw [q] at h
        exact congrArg some h
    have sd : Same (hid S H) (hid (fun b => S b ∧ b ≠ a) H) := hid_le H le
    have set_ne : ∀ {j : Nat} {x : Sl}, j ≠ i → (ρ.set i (.dat (.list ds)))[j]? = some x → ρ[j]? = some x := fun {j x} n h => by
      rw [List.getElem?_set_ne (Ne.symm n)] at h
      exact h
    have set_eq : ∀ {x : Sl}, (ρ.set i (.dat (.list ds)))[i]? = some x → x = .dat (.list ds) := fun {x} h => by
      rw [List.getElem?_set_self hl] at h
      exact (Option.some.inj h).symm
    refine ⟨fun b => S b ∧ b ≠ a, ⟨by rw [List.length_set]; exact E.env.len, fun b hb => E.env.sub b hb.1, E.env.base, fun j x h => ?_, fun j l b x y n hx ox hy oy => ?_, E.env.tab⟩, fun b tb => ⟨E.sup b tb, fun e => ?_⟩, E.inn, fun b hb => E.lim b hb.1⟩
    · by_cases hj : j = i
      · subst hj
        rw [set_eq h, hw]
        exact .lst (.inl (.inl (hid_of (fun q => q.2 rfl) z3))) (z4.mono sd)
      · have h := set_ne hj h
        have w := E.env.slot j x h
        cases hv : (σ[j]?.getD none) with
        | none =>
          rw [hv] at w
          cases x <;> first | trivial | exact w
        | some u =>
          rw [hv] at w
          cases x with
          | no => trivial
          | dat d => exact Dq.mono sd w
          | dtab P q d =>
            obtain ⟨w1, w2, w3, w4⟩ := w
            refine ⟨Dq.mono sd w1, ⟨w2, fun e => ?_⟩, w3, w4⟩
            have t := E.env.tab
            rw [w4] at t
            obtain ⟨ps, hp, _⟩ := t
            rw [e, z3] at hp
            cases hp
          | own es =>
            obtain ⟨b, us, rfl, e2, e3, e4, e5⟩ := w
            exact ⟨b, us, rfl, ⟨e2, ap j _ hj h rfl b (gd hv)⟩, e3, e4, e5.mono sd⟩
          | dic es =>
            obtain ⟨b, us, rfl, e2, e3, e4, e5⟩ := w
            exact ⟨b, us, rfl, ⟨e2, ap j _ hj h rfl b (gd hv)⟩, e3, e4, e5.mono sd⟩
          | mu es =>
            obtain ⟨b, us, rfl, e2, e3, e4, e5, e6⟩ := w
            exact ⟨b, us, rfl, ⟨e2, ap j _ hj h rfl b (gd hv)⟩, e3, e4, e5.mono sd, e6⟩
          | bor es =>
            obtain ⟨b, us, rfl, e2, e5⟩ := w
            exact ⟨b, us, rfl, e2, e5.mono sd⟩
    · by_cases hj : j = i
      · subst hj
        rw [set_eq hx] at ox
        cases ox
      · by_cases hl' : l = i
        · subst hl'
          rw [set_eq hy] at oy
          cases oy
        · exact E.env.apart j l b x y n (set_ne hj hx) ox (set_ne hl' hy) oy
    · rw [e] at tb
      exact E.inn a tb z2
theorem sd_frz (i : Nat) (h : PSD X st F) : PSD X st (sFrz i F) := weakS h fun Dn σ H ⟨T, B, ρ, o, ⟨S, E⟩, e, k⟩ => by
  obtain ⟨S', E'⟩ := frz_ok i E
  exact ⟨T, B, frz i ρ, o, ⟨S', E'⟩, e, k⟩
end
end Pu

set_option Elab.async false
set_option linter.all false
set_option autoImplicit false
set_option maxRecDepth 100000
/-! running told -/
namespace Pu
open PySem PySem.Spec PyProof.Rows L2
open SX (S)
open TL (numL)
section
variable {ρ : Rho} {P : Addr} {q : Str} {d : D} {fx : MirE} {r : Rz D} {i : Nat} {fe ge : MirEf} {F G : MirS} {f g : Mir}
@[simp] theorem v_var0T : mVar 0 (.dtab P q d :: ρ) = some d := rfl
theorem v_told (e : fx (.dtab P q d :: ρ) = some r) : mTold P q fx (.dtab P q d :: ρ) = some (tldD r, .dtab P q d :: ρ) := by
  unfold mTold hasTab
  simp [e]
theorem v_sSetE {x : D} {ρ' : Rho} (e : fe ρ = some (x, ρ')) : sSetE i fe ρ = some (.nx (ρ'.set i (.dat x))) := by
  unfold sSetE
  rw [e]
  rfl
theorem v_fUp {x : D} (e : f ρ = some x) : fUp f ρ = some (x, ρ) := by
  unfold fUp
  rw [e]
  rfl
theorem v_f2 {m : D → D → Option D} {x y z : D} {ρ' : Rho} (e : fe ρ = some (x, ρ')) (e2 : g ρ' = some y) (e3 : m x y = some z) : f2 m fe g ρ = some (z, ρ') := by
  unfold f2
  rw [e]
  show ((g ρ').bind _) = _
  rw [e2]
  show ((m x y).map _) = _
  rw [e3]
  rfl
theorem v_fAndT {x : D × Rho} {ρ' : Rho} (e : fe ρ = some (.bool true, ρ')) : fAnd fe ge ρ = ge ρ' := by
  unfold fAnd
  rw [e]
  rfl
theorem v_fAndF {ρ' : Rho} (e : fe ρ = some (.bool false, ρ')) : fAnd fe ge ρ = some (.bool false, ρ') := by
  unfold fAnd
  rw [e]
  rfl
theorem v_sIfE {b : Bool} {ρ' : Rho} (e : fe ρ = some (.bool b, ρ')) : sIfE fe F G ρ = if b = true then F ρ' else G ρ' := by
  unfold sIfE
  rw [e]
  cases b <;> rfl
theorem v_sRetE {x : D} {ρ' : Rho} (e : fe ρ = some (x, ρ')) : sRetE fe ρ = some (.rt x) := by
  unfold sRetE
  rw [e]
  rfl
end
end Pu

set_option Elab.async false
set_option linter.all false
set_option autoImplicit false
set_option maxRecDepth 100000
/-! {k: v, ..}; a def that calls itself -/
namespace Pu
open PySem PySem.Spec PyProof.Rows L2
section
variable {X : Cx} {K : PySem.W.Frag} {f g : Mir} {pos : Pos}
abbrev PPD (X : Cx) (pos : Pos) (keys : List (Option Expr)) (values : List Expr) (ps : List (Mir × Mir)) : Prop := PPs X pos keys values (ps.map fun p => (tOf X.K p.1, tOf X.K p.2))
theorem ppd_nil : PPD X pos [] [] [] := pps_nil
theorem ppd_cons {k v : Expr} {ks : List (Option Expr)} {vs : List Expr} {ps : List (Mir × Mir)} (hk : PD X k f) (hv : PD X v g) (hr : PPD X pos ks vs ps) : PPD X pos (some k :: ks) (v :: vs) ((f, g) :: ps) := pps_cons hk hv hr
def dPs : List (Mir × Mir) → MirM
  | [] => fun _ => some []
  | (f, g) :: r => fun ρ => (f ρ).bind fun x => (keyD x).bind fun k => (g ρ).bind fun v => (dPs r ρ).map fun kvs => (k, v) :: kvs
theorem dps_of : ∀ {ps : List (Mir × Mir)} {S : Addr → Prop} {B : Base} {H : Hp} {σ : L2.St} {ρ : Rho} {kvs : KVs} {Q : List (V × V) → Hp → Prop}, EnvOk K S B H σ ρ → dPs ps ρ = some kvs → (∀ es H', Same H H' → DKV K (hid S H') es kvs → Q (es.map fun kv => (kV kv.1, kv.2)) H') → tPairs (ps.map fun p => (tOf K p.1, tOf K p.2)) σ H Q
  | [], S, B, H, σ, ρ, kvs, Q, E, e, k => by
    cases e
    exact k [] H (Same.refl H) .nil
  | (f, g) :: ps, S, B, H, σ, ρ, kvs, Q, E, e, k => by
    obtain ⟨x, e1, e⟩ := bind_some e
    obtain ⟨ky, e2, e⟩ := bind_some e
    obtain ⟨v, e3, e⟩ := bind_some e
    obtain ⟨r, e4, rfl⟩ := map_some e
    refine ⟨S, B, ρ, x, E, e1, fun u H1 s1 p1 => ⟨S, B, ρ, v, E.step s1, e3, fun w H2 s2 p2 => ?_⟩⟩
    obtain rfl := key_dp p1 e2
    exact dps_of ((E.step s1).step s2) e4 fun es H3 s3 d3 => k ((ky, w) :: es) H3 ((s1.trans s2).trans s3) (.cons ⟨rfl, Dq.mono (same_hid s3) p2⟩ d3)
theorem DKV.leng {F : Hp} : ∀ {es : List (Key × V)} {kvs : KVs}, DKV K F es kvs → es.length = kvs.length
  | _, _, .nil => rfl
  | _, _, .cons _ r => by rw [List.length_cons, List.length_cons, DKV.leng r]
def dDisp (ps : List (Mir × Mir)) : MirM := fun ρ => (dPs ps ρ).bind fun kvs => if kvs.length ≤ 15 then some (mergeD [] kvs) else none
theorem dn_disp {keys : List (Option Expr)} {values : List Expr} {ps : List (Mir × Mir)} (h : PPD X pos keys values ps) (hall : keys.all (·.isSome) = true := by rfl) (hl : keys.length = values.length := by rfl) (h0 : keys ≠ [] := by intro z; cases z) (h15 : keys.length ≤ 15 := by decide) : PND X (.Dict keys values pos) (dDisp ps) :=
  weak (pe_disp h hall hl h0 h15) fun σ H Q ⟨S, B, ρ, kvs, E, e, k⟩ => by
    obtain ⟨kv, e1, e2⟩ := bind_some e
    obtain ⟨c, rfl⟩ := ite_some e2
    intro p hp
    have E1 : EnvOk X.K (plus S p) B (upd H p (.dK [])) σ ρ := E.grow (same_upd hp) hp (by rw [upd_same]; exact fun z => nomatch z)
    refine dps_of E1 e1 fun es H2 s2 d2 => ⟨s2 _ _ upd_same, es, rfl, by rw [d2.leng]; exact c, ?_⟩
    refine k p (mergeK [] es) _ (fun b o q => ?_) hp upd_same ((d2.merge .nil).mono (hid_upd (.inr rfl)))
    have hb : b ≠ p := ne_of_none q hp
    rw [upd_ne hb]
    exact s2 _ _ (by rw [upd_ne hb]; exact q)
end
section
variable {X : Cx} {e : Expr} {g : MirM}
def xDic (g : MirM) (r : MirX) : MirX := fun ρ => (g ρ).bind fun kvs => (r ρ).bind fun xs => some (.bor kvs :: xs)
theorem xl_dic {g : MirM} {r : MirX} {n : Nat} (h : XLen r n) : XLen (xDic g r) (n + 1) := fun ρ xs e => by
  obtain ⟨x, e1, e2⟩ := bind_some e
  obtain ⟨ys, e3, e4⟩ := bind_some e2
  cases e4
  rw [List.length_cons, h ρ ys e3]
theorem xd_dic {es : List Expr} {r : MirX} (h : PMD X e g) (hr : PXD X es r) (hs : starEach (e :: es) X.env = (false, eval e X.env) :: starEach es X.env := by rfl) : PXD X (e :: es) (xDic g r) :=
  weakA (pa_cons h hr hs) fun σ H Q ⟨S, B, ρ, ds, E, e, k⟩ => by
    obtain ⟨x, e1, e2⟩ := bind_some e
    obtain ⟨xs, e3, e4⟩ := bind_some e2
    cases e4
    exact ⟨S, B, ρ, x, E, e1, fun a es H1 s1 h1 d1 => ⟨S, B, ρ, xs, E.step s1, e3, fun vs H2 s2 p2 => k _ H2 (s1.trans s2) (.cons ⟨a, es, rfl, s2 _ _ h1, d1.mono (same_hid s2)⟩ p2)⟩⟩
end
theorem okF_no {P : Program} {w : World} {K : PySem.W.Frag} {mg : Str → Option Value} {base : Heap} {x : Str} {st : Stmt} {ps : List Str} {k n : Nat} (D : Def K mg x st ps) : OkF P w K mg base k x n (fun _ => none) := by
  obtain ⟨a, fd, h1, h2, h3⟩ := D
  exact ⟨a, fd, ps, ⟨fun vs H Q E ⟨_, _, _, _, _, _, e, _⟩ => (nomatch e), fun A outer s H args us vs Q E _ _ _ _ ⟨_, _, _, _, _, _, e, _⟩ => (nomatch e)⟩, h2, h1.kp, h3⟩
end Pu

set_option Elab.async false
set_option linter.all false
set_option autoImplicit false
set_option maxRecDepth 100000
set_option maxHeartbeats 1000000
namespace Pu
open PySem PySem.Spec PyProof.Rows L2
def B_law_any : MirS :=
  (sSeq (sSet 2 (mC (.str "abcdefghijklmnopqrstuvwxyz")))
    (sRet (m2 oJoin (mC (.str "")) (mL (lLc [3] (iR1 (aCons (m2 oAdd (mC (.int 1)) (m2 oMod (mVar 0) (mVar 1))) aNil)) (gN 3) mYes (m2 oIx (mVar 2) (m2 oMod (m2 oDiv (mCall (F_law_drawn) (xDat (mVar 0) (xDat (m2 oAdd (mC (.int 70)) (mVar 3)) xNil))) (mC (.int 4))) (mC (.int 26)))))))))
def F_law_any : MirF := runB 4 B_law_any

def B_law_swapped (F : MirF) : MirS :=
  (sSeq (sIf (m1 (oIsi "tuple") (mVar 0))
      (sRet (mA oTuple (aCons (mL (lLc [2] (iD (mVar 0)) (gN 2) mYes (mCall F (xDat (mVar 2) (xBor 1 xNil))))) aNil)))
      sNil)
    (sSeq (sIf (m1 (oIsi "str") (mVar 0))
      (sRet (mDGet2 (dVar 1) (mVar 0) (mVar 0)))
      sNil)
    (sRet (mVar 0))))
def F_law_swapped : Nat → MirF
  | 0 => fun _ => none
  | j + 1 => runB 3 (B_law_swapped (F_law_swapped j))

end Pu

set_option Elab.async false
set_option linter.all false
set_option autoImplicit false
set_option maxRecDepth 100000
set_option maxHeartbeats 1000000
/-! drawn names; names swapped -/
namespace Pu
open PySem PySem.Spec PyProof.Rows L2
open SX (S)
open TL (numL)
theorem sign26 (z : Int) : ∃ c : Nat, (97 ≤ c ∧ c ≤ 122) ∧ oIx (.str "abcdefghijklmnopqrstuvwxyz") (.int (z % 26)) = some (.str (S [c])) := by
  have h0 : Str.ofString "abcdefghijklmnopqrstuvwxyz" = S ((List.range 26).map (97 + ·)) := by decide +kernel
  obtain ⟨k, hk⟩ : ∃ k : Nat, z % 26 = (k : Int) := ⟨(z % 26).toNat, by omega⟩
  have hk2 : k < 26 := by omega
  rw [hk, h0]
  refine ⟨97 + k, by omega, ixS (by decide) ?_⟩
  rw [List.getElem?_map, List.getElem?_range hk2]
  rfl
theorem any_is (n : Int) : ∃ k : Str, keyOk k = true ∧ F_law_any [.dat (.int n), .dat (.int 5)] = some (.str k) := by
  obtain ⟨r, hr⟩ : ∃ r : Nat, 1 + n % 5 = (r : Int) := ⟨(1 + n % 5).toNat, by omega⟩
  have hr5 : 1 ≤ r ∧ r ≤ 5 := by omega
  let cs : Nat → Nat := fun k => Classical.choose (sign26 (drN n (70 + (k : Int)) / 4))
  have hcs : ∀ k : Nat, (97 ≤ cs k ∧ cs k ≤ 122) ∧ oIx (.str "abcdefghijklmnopqrstuvwxyz") (.int (drN n (70 + (k : Int)) / 4 % 26)) = some (.str (S [cs k])) := fun k => Classical.choose_spec (sign26 (drN n (70 + (k : Int)) / 4))
  let rs : List (List Nat) := (List.range r).map fun k => [cs k]
  have hfl : rs.flatten = (List.range r).map cs := by
    show ((List.range r).map fun k => [cs k]).flatten = _
    generalize List.range r = l
    induction l with
    | nil => rfl
    | cons a l ih =>
      rw [List.map_cons, List.flatten_cons, ih]
      rfl
  refine ⟨S rs.flatten, keyOk_S (by rw [hfl, List.length_map, List.length_range]; exact hr5) ?_, run_rt ?_⟩
  · rw [hfl, List.all_eq_true]
    intro c hc
    obtain ⟨k, _, rfl⟩ := List.mem_map.mp hc
    exact decide_eq_true (hcs k).1
  · have hlc : mL (lLc [3] (iR1 (aCons (m2 oAdd (mC (.int 1)) (m2 oMod (mVar 0) (mVar 1))) aNil)) (gN 3) mYes (m2 oIx (mVar 2) (m2 oMod (m2 oDiv (mCall (F_law_drawn) (xDat (mVar 0) (xDat (m2 oAdd (mC (.int 70)) (mVar 3)) xNil))) (mC (.int 4))) (mC (.int 26))))) [.dat (.int n), .dat (.int 5), .dat (.str "abcdefghijklmnopqrstuvwxyz"), .no] = some (.list (rwD rs)) := by
      refine v_listLc (ds := rgD 0 r) ?_ (by rw [rgD_is, List.length_map, List.length_range]; omega) ?_
      · rw [iR1_i (j := (r : Int)) ?_ (by omega) (by omega), Int.toNat_natCast]
        simp (implicitDefEqProofs := false) [hr]
      · rw [rgD_is]
        have e : rwD rs = (List.range r).map fun k => PyData.str (S [cs k]) := by
          show ((List.range r).map fun k => [cs k]).map _ = _
          rw [List.map_map]
          rfl
        rw [e]
        refine lc_mapT (fun k : Nat => PyData.int (k : Int)) _ (List.range r) fun k hk => ⟨_, rfl, ?_⟩
        have hd := drawn n (70 + (k : Int))
        simp (implicitDefEqProofs := false) [hd, (hcs k).2]
    have hj : oJoin (.str "") (.list (rwD rs)) = some (.str (S rs.flatten)) := by
      rw [em_S, joinSS (m := 1) (fun q hq => by
        obtain ⟨k, _, rfl⟩ := List.mem_map.mp hq
        exact Nat.le_refl 1) (by show (List.map _ (List.range r)).length * 1 + (List.map _ (List.range r)).length * 0 ≤ _; rw [List.length_map, List.length_range]; omega), joinL_nil]
    unfold B_law_any
    rw [v_seqN (ρ' := [.dat (.int n), .dat (.int 5), .dat (.str "abcdefghijklmnopqrstuvwxyz"), .no]) rfl, v_sRet, v_m2, hlc]
    simp only [v_C, Option.bind_some, hj]
    rfl
/-! names swapped -/
def swS (k s : Str) : Str := if s = "coin" then k else s
abbrev coinB (k : Str) : Sl := .bor [(.inr "coin", .str k)]
theorem sw_str (j : Nat) (k s : Str) : F_law_swapped (j + 1) [.dat (.str s), coinB k] = some (.str (swS k s)) := by
  refine run_rt ?_
  unfold B_law_swapped
  have q1 : ∀ F G, sIf (m1 (oIsi "tuple") (mVar 0)) F G (startR 3 [.dat (.str s), coinB k]) = G (startR 3 [.dat (.str s), coinB k]) := fun F G => by
    rw [v_sIf (b := false) rfl]
    rfl
  rw [v_seqN (ρ' := startR 3 [.dat (.str s), coinB k]) (by rw [q1]; rfl), v_seqR (d := .str (swS k s))]
  rw [v_sIf (b := true) rfl, if_pos rfl]
  unfold swS mDGet2
  by_cases h : s = "coin"
  · rw [if_pos h]
    subst h
    rfl
  · rw [if_neg h]
    have : valD [((.inr "coin" : Key), PyData.str k)] (.inr s) = none := by
      unfold valD
      simp [Ne.symm h]
    show Option.map Out.rt (some ((valD [((.inr "coin" : Key), PyData.str k)] (.inr s)).getD (.str s))) = _
    rw [this]
    rfl
theorem sw_int (j : Nat) (k : Str) (i : Int) : F_law_swapped (j + 1) [.dat (.int i), coinB k] = some (.int i) := by
  refine run_rt ?_
  unfold B_law_swapped
  rw [v_seqN (ρ' := startR 3 [.dat (.int i), coinB k]) (by rw [v_sIf (b := false) rfl]; rfl), v_seqN (ρ' := startR 3 [.dat (.int i), coinB k]) (by rw [v_sIf (b := false) rfl]; rfl)]
  rfl
theorem sw_tup {τ : Type} (e g : τ → D) {j : Nat} {k : Str} {l : List τ} (hl : l.length ≤ 1000) (h : ∀ t ∈ l, F_law_swapped j [.dat (e t), coinB k] = some (g t)) : F_law_swapped (j + 1) [.dat (.tuple (l.map e)), coinB k] = some (.tuple (l.map g)) := by
  refine run_rt ?_
  unfold B_law_swapped
  rw [v_seqR (d := .tuple (l.map g))]
  rw [v_sIf (b := true) rfl, if_pos rfl, v_sRet, v_tupLc (ds := l.map e) rfl (by rw [List.length_map]; omega) (lc_mapT e g l fun t ht => ⟨_, rfl, ?_⟩)]
  · rfl
  · have := h t ht
    simp (implicitDefEqProofs := false) [startR, this]
def swM (k : Str) (b : Mp Int) : Mp Int := b.map fun p => (swS k p.1, p.2)
theorem sw_book (k : Str) {b : Mp Int} (hl : b.length ≤ 1000) (j : Nat) : F_law_swapped (j + 3) [.dat (bkD b), coinB k] = some (bkD (swM k b)) := by
  have h := sw_tup (j := j + 2) (k := k) (prD PyData.int) (fun p => prD .int (swS k p.1, p.2)) (l := b) hl fun p hp => by
    have := sw_tup (j := j + 1) (k := k) (fun d : D => d) (fun d => match d with | .str s => .str (swS k s) | d => d) (l := [.str p.1, .int p.2]) (by simp) fun d hd => by
      rcases List.mem_cons.mp hd with z | z
      · rw [z]
        exact sw_str j k p.1
      · rw [List.mem_singleton.mp z]
        exact sw_int j k p.2
    exact this
  unfold bkD
  have e : itM .int (swM k b) = b.map fun p => prD .int (swS k p.1, p.2) := by
    unfold itM swM
    rw [List.map_map]
    rfl
  rw [e]
  exact h
end Pu

set_option Elab.async false
set_option linter.all false
set_option autoImplicit false
set_option maxRecDepth 100000
set_option maxHeartbeats 1000000
namespace Pu
open PySem PySem.Spec PyProof.Rows L2
def top (i : Nat) : Stmt := PySem.Challenge.pw_savehall_k20_saves_as_texts.main.body.getD i (.Pass ⟨0, 0, 0, 0⟩)
theorem sc_is_key : FnScope ["thing", "sign"] ["thing"] (defScope (top 10)) := ⟨rfl, rfl, rfl, by decide +kernel, rfl, by decide +kernel, by decide +kernel⟩
theorem ok_is_key {P : Program} {w : World} {K : PySem.W.Frag} {mg : Str → Option Value} {base : Heap} (D : Def K mg "is_key" (top 10) ["thing"]) {t_LETTERS : Tok} (c_LETTERS : mg "LETTERS" = some (.str "abcdefghijklmnopqrstuvwxyz" t_LETTERS)) {t_LONGEST : Tok} (c_LONGEST : mg "LONGEST" = some (.int 5 t_LONGEST)) (z_all : mg "all" = none) (z_isinstance : mg "isinstance" = none) (z_len : mg "len" = none) (z_str : mg "str" = none) :
    OkF P w K mg base 1 "is_key" 1 F_is_key := by
  refine okF D sc_is_key (by decide) fun fa cdv A outer s H E hr => ?_
  have hu64 := hr.units
  have hu := hu_of hr
  exact (sd_one (sd_ret (pd_and (pd_isi_str (by rfl) z_isinstance (by rfl) z_str (pd_var 0)) (pd_and (pd_lele pd_int (pd_len (by rfl) z_len (ad_cons (pd_var 0) ad_nil)) (pd_glI (by rfl) c_LONGEST)) (pd_one (pd_all (by rfl) z_all (ad_cons (pd_ofL (ld_lc (own := [("sign", 1)]) rfl rfl sc_is_key.nd (id_any (pd_var 0)) (blkOk_by (N := ["thing", "sign"]) (sc := defScope (top 10)) (by decide +kernel)) (fun _ _ _ _ _ => (gd_name (i := 1) sc_is_key.nd)) (fun _ _ _ _ _ => tsd_nil) (fun _ _ _ _ _ => (pd_in (pd_var 1) (pd_glS (by rfl) c_LETTERS))))) ad_nil)))))))

theorem sc_is_whole : FnScope ["thing", "low", "high"] ["thing", "low", "high"] (defScope (top 11)) := ⟨rfl, rfl, rfl, by decide +kernel, rfl, by decide +kernel, by decide +kernel⟩
theorem ok_is_whole {P : Program} {w : World} {K : PySem.W.Frag} {mg : Str → Option Value} {base : Heap} (D : Def K mg "is_whole" (top 11) ["thing", "low", "high"]) (z_bool : mg "bool" = none) (z_int : mg "int" = none) (z_isinstance : mg "isinstance" = none) :
    OkF P w K mg base 1 "is_whole" 3 F_is_whole := by
  refine okF D sc_is_whole (by decide) fun fa cdv A outer s H E hr => ?_
  have hu64 := hr.units
  have hu := hu_of hr
  exact (sd_one (sd_ret (pd_and (pd_isi_int (by rfl) z_isinstance (by rfl) z_int (pd_var 0)) (pd_and (pd_not (pd_isi_bool (by rfl) z_isinstance (by rfl) z_bool (pd_var 0))) (pd_one (pd_lele (pd_var 1) (pd_var 0) (pd_var 2)))))))

theorem sc_is_pair : FnScope ["thing"] ["thing"] (defScope (top 12)) := ⟨rfl, rfl, rfl, by decide +kernel, rfl, by decide +kernel, by decide +kernel⟩
theorem ok_is_pair {P : Program} {w : World} {K : PySem.W.Frag} {mg : Str → Option Value} {base : Heap} (D : Def K mg "is_pair" (top 12) ["thing"]) {t_RING : Tok} (c_RING : mg "RING" = some (.int 1000 t_RING)) (z_isinstance : mg "isinstance" = none) (z_len : mg "len" = none) (z_tuple : mg "tuple" = none) (o_is_key : OkF P w K mg base 1 "is_key" 1 F_is_key) (o_is_whole : OkF P w K mg base 1 "is_whole" 3 F_is_whole) :
    OkF P w K mg base 2 "is_pair" 1 F_is_pair := by
  refine okF D sc_is_pair (by decide) fun fa cdv A outer s H E hr => ?_
  have hu64 := hr.units
  have hu := hu_of hr
  exact (sd_one (sd_ret (pd_and (pd_isi_tuple (by rfl) z_isinstance (by rfl) z_tuple (pd_var 0)) (pd_and (pd_eq hu64 (pd_len (by rfl) z_len (ad_cons (pd_var 0) ad_nil)) pd_int) (pd_and (pd_callF o_is_key (hr.mono (by decide)) (xl_dat xl_nil) (xd_dat (pd_ix (pd_var 0) pd_int) xd_nil)) (pd_one (pd_callF o_is_whole (hr.mono (by decide)) (xl_dat (xl_dat (xl_dat xl_nil))) (xd_dat (pd_ix (pd_var 0) pd_int) (xd_dat pd_int (xd_dat (pd_sub (pd_glI (by rfl) c_RING) pd_int) xd_nil))))))))))

theorem sc_is_book : FnScope ["thing", "part", "one", "other"] ["thing"] (defScope (top 13)) := ⟨rfl, rfl, rfl, by decide +kernel, rfl, by decide +kernel, by decide +kernel⟩
theorem ok_is_book {P : Program} {w : World} {K : PySem.W.Frag} {mg : Str → Option Value} {base : Heap} (D : Def K mg "is_book" (top 13) ["thing"]) (z_all : mg "all" = none) (z_isinstance : mg "isinstance" = none) (z_tuple : mg "tuple" = none) (z_zip : mg "zip" = none) (o_is_pair : OkF P w K mg base 2 "is_pair" 1 F_is_pair) :
    OkF P w K mg base 3 "is_book" 1 F_is_book := by
  refine okF D sc_is_book (by decide) fun fa cdv A outer s H E hr => ?_
  have hu64 := hr.units
  have hu := hu_of hr
  exact (sd_cons (sd_if (PW.pt (wd_or (td_not (td_val (pd_isi_tuple (by rfl) z_isinstance (by rfl) z_tuple (pd_var 0)))) (wd_or1 (td_not (td_val (pd_all (by rfl) z_all (ad_cons (pd_ofL (ld_lc (own := [("part", 1)]) rfl rfl sc_is_book.nd (id_any (pd_var 0)) (blkOk_by (N := ["thing", "part", "one", "other"]) (sc := defScope (top 13)) (by decide +kernel)) (fun _ _ _ _ _ => (gd_name (i := 1) sc_is_book.nd)) (fun _ _ _ _ _ => tsd_nil) (fun _ _ _ _ _ => (pd_callF o_is_pair (hr.mono (by decide)) (xl_dat xl_nil) (xd_dat (pd_var 1) xd_nil))))) ad_nil)))))))
      (sd_one (sd_ret pd_bl))
      sd_nil)
    (sd_one (sd_ret (pd_all (by rfl) z_all (ad_cons (pd_ofL (ld_lc (own := [("one", 2), ("other", 3)]) rfl rfl sc_is_book.nd (id_zip (by rfl) z_zip (ad_cons (pd_slice (pd_var 0) od_none (od_some (pd_neg pd_int))) (ad_cons (pd_slice (pd_var 0) (od_some pd_int) od_none) ad_nil))) (blkOk_by (N := ["thing", "part", "one", "other"]) (sc := defScope (top 13)) (by decide +kernel)) (fun _ _ _ _ _ => (gd_tup rfl (gs_cons (i := 2) (gs_cons (i := 3) gs_nil sc_is_book.nd) sc_is_book.nd))) (fun _ _ _ _ _ => tsd_nil) (fun _ _ _ _ _ => (pd_lt (pd_ix (pd_var 2) pd_int) (pd_ix (pd_var 3) pd_int))))) ad_nil)))))

theorem sc_sum_of : FnScope ["text", "found", "sign", "number"] ["text"] (defScope (top 20)) := ⟨rfl, rfl, rfl, by decide +kernel, rfl, by decide +kernel, by decide +kernel⟩
theorem ok_sum_of {P : Program} {w : World} {K : PySem.W.Frag} {mg : Str → Option Value} {base : Heap} (D : Def K mg "sum_of" (top 20) ["text"]) {t_FACTOR : Tok} (c_FACTOR : mg "FACTOR" = some (.int 31 t_FACTOR)) {t_LAST : Tok} (c_LAST : mg "LAST" = some (.int 9973 t_LAST)) {t_ROW_END : Tok} (c_ROW_END : mg "ROW_END" = some (.str "\n" t_ROW_END)) {t_ROW_END_NUMBER : Tok} (c_ROW_END_NUMBER : mg "ROW_END_NUMBER" = some (.int 10 t_ROW_END_NUMBER)) (z_ord : mg "ord" = none) (z_str : mg "str" = none) :
    OkF P w K mg base 1 "sum_of" 1 F_sum_of := by
  refine okF D sc_sum_of (by decide) fun fa cdv A outer s H E hr => ?_
  have hu64 := hr.units
  have hu := hu_of hr
  exact (sd_cons (sd_set (i := 1) pd_int sc_sum_of.nd)
    (sd_cons (sd_for PassesOwn.never rfl (id_any (pd_var 0)) (gd_name (i := 2) sc_sum_of.nd)
      (sd_cons (sd_set (i := 3) (pd_glI (by rfl) c_ROW_END_NUMBER) sc_sum_of.nd)
    (sd_cons (sd_if (td_ne hu64 (pd_var 2) (pd_glS (by rfl) c_ROW_END))
      (sd_one (sd_set (i := 3) (pd_ord (by rfl) z_ord (ad_cons (pd_var 2) ad_nil)) sc_sum_of.nd))
      sd_nil)
    (sd_one (sd_set (i := 1) (pd_mod (pd_add (pd_mul (pd_glI (by rfl) c_FACTOR) (pd_var 1)) (pd_var 3)) (pd_glI (by rfl) c_LAST)) sc_sum_of.nd)))))
    (sd_one (sd_ret (pd_zfill (pd_strc (by rfl) z_str (ad_cons (pd_var 1) ad_nil)) pd_int)))))

theorem sc_rows_of : FnScope ["save", "number", "make", "book", "rows", "key", "worth"] ["save"] (defScope (top 21)) := ⟨rfl, rfl, rfl, by decide +kernel, rfl, by decide +kernel, by decide +kernel⟩
theorem ok_rows_of {P : Program} {w : World} {K : PySem.W.Frag} {mg : Str → Option Value} {base : Heap} (D : Def K mg "rows_of" (top 21) ["save"]) (z_len : mg "len" = none) (z_str : mg "str" = none) :
    OkF P w K mg base 1 "rows_of" 1 F_rows_of := by
  refine okF D sc_rows_of (by decide) fun fa cdv A outer s H E hr => ?_
  have hu64 := hr.units
  have hu := hu_of hr
  exact (sd_cons (sd_asg (pd_var 0) (gd_tup rfl (gs_cons (i := 1) (gs_cons (i := 2) (gs_cons (i := 3) gs_nil sc_rows_of.nd) sc_rows_of.nd) sc_rows_of.nd)))
    (sd_cons (sd_own (i := 4) (ld_lst (ad_cons (pd_join pd_str (pd_lst (ad_cons pd_str (ad_cons (pd_strc (by rfl) z_str (ad_cons (pd_var 1) ad_nil)) (ad_cons (pd_strc (by rfl) z_str (ad_cons (pd_var 2) ad_nil)) (ad_cons (pd_strc (by rfl) z_str (ad_cons (pd_len (by rfl) z_len (ad_cons (pd_var 3) ad_nil)) ad_nil)) ad_nil)))))) ad_nil)) sc_rows_of.nd)
    (sd_cons (sd_extend 4 (ld_lc (own := [("key", 5), ("worth", 6)]) rfl rfl sc_rows_of.nd (id_any (pd_var 3)) (blkOk_by (N := ["save", "number", "make", "book", "rows", "key", "worth"]) (sc := defScope (top 21)) (by decide +kernel)) (fun _ _ _ _ _ => (gd_tup rfl (gs_cons (i := 5) (gs_cons (i := 6) gs_nil sc_rows_of.nd) sc_rows_of.nd))) (fun _ _ _ _ _ => tsd_nil) (fun _ _ _ _ _ => (pd_add (pd_add (pd_var 5) pd_str) (pd_strc (by rfl) z_str (ad_cons (pd_var 6) ad_nil))))))
    (sd_one (sd_retOwn 4)))))

theorem sc_text_of : FnScope ["rows", "row"] ["rows"] (defScope (top 22)) := ⟨rfl, rfl, rfl, by decide +kernel, rfl, by decide +kernel, by decide +kernel⟩
theorem ok_text_of {P : Program} {w : World} {K : PySem.W.Frag} {mg : Str → Option Value} {base : Heap} (D : Def K mg "text_of" (top 22) ["rows"]) {t_ROW_END : Tok} (c_ROW_END : mg "ROW_END" = some (.str "\n" t_ROW_END)) :
    OkF P w K mg base 1 "text_of" 1 F_text_of := by
  refine okF D sc_text_of (by decide) fun fa cdv A outer s H E hr => ?_
  have hu64 := hr.units
  have hu := hu_of hr
  exact (sd_one (sd_ret (pd_join pd_str (pd_ofL (ld_lc (own := [("row", 1)]) rfl rfl sc_text_of.nd (id_any (pd_var 0)) (blkOk_by (N := ["rows", "row"]) (sc := defScope (top 22)) (by decide +kernel)) (fun _ _ _ _ _ => (gd_name (i := 1) sc_text_of.nd)) (fun _ _ _ _ _ => tsd_nil) (fun _ _ _ _ _ => (pd_add (pd_var 1) (pd_glS (by rfl) c_ROW_END))))))))

theorem sc_written : FnScope ["save", "text"] ["save"] (defScope (top 23)) := ⟨rfl, rfl, rfl, by decide +kernel, rfl, by decide +kernel, by decide +kernel⟩
theorem ok_written {P : Program} {w : World} {K : PySem.W.Frag} {mg : Str → Option Value} {base : Heap} (D : Def K mg "written" (top 23) ["save"]) {t_ROW_END : Tok} (c_ROW_END : mg "ROW_END" = some (.str "\n" t_ROW_END)) (o_rows_of : OkF P w K mg base 1 "rows_of" 1 F_rows_of) (o_sum_of : OkF P w K mg base 1 "sum_of" 1 F_sum_of) (o_text_of : OkF P w K mg base 1 "text_of" 1 F_text_of) :
    OkF P w K mg base 2 "written" 1 F_written := by
  refine okF D sc_written (by decide) fun fa cdv A outer s H E hr => ?_
  have hu64 := hr.units
  have hu := hu_of hr
  exact (sd_cons (sd_set (i := 1) (pd_callF o_text_of (hr.mono (by decide)) (xl_dat xl_nil) (xd_dat (pd_callF o_rows_of (hr.mono (by decide)) (xl_dat xl_nil) (xd_dat (pd_var 0) xd_nil)) xd_nil)) sc_written.nd)
    (sd_one (sd_ret (pd_add (pd_add (pd_add (pd_var 1) pd_str) (pd_callF o_sum_of (hr.mono (by decide)) (xl_dat xl_nil) (xd_dat (pd_var 1) xd_nil))) (pd_glS (by rfl) c_ROW_END)))))

theorem sc_need : FnScope ["good"] ["good"] (defScope (top 24)) := ⟨rfl, rfl, rfl, by decide +kernel, rfl, by decide +kernel, by decide +kernel⟩
theorem ok_need {P : Program} {w : World} {K : PySem.W.Frag} {mg : Str → Option Value} {base : Heap} (D : Def K mg "need" (top 24) ["good"]) {C : Addr} (nS : NoS K mg C) :
    OkX P w K mg base C 1 "need" 1 F_need := by
  refine okX D sc_need (by decide) fun fa cdv A outer s H E hr => ?_
  have hu64 := hr.units
  have hu := hu_of hr
  have tkD := takes_def (P := P) (w := w) (K := K) (mg := mg) (base := base) (N := ["good"]) (x := "need") (st := top 24) (fa := fa) (cdv := cdv) (A := A) (outer := outer) (s := s) (H := H) (E := E)
  have hxD := pass_def (P := P) (w := w) (K := K) (mg := mg) (base := base) (N := ["good"]) (x := "need") (st := top 24) (fa := fa) (cdv := cdv) (A := A) (outer := outer) (s := s) (H := H) (E := E)
  exact (sx_one (sx_if (td_not (td_val (pd_var 0)))
      (sx_one (sx_raise nS rfl tkD))
      sx_nil))

theorem sc_number_in : FnScope ["word", "sign"] ["word"] (defScope (top 25)) := ⟨rfl, rfl, rfl, by decide +kernel, rfl, by decide +kernel, by decide +kernel⟩
theorem ok_number_in {P : Program} {w : World} {K : PySem.W.Frag} {mg : Str → Option Value} {base : Heap} (D : Def K mg "number_in" (top 25) ["word"]) {C : Addr} (nS : NoS K mg C) {t_FIGURES : Tok} (c_FIGURES : mg "FIGURES" = some (.str "0123456789" t_FIGURES)) {t_MOST_FIGURES : Tok} (c_MOST_FIGURES : mg "MOST_FIGURES" = some (.int 4 t_MOST_FIGURES)) (z_all : mg "all" = none) (z_int : mg "int" = none) (z_len : mg "len" = none) (o_need : OkX P w K mg base C 1 "need" 1 F_need) :
    OkX P w K mg base C 2 "number_in" 1 F_number_in := by
  refine okX D sc_number_in (by decide) fun fa cdv A outer s H E hr => ?_
  have hu64 := hr.units
  have hu := hu_of hr
  have tkD := takes_def (P := P) (w := w) (K := K) (mg := mg) (base := base) (N := ["word", "sign"]) (x := "number_in") (st := top 25) (fa := fa) (cdv := cdv) (A := A) (outer := outer) (s := s) (H := H) (E := E)
  have hxD := pass_def (P := P) (w := w) (K := K) (mg := mg) (base := base) (N := ["word", "sign"]) (x := "number_in") (st := top 25) (fa := fa) (cdv := cdv) (A := A) (outer := outer) (s := s) (H := H) (E := E)
  exact (sx_cons (sx_expr (pdx_call o_need (hr.mono (by decide)) (xl_dat xl_nil) (xd_dat (pd_and (pd_lele pd_int (pd_len (by rfl) z_len (ad_cons (pd_var 0) ad_nil)) (pd_glI (by rfl) c_MOST_FIGURES)) (pd_one (pd_all (by rfl) z_all (ad_cons (pd_ofL (ld_lc (own := [("sign", 1)]) rfl rfl sc_number_in.nd (id_any (pd_var 0)) (blkOk_by (N := ["word", "sign"]) (sc := defScope (top 25)) (by decide +kernel)) (fun _ _ _ _ _ => (gd_name (i := 1) sc_number_in.nd)) (fun _ _ _ _ _ => tsd_nil) (fun _ _ _ _ _ => (pd_in (pd_var 1) (pd_glS (by rfl) c_FIGURES))))) ad_nil)))) xd_nil) hxD))
    (sx_one (sx_up (sd_ret (pd_intc (by rfl) z_int (ad_cons (pd_var 0) ad_nil))))))

theorem sc_pair_in : FnScope ["row", "words"] ["row"] (defScope (top 26)) := ⟨rfl, rfl, rfl, by decide +kernel, rfl, by decide +kernel, by decide +kernel⟩
theorem ok_pair_in {P : Program} {w : World} {K : PySem.W.Frag} {mg : Str → Option Value} {base : Heap} (D : Def K mg "pair_in" (top 26) ["row"]) {C : Addr} (nS : NoS K mg C) (z_len : mg "len" = none) (o_need : OkX P w K mg base C 1 "need" 1 F_need) (o_number_in : OkX P w K mg base C 2 "number_in" 1 F_number_in) :
    OkX P w K mg base C 3 "pair_in" 1 F_pair_in := by
  refine okX D sc_pair_in (by decide) fun fa cdv A outer s H E hr => ?_
  have hu64 := hr.units
  have hu := hu_of hr
  have tkD := takes_def (P := P) (w := w) (K := K) (mg := mg) (base := base) (N := ["row", "words"]) (x := "pair_in") (st := top 26) (fa := fa) (cdv := cdv) (A := A) (outer := outer) (s := s) (H := H) (E := E)
  have hxD := pass_def (P := P) (w := w) (K := K) (mg := mg) (base := base) (N := ["row", "words"]) (x := "pair_in") (st := top 26) (fa := fa) (cdv := cdv) (A := A) (outer := outer) (s := s) (H := H) (E := E)
  exact (sx_cons (sx_up (sd_set (i := 1) (pd_split (pd_var 0) pd_str) sc_pair_in.nd))
    (sx_cons (sx_expr (pdx_call o_need (hr.mono (by decide)) (xl_dat xl_nil) (xd_dat (pd_eq hu64 (pd_len (by rfl) z_len (ad_cons (pd_var 1) ad_nil)) pd_int) xd_nil) hxD))
    (sx_one (sx_ret (pdx_tup (adx_cons (pdx_up (pd_ix (pd_var 1) pd_int)) (adx_cons (pdx_call o_number_in (hr.mono (by decide)) (xl_dat xl_nil) (xd_dat (pd_ix (pd_var 1) pd_int) xd_nil) hxD) adx_nil)))))))

theorem sc_read : FnScope ["text", "rows", "head", "book", "found", "row"] ["text"] (defScope (top 27)) := ⟨rfl, rfl, rfl, by decide +kernel, rfl, by decide +kernel, by decide +kernel⟩
theorem ok_read {P : Program} {w : World} {K : PySem.W.Frag} {mg : Str → Option Value} {base : Heap} (D : Def K mg "read" (top 27) ["text"]) {C : Addr} (nS : NoS K mg C) {t_MOST_MAKE : Tok} (c_MOST_MAKE : mg "MOST_MAKE" = some (.int 9 t_MOST_MAKE)) {t_MOST_NUMBER : Tok} (c_MOST_NUMBER : mg "MOST_NUMBER" = some (.int 9999 t_MOST_NUMBER)) {t_ROW_END : Tok} (c_ROW_END : mg "ROW_END" = some (.str "\n" t_ROW_END)) (z_isinstance : mg "isinstance" = none) (z_len : mg "len" = none) (z_str : mg "str" = none) (z_tuple : mg "tuple" = none) (o_is_book : OkF P w K mg base 3 "is_book" 1 F_is_book) (o_is_whole : OkF P w K mg base 1 "is_whole" 3 F_is_whole) (o_written : OkF P w K mg base 2 "written" 1 F_written) (o_need : OkX P w K mg base C 1 "need" 1 F_need) (o_number_in : OkX P w K mg base C 2 "number_in" 1 F_number_in) (o_pair_in : OkX P w K mg base C 3 "pair_in" 1 F_pair_in) :
    OkX P w K mg base C 4 "read" 1 F_read := by
  refine okX D sc_read (by decide) fun fa cdv A outer s H E hr => ?_
  have hu64 := hr.units
  have hu := hu_of hr
  have tkD := takes_def (P := P) (w := w) (K := K) (mg := mg) (base := base) (N := ["text", "rows", "head", "book", "found", "row"]) (x := "read") (st := top 27) (fa := fa) (cdv := cdv) (A := A) (outer := outer) (s := s) (H := H) (E := E)
  have hxD := pass_def (P := P) (w := w) (K := K) (mg := mg) (base := base) (N := ["text", "rows", "head", "book", "found", "row"]) (x := "read") (st := top 27) (fa := fa) (cdv := cdv) (A := A) (outer := outer) (s := s) (H := H) (E := E)
  exact (sx_cons (sx_expr (pdx_call o_need (hr.mono (by decide)) (xl_dat xl_nil) (xd_dat (pd_isi_str (by rfl) z_isinstance (by rfl) z_str (pd_var 0)) xd_nil) hxD))
    (sx_cons (sx_up (sd_set (i := 1) (pd_split (pd_var 0) (pd_glS (by rfl) c_ROW_END)) sc_read.nd))
    (sx_cons (sx_up (sd_set (i := 2) (pd_split (pd_ix (pd_var 1) pd_int) pd_str) sc_read.nd))
    (sx_cons (sx_expr (pdx_call o_need (hr.mono (by decide)) (xl_dat xl_nil) (xd_dat (pd_and (pd_gt (pd_len (by rfl) z_len (ad_cons (pd_var 1) ad_nil)) pd_int) (pd_one (pd_eq hu64 (pd_len (by rfl) z_len (ad_cons (pd_var 2) ad_nil)) pd_int))) xd_nil) hxD))
    (sx_cons (sx_set (i := 3) (pdx_tupL (by rfl) z_tuple (ldx_lc (own := [("row", 5)]) rfl rfl rfl tkD rfl sc_read.nd (id_any (pd_slice (pd_var 1) (od_some pd_int) (od_some (pd_neg pd_int)))) (blkOk_by (N := ["text", "rows", "head", "book", "found", "row"]) (sc := defScope (top 27)) (by decide +kernel)) (fun _ _ _ _ _ => (gd_name (i := 5) sc_read.nd)) (fun _ _ _ _ _ => (pdx_call o_pair_in (hr.mono (by decide)) (xl_dat xl_nil) (xd_dat (pd_var 5) xd_nil) blk_pass)))) sc_read.nd)
    (sx_cons (sx_set (i := 4) (pdx_tup (adx_cons (pdx_call o_number_in (hr.mono (by decide)) (xl_dat xl_nil) (xd_dat (pd_ix (pd_var 2) pd_int) xd_nil) hxD) (adx_cons (pdx_call o_number_in (hr.mono (by decide)) (xl_dat xl_nil) (xd_dat (pd_ix (pd_var 2) pd_int) xd_nil) hxD) (adx_cons (pdx_up (pd_var 3)) adx_nil)))) sc_read.nd)
    (sx_cons (sx_expr (pdx_call o_need (hr.mono (by decide)) (xl_dat xl_nil) (xd_dat (pd_and (pd_callF o_is_whole (hr.mono (by decide)) (xl_dat (xl_dat (xl_dat xl_nil))) (xd_dat (pd_ix (pd_var 4) pd_int) (xd_dat pd_int (xd_dat (pd_glI (by rfl) c_MOST_NUMBER) xd_nil)))) (pd_and (pd_callF o_is_whole (hr.mono (by decide)) (xl_dat (xl_dat (xl_dat xl_nil))) (xd_dat (pd_ix (pd_var 4) pd_int) (xd_dat pd_int (xd_dat (pd_glI (by rfl) c_MOST_MAKE) xd_nil)))) (pd_one (pd_callF o_is_book (hr.mono (by decide)) (xl_dat xl_nil) (xd_dat (pd_var 3) xd_nil))))) xd_nil) hxD))
    (sx_cons (sx_expr (pdx_call o_need (hr.mono (by decide)) (xl_dat xl_nil) (xd_dat (pd_eq hu64 (pd_callF o_written (hr.mono (by decide)) (xl_dat xl_nil) (xd_dat (pd_var 4) xd_nil)) (pd_var 0)) xd_nil) hxD))
    (sx_one (sx_up (sd_ret (pd_var 4))))))))))))

theorem sc_law_cell_at : FnScope ["script", "k"] ["script", "k"] (defScope (top 29)) := ⟨rfl, rfl, rfl, by decide +kernel, rfl, by decide +kernel, by decide +kernel⟩
theorem ok_law_cell_at {P : Program} {w : World} {K : PySem.W.Frag} {mg : Str → Option Value} {base : Heap} (D : Def K mg "_law_cell_at" (top 29) ["script", "k"]) (z_len : mg "len" = none) :
    OkF P w K mg base 1 "_law_cell_at" 2 F_law_cell_at := by
  refine okF D sc_law_cell_at (by decide) fun fa cdv A outer s H E hr => ?_
  have hu64 := hr.units
  have hu := hu_of hr
  exact (sd_cons (sd_if (td_lt (pd_var 1) (pd_len (by rfl) z_len (ad_cons (pd_var 0) ad_nil)))
      (sd_one (sd_ret (pd_ix (pd_var 0) (pd_var 1))))
      sd_nil)
    (sd_one (sd_ret pd_int)))

theorem sc_law_mixed : FnScope ["script", "k", "drawn"] ["script", "k"] (defScope (top 30)) := ⟨rfl, rfl, rfl, by decide +kernel, rfl, by decide +kernel, by decide +kernel⟩
theorem ok_law_mixed {P : Program} {w : World} {K : PySem.W.Frag} {mg : Str → Option Value} {base : Heap} (D : Def K mg "_law_mixed" (top 30) ["script", "k"]) (o_law_cell_at : OkF P w K mg base 1 "_law_cell_at" 2 F_law_cell_at) :
    OkF P w K mg base 2 "_law_mixed" 2 F_law_mixed := by
  refine okF D sc_law_mixed (by decide) fun fa cdv A outer s H E hr => ?_
  have hu64 := hr.units
  have hu := hu_of hr
  exact (sd_cons (sd_set (i := 2) (pd_mod (pd_mul (pd_add (pd_add (pd_callF o_law_cell_at (hr.mono (by decide)) (xl_dat (xl_dat xl_nil)) (xd_dat (pd_var 0) (xd_dat (pd_var 1) xd_nil))) (pd_mul pd_int (pd_var 1))) pd_int) pd_int) pd_int) sc_law_mixed.nd)
    (sd_one (sd_ret (pd_mod (pd_add (pd_add (pd_mul (pd_var 2) (pd_var 2)) (pd_mul pd_int (pd_var 2))) (pd_var 1)) pd_int))))

theorem sc_law_drawn : FnScope ["number", "k", "drawn"] ["number", "k"] (defScope (top 31)) := ⟨rfl, rfl, rfl, by decide +kernel, rfl, by decide +kernel, by decide +kernel⟩
theorem ok_law_drawn {P : Program} {w : World} {K : PySem.W.Frag} {mg : Str → Option Value} {base : Heap} (D : Def K mg "_law_drawn" (top 31) ["number", "k"]) :
    OkF P w K mg base 1 "_law_drawn" 2 F_law_drawn := by
  refine okF D sc_law_drawn (by decide) fun fa cdv A outer s H E hr => ?_
  have hu64 := hr.units
  have hu := hu_of hr
  exact (sd_cons (sd_set (i := 2) (pd_mod (pd_mul (pd_add (pd_add (pd_var 0) (pd_mul pd_int (pd_var 1))) pd_int) pd_int) pd_int) sc_law_drawn.nd)
    (sd_one (sd_ret (pd_mod (pd_add (pd_add (pd_mul (pd_var 2) (pd_var 2)) (pd_mul pd_int (pd_var 2))) (pd_var 1)) pd_int))))

theorem sc_law_any : FnScope ["number", "most", "signs", "k"] ["number", "most"] (defScope (top 32)) := ⟨rfl, rfl, rfl, by decide +kernel, rfl, by decide +kernel, by decide +kernel⟩
theorem ok_law_any {P : Program} {w : World} {K : PySem.W.Frag} {mg : Str → Option Value} {base : Heap} (D : Def K mg "_law_any" (top 32) ["number", "most"]) (z_range : mg "range" = none) (o_law_drawn : OkF P w K mg base 1 "_law_drawn" 2 F_law_drawn) :
    OkF P w K mg base 2 "_law_any" 2 F_law_any := by
  refine okF D sc_law_any (by decide) fun fa cdv A outer s H E hr => ?_
  have hu64 := hr.units
  have hu := hu_of hr
  exact (sd_cons (sd_set (i := 2) pd_str sc_law_any.nd)
    (sd_one (sd_ret (pd_join pd_str (pd_ofL (ld_lc (own := [("k", 3)]) rfl rfl sc_law_any.nd (id_range1 (by rfl) z_range (ad_cons (pd_add pd_int (pd_mod (pd_var 0) (pd_var 1))) ad_nil)) (blkOk_by (N := ["number", "most", "signs", "k"]) (sc := defScope (top 32)) (by decide +kernel)) (fun _ _ _ _ _ => (gd_name (i := 3) sc_law_any.nd)) (fun _ _ _ _ _ => tsd_nil) (fun _ _ _ _ _ => (pd_ix (pd_var 2) (pd_mod (pd_div (pd_callF o_law_drawn (hr.mono (by decide)) (xl_dat (xl_dat xl_nil)) (xd_dat (pd_var 0) (xd_dat (pd_add pd_int (pd_var 3)) xd_nil))) pd_int) pd_int)))))))))

theorem sc_law_swapped : FnScope ["thing", "book", "part"] ["thing", "book"] (defScope (top 33)) := ⟨rfl, rfl, rfl, by decide +kernel, rfl, by decide +kernel, by decide +kernel⟩
theorem ok_law_swapped {P : Program} {w : World} {K : PySem.W.Frag} {mg : Str → Option Value} {base : Heap} (D : Def K mg "_law_swapped" (top 33) ["thing", "book"]) (z_isinstance : mg "isinstance" = none) (z_str : mg "str" = none) (z_tuple : mg "tuple" = none) : ∀ j,
    OkF P w K mg base (0 + j) "_law_swapped" 2 (F_law_swapped j)
  | 0 => okF_no D
  | j + 1 => by
    have ih := ok_law_swapped (P := P) (w := w) (base := base) D z_isinstance z_str z_tuple j
    refine okF D sc_law_swapped (by decide) fun fa cdv A outer s H E hr => ?_
    have hu64 := hr.units
    have hu := hu_of hr
    exact (sd_cons (sd_if (td_val (pd_isi_tuple (by rfl) z_isinstance (by rfl) z_tuple (pd_var 0)))
      (sd_one (sd_ret (pd_tuple (by rfl) z_tuple (ad_cons (pd_ofL (ld_lc (own := [("part", 2)]) rfl rfl sc_law_swapped.nd (id_any (pd_var 0)) (blkOk_by (N := ["thing", "book", "part"]) (sc := defScope (top 33)) (by decide +kernel)) (fun _ _ _ _ _ => (gd_name (i := 2) sc_law_swapped.nd)) (fun _ _ _ _ _ => tsd_nil) (fun _ _ _ _ _ => (pd_callF ih hr (xl_dat (xl_bor xl_nil)) (xd_dat (pd_var 2) (xd_bor 1 xd_nil)))))) ad_nil))))
      sd_nil)
    (sd_cons (sd_if (td_val (pd_isi_str (by rfl) z_isinstance (by rfl) z_str (pd_var 0)))
      (sd_one (sd_ret (pd_dget2 hu (dr_var 1) (pd_var 0) (pd_var 0))))
      sd_nil)
    (sd_one (sd_ret (pd_var 0)))))

theorem sc_law_book : FnScope ["number", "found", "k", "key", "drawn"] ["number"] (defScope (top 34)) := ⟨rfl, rfl, rfl, by decide +kernel, rfl, by decide +kernel, by decide +kernel⟩
theorem ok_law_book {P : Program} {w : World} {K : PySem.W.Frag} {mg : Str → Option Value} {base : Heap} (D : Def K mg "_law_book" (top 34) ["number"]) (z_enumerate : mg "enumerate" = none) (o_law_drawn : OkF P w K mg base 1 "_law_drawn" 2 F_law_drawn) :
    OkF P w K mg base 2 "_law_book" 1 F_law_book := by
  refine okF D sc_law_book (by decide) fun fa cdv A outer s H E hr => ?_
  have hu64 := hr.units
  have hu := hu_of hr
  exact (sd_cons (sd_set (i := 1) (pd_tup ad_nil) sc_law_book.nd)
    (sd_cons (sd_for PassesOwn.never rfl (id_enum (by rfl) z_enumerate (ad_cons (pd_tup (ad_cons pd_str (ad_cons pd_str (ad_cons pd_str (ad_cons pd_str (ad_cons pd_str ad_nil)))))) ad_nil)) (gd_tup rfl (gs_cons (i := 2) (gs_cons (i := 3) gs_nil sc_law_book.nd) sc_law_book.nd))
      (sd_cons (sd_set (i := 4) (pd_div (pd_callF o_law_drawn (hr.mono (by decide)) (xl_dat (xl_dat xl_nil)) (xd_dat (pd_var 0) (xd_dat (pd_add pd_int (pd_var 2)) xd_nil))) pd_int) sc_law_book.nd)
    (sd_one (sd_if (td_gt (pd_mod (pd_var 4) pd_int) pd_int)
      (sd_one (sd_set (i := 1) (pd_add (pd_var 1) (pd_tup (ad_cons (pd_tup (ad_cons (pd_var 3) (ad_cons (pd_mod (pd_div (pd_var 4) pd_int) (pd_ix (pd_tup (ad_cons pd_int (ad_cons pd_int ad_nil))) (pd_mod (pd_div (pd_var 4) pd_int) pd_int))) ad_nil))) ad_nil))) sc_law_book.nd))
      sd_nil))))
    (sd_one (sd_ret (pd_var 1)))))

theorem sc_law_sum : FnScope ["text", "found", "sign"] ["text"] (defScope (top 38)) := ⟨rfl, rfl, rfl, by decide +kernel, rfl, by decide +kernel, by decide +kernel⟩
theorem ok_law_sum {P : Program} {w : World} {K : PySem.W.Frag} {mg : Str → Option Value} {base : Heap} (D : Def K mg "_law_sum" (top 38) ["text"]) (z_int : mg "int" = none) (z_len : mg "len" = none) (z_ord : mg "ord" = none) (z_str : mg "str" = none) :
    OkF P w K mg base 1 "_law_sum" 1 F_law_sum := by
  refine okF D sc_law_sum (by decide) fun fa cdv A outer s H E hr => ?_
  have hu64 := hr.units
  have hu := hu_of hr
  exact (sd_cons (sd_set (i := 1) pd_int sc_law_sum.nd)
    (sd_cons (sd_for PassesOwn.never rfl (id_any (pd_var 0)) (gd_name (i := 2) sc_law_sum.nd)
      (sd_one (sd_set (i := 1) (pd_mod (pd_add (pd_mul pd_int (pd_var 1)) (pd_ix (pd_lst (ad_cons (pd_ord (by rfl) z_ord (ad_cons (pd_var 2) ad_nil)) (ad_cons pd_int ad_nil))) (pd_intc (by rfl) z_int (ad_cons (pd_eq hu64 (pd_var 2) pd_str) ad_nil)))) pd_int) sc_law_sum.nd)))
    (sd_one (sd_ret (pd_add (pd_mul pd_str (pd_sub pd_int (pd_len (by rfl) z_len (ad_cons (pd_strc (by rfl) z_str (ad_cons (pd_var 1) ad_nil)) ad_nil)))) (pd_strc (by rfl) z_str (ad_cons (pd_var 1) ad_nil)))))))

theorem sc_law_text : FnScope ["save", "text", "key", "worth"] ["save"] (defScope (top 39)) := ⟨rfl, rfl, rfl, by decide +kernel, rfl, by decide +kernel, by decide +kernel⟩
theorem ok_law_text {P : Program} {w : World} {K : PySem.W.Frag} {mg : Str → Option Value} {base : Heap} (D : Def K mg "_law_text" (top 39) ["save"]) (z_len : mg "len" = none) (z_str : mg "str" = none) (o_law_sum : OkF P w K mg base 1 "_law_sum" 1 F_law_sum) :
    OkF P w K mg base 2 "_law_text" 1 F_law_text := by
  refine okF D sc_law_text (by decide) fun fa cdv A outer s H E hr => ?_
  have hu64 := hr.units
  have hu := hu_of hr
  exact (sd_cons (sd_set (i := 1) (pd_add (pd_add (pd_add (pd_add (pd_add (pd_add pd_str (pd_strc (by rfl) z_str (ad_cons (pd_ix (pd_var 0) pd_int) ad_nil))) pd_str) (pd_strc (by rfl) z_str (ad_cons (pd_ix (pd_var 0) pd_int) ad_nil))) pd_str) (pd_strc (by rfl) z_str (ad_cons (pd_len (by rfl) z_len (ad_cons (pd_ix (pd_var 0) pd_int) ad_nil)) ad_nil))) pd_str) sc_law_text.nd)
    (sd_cons (sd_for PassesOwn.never rfl (id_any (pd_ix (pd_var 0) pd_int)) (gd_tup rfl (gs_cons (i := 2) (gs_cons (i := 3) gs_nil sc_law_text.nd) sc_law_text.nd))
      (sd_one (sd_set (i := 1) (pd_add (pd_add (pd_add (pd_add (pd_var 1) (pd_var 2)) pd_str) (pd_strc (by rfl) z_str (ad_cons (pd_var 3) ad_nil))) pd_str) sc_law_text.nd)))
    (sd_one (sd_ret (pd_add (pd_add (pd_add (pd_var 1) pd_str) (pd_callF o_law_sum (hr.mono (by decide)) (xl_dat xl_nil) (xd_dat (pd_var 1) xd_nil))) pd_str)))))

theorem sc_law_plain : FnScope ["word", "low", "high", "good", "sign"] ["word", "low", "high"] (defScope (top 40)) := ⟨rfl, rfl, rfl, by decide +kernel, rfl, by decide +kernel, by decide +kernel⟩
theorem ok_law_plain {P : Program} {w : World} {K : PySem.W.Frag} {mg : Str → Option Value} {base : Heap} (D : Def K mg "_law_plain" (top 40) ["word", "low", "high"]) (z_int : mg "int" = none) (z_len : mg "len" = none) (z_str : mg "str" = none) :
    OkF P w K mg base 1 "_law_plain" 3 F_law_plain := by
  refine okF D sc_law_plain (by decide) fun fa cdv A outer s H E hr => ?_
  have hu64 := hr.units
  have hu := hu_of hr
  exact (sd_cons (sd_set (i := 3) (pd_and (pd_ne hu64 (pd_var 0) pd_str) (pd_and (pd_lt (pd_len (by rfl) z_len (ad_cons (pd_var 0) ad_nil)) pd_int) (pd_one (pd_eq hu64 (pd_ofL (ld_lc (own := [("sign", 4)]) rfl rfl sc_law_plain.nd (id_any (pd_var 0)) (blkOk_by (N := ["word", "low", "high", "good", "sign"]) (sc := defScope (top 40)) (by decide +kernel)) (fun _ _ _ _ _ => (gd_name (i := 4) sc_law_plain.nd)) (fun _ _ _ _ _ => (tsd_one (td_notIn (pd_var 4) pd_str))) (fun _ _ _ _ _ => (pd_var 4)))) (pd_lst ad_nil))))) sc_law_plain.nd)
    (sd_one (sd_ret (pd_and (pd_var 3) (pd_and (pd_lele (pd_var 1) (pd_intc (by rfl) z_int (ad_cons (pd_var 0) ad_nil)) (pd_var 2)) (pd_one (pd_eq hu64 (pd_strc (by rfl) z_str (ad_cons (pd_intc (by rfl) z_int (ad_cons (pd_var 0) ad_nil)) ad_nil)) (pd_var 0))))))))

theorem sc_law_read : FnScope ["text", "rows", "head", "book", "row", "words", "save", "sign"] ["text"] (defScope (top 41)) := ⟨rfl, rfl, rfl, by decide +kernel, rfl, by decide +kernel, by decide +kernel⟩
theorem ok_law_read {P : Program} {w : World} {K : PySem.W.Frag} {mg : Str → Option Value} {base : Heap} (D : Def K mg "_law_read" (top 41) ["text"]) (z_int : mg "int" = none) (z_len : mg "len" = none) (o_law_plain : OkF P w K mg base 1 "_law_plain" 3 F_law_plain) (o_law_text : OkF P w K mg base 2 "_law_text" 1 F_law_text) :
    OkF P w K mg base 3 "_law_read" 1 F_law_read := by
  refine okF D sc_law_read (by decide) fun fa cdv A outer s H E hr => ?_
  have hu64 := hr.units
  have hu := hu_of hr
  exact (sd_cons (sd_set (i := 1) (pd_split (pd_var 0) pd_str) sc_law_read.nd)
    (sd_cons (sd_if (PW.pt (wd_or (td_lt (pd_len (by rfl) z_len (ad_cons (pd_var 1) ad_nil)) pd_int) (wd_or1 (td_ne hu64 (pd_ix (pd_var 1) (pd_neg pd_int)) pd_str))))
      (sd_one (sd_ret pd_non))
      sd_nil)
    (sd_cons (sd_set (i := 2) (pd_split (pd_ix (pd_var 1) pd_int) pd_str) sc_law_read.nd)
    (sd_cons (sd_if (PW.pt (wd_or (td_ne hu64 (pd_len (by rfl) z_len (ad_cons (pd_var 2) ad_nil)) pd_int) (wd_or (td_not (td_val (pd_callF o_law_plain (hr.mono (by decide)) (xl_dat (xl_dat (xl_dat xl_nil))) (xd_dat (pd_ix (pd_var 2) pd_int) (xd_dat pd_int (xd_dat pd_int xd_nil)))))) (wd_or1 (td_not (td_val (pd_callF o_law_plain (hr.mono (by decide)) (xl_dat (xl_dat (xl_dat xl_nil))) (xd_dat (pd_ix (pd_var 2) pd_int) (xd_dat pd_int (xd_dat pd_int xd_nil))))))))))
      (sd_one (sd_ret pd_non))
      sd_nil)
    (sd_cons (sd_set (i := 3) (pd_tup ad_nil) sc_law_read.nd)
    (sd_cons (sd_for PassesOwn.never rfl (id_any (pd_slice (pd_var 1) (od_some pd_int) (od_some (pd_sub (pd_len (by rfl) z_len (ad_cons (pd_var 1) ad_nil)) pd_int)))) (gd_name (i := 4) sc_law_read.nd)
      (sd_cons (sd_set (i := 5) (pd_split (pd_var 4) pd_str) sc_law_read.nd)
    (sd_cons (sd_if (PW.pt (wd_or (td_ne hu64 (pd_len (by rfl) z_len (ad_cons (pd_var 5) ad_nil)) pd_int) (wd_or (td_not (td_val (pd_callF o_law_plain (hr.mono (by decide)) (xl_dat (xl_dat (xl_dat xl_nil))) (xd_dat (pd_ix (pd_var 5) pd_int) (xd_dat pd_int (xd_dat pd_int xd_nil)))))) (wd_or1 (td_not (td_lele pd_int (pd_len (by rfl) z_len (ad_cons (pd_ix (pd_var 5) pd_int) ad_nil)) pd_int))))))
      (sd_one (sd_ret pd_non))
      sd_nil)
    (sd_cons (sd_if (PW.pt (wd_or (td_ne hu64 (pd_ofL (ld_lc (own := [("sign", 7)]) rfl rfl sc_law_read.nd (id_any (pd_ix (pd_var 5) pd_int)) (blkOk_by (N := ["text", "rows", "head", "book", "row", "words", "save", "sign"]) (sc := defScope (top 41)) (by decide +kernel)) (fun _ _ _ _ _ => (gd_name (i := 7) sc_law_read.nd)) (fun _ _ _ _ _ => (tsd_one (td_not (td_lele pd_str (pd_var 7) pd_str)))) (fun _ _ _ _ _ => (pd_var 7)))) (pd_lst ad_nil)) (wd_or1 (PW.pt (wd_and (td_ne hu64 (pd_var 3) (pd_tup ad_nil)) (wd_and1 (td_le (pd_ix (pd_var 5) pd_int) (pd_ix (pd_ix (pd_var 3) (pd_neg pd_int)) pd_int))))))))
      (sd_one (sd_ret pd_non))
      sd_nil)
    (sd_one (sd_set (i := 3) (pd_add (pd_var 3) (pd_tup (ad_cons (pd_tup (ad_cons (pd_ix (pd_var 5) pd_int) (ad_cons (pd_intc (by rfl) z_int (ad_cons (pd_ix (pd_var 5) pd_int) ad_nil)) ad_nil))) ad_nil))) sc_law_read.nd))))))
    (sd_cons (sd_set (i := 6) (pd_tup (ad_cons (pd_intc (by rfl) z_int (ad_cons (pd_ix (pd_var 2) pd_int) ad_nil)) (ad_cons (pd_intc (by rfl) z_int (ad_cons (pd_ix (pd_var 2) pd_int) ad_nil)) (ad_cons (pd_var 3) ad_nil)))) sc_law_read.nd)
    (sd_one (sd_ret (pd_ix (pd_lst (ad_cons pd_non (ad_cons (pd_var 6) ad_nil))) (pd_intc (by rfl) z_int (ad_cons (pd_eq hu64 (pd_callF o_law_text (hr.mono (by decide)) (xl_dat xl_nil) (xd_dat (pd_var 6) xd_nil)) (pd_var 0)) ad_nil))))))))))))

theorem sc_law_told : FnScope ["deed", "found", "e"] ["deed"] (defScope (top 42)) := ⟨rfl, rfl, rfl, by decide +kernel, rfl, by decide +kernel, by decide +kernel⟩
theorem tg_law_told {X : Cx} {C SE : Addr} {q : Str} (tF : TldF X.K X.mg C SE) : ∀ (g : Addr) (cdg : Value), LamX.GivesTo X ["deed", "found", "e"] "_law_told" (defScope (top 42)) g cdg (defBody (top 42)) "deed" q (TTld C) := fun g cdg => told_gives tF
theorem qual_law : (("law" ++ ".<locals>." : Str) ++ "<lambda>" : Str) = "law.<locals>.<lambda>" := by decide +kernel

theorem sc_law_righted : FnScope ["text", "rows", "ahead", "row"] ["text"] (defScope (top 43)) := ⟨rfl, rfl, rfl, by decide +kernel, rfl, by decide +kernel, by decide +kernel⟩
theorem ok_law_righted {P : Program} {w : World} {K : PySem.W.Frag} {mg : Str → Option Value} {base : Heap} (D : Def K mg "_law_righted" (top 43) ["text"]) (z_len : mg "len" = none) (o_law_sum : OkF P w K mg base 1 "_law_sum" 1 F_law_sum) :
    OkF P w K mg base 2 "_law_righted" 1 F_law_righted := by
  refine okF D sc_law_righted (by decide) fun fa cdv A outer s H E hr => ?_
  have hu64 := hr.units
  have hu := hu_of hr
  exact (sd_cons (sd_set (i := 1) (pd_split (pd_var 0) pd_str) sc_law_righted.nd)
    (sd_cons (sd_set (i := 2) (pd_join pd_str (pd_ofL (ld_lc (own := [("row", 3)]) rfl rfl sc_law_righted.nd (id_any (pd_slice (pd_var 1) od_none (od_some (pd_sub (pd_len (by rfl) z_len (ad_cons (pd_var 1) ad_nil)) pd_int)))) (blkOk_by (N := ["text", "rows", "ahead", "row"]) (sc := defScope (top 43)) (by decide +kernel)) (fun _ _ _ _ _ => (gd_name (i := 3) sc_law_righted.nd)) (fun _ _ _ _ _ => tsd_nil) (fun _ _ _ _ _ => (pd_add (pd_var 3) pd_str))))) sc_law_righted.nd)
    (sd_one (sd_ret (pd_add (pd_add (pd_add (pd_var 2) pd_str) (pd_callF o_law_sum (hr.mono (by decide)) (xl_dat xl_nil) (xd_dat (pd_var 2) xd_nil))) pd_str)))))

def B_law_changed : MirS :=
  (sSeq (sSet 2 (m2 oSplit (mVar 0) (mC (.str "\n"))))
    (sSeq (sSet 3 (m2 oMod (m2 oDiv (mVar 1) (mC (.int 8))) (mA oLen (aCons (mVar 2) aNil))))
    (sSeq (sSet 4 (mLst (aCons (mC (.str "a 1")) (aCons (mC (.str "b 07")) (aCons (mC (.str "zz 1000")) (aCons (mC (.str "end 5")) (aCons (mC (.str "save 1 1 1")) (aCons (mC (.str "save 3 2 0")) (aCons (mC (.str "")) (aCons (mC (.str "x")) (aCons (mC (.str "b 999")) (aCons (mC (.str "A 1")) aNil))))))))))))
    (sSeq (sSet 4 (m2 oAdd (mVar 4) (mLst (aCons (mC (.str "sixsix 1")) (aCons (mC (.str "coin 3 4")) aNil)))))
    (sSeq (sOwn 5 (lLst (aCons (m2 oAdd (mSl (mVar 2) oNone (oSome (mVar 3))) (mSl (mVar 2) (oSome (m2 oAdd (mVar 3) (mC (.int 1)))) oNone)) (aCons (m2 oAdd (m2 oAdd (mSl (mVar 2) oNone (oSome (mVar 3))) (mSl (mVar 2) (oSome (mVar 3)) (oSome (m2 oAdd (mVar 3) (mC (.int 1)))))) (mSl (mVar 2) (oSome (mVar 3)) oNone)) aNil))))
    (sSeq (sAppend 5 (m2 oAdd (m2 oAdd (mSl (mVar 2) oNone (oSome (mVar 3))) (mLst (aCons (m2 oIx (mVar 4) (m2 oMod (m2 oDiv (mVar 1) (mC (.int 256))) (mC (.int 12)))) aNil))) (mSl (mVar 2) (oSome (m2 oAdd (mVar 3) (mC (.int 1)))) oNone)))
    (sSeq (sAppend 5 (m2 oAdd (m2 oAdd (mSl (mVar 2) oNone (oSome (mVar 3))) (mLst (aCons (mSl (m2 oIx (mVar 2) (mVar 3)) oNone (oSome (m1 oNeg (mC (.int 1))))) aNil))) (mSl (mVar 2) (oSome (m2 oAdd (mVar 3) (mC (.int 1)))) oNone)))
    (sSeq (sAppend 5 (m2 oAdd (m2 oAdd (mSl (mVar 2) oNone (oSome (mVar 3))) (mLst (aCons (m2 oAdd (m2 oIx (mVar 2) (mVar 3)) (mC (.str "0"))) aNil))) (mSl (mVar 2) (oSome (m2 oAdd (mVar 3) (mC (.int 1)))) oNone)))
    (sSeq (sSet 6 (m1 oRevL (mSl (mVar 2) (oSome (mVar 3)) (oSome (m2 oAdd (mVar 3) (mC (.int 2)))))))
    (sSeq (sAppend 5 (m2 oAdd (m2 oAdd (mSl (mVar 2) oNone (oSome (mVar 3))) (mVar 6)) (mSl (mVar 2) (oSome (m2 oAdd (mVar 3) (mC (.int 2)))) oNone)))
    (sRet (m2 oJoin (mC (.str "\n")) (mIxOwn 5 (m2 oMod (mVar 1) (mC (.int 6))))))))))))))))
def F_law_changed : MirF := runB 7 B_law_changed

theorem sc_law_changed : FnScope ["text", "number", "rows", "at", "some", "found", "swapped"] ["text", "number"] (defScope (top 44)) := ⟨rfl, rfl, rfl, by decide +kernel, rfl, by decide +kernel, by decide +kernel⟩
theorem ok_law_changed {P : Program} {w : World} {K : PySem.W.Frag} {mg : Str → Option Value} {base : Heap} (D : Def K mg "_law_changed" (top 44) ["text", "number"]) (z_len : mg "len" = none) :
    OkF P w K mg base 1 "_law_changed" 2 F_law_changed := by
  refine okF D sc_law_changed (by decide) fun fa cdv A outer s H E hr => ?_
  have hu64 := hr.units
  have hu := hu_of hr
  exact (sd_cons (sd_set (i := 2) (pd_split (pd_var 0) pd_str) sc_law_changed.nd)
    (sd_cons (sd_set (i := 3) (pd_mod (pd_div (pd_var 1) pd_int) (pd_len (by rfl) z_len (ad_cons (pd_var 2) ad_nil))) sc_law_changed.nd)
    (sd_cons (sd_set (i := 4) (pd_lst (ad_cons pd_str (ad_cons pd_str (ad_cons pd_str (ad_cons pd_str (ad_cons pd_str (ad_cons pd_str (ad_cons pd_str (ad_cons pd_str (ad_cons pd_str (ad_cons pd_str ad_nil))))))))))) sc_law_changed.nd)
    (sd_cons (sd_set (i := 4) (pd_add (pd_var 4) (pd_lst (ad_cons pd_str (ad_cons pd_str ad_nil)))) sc_law_changed.nd)
    (sd_cons (sd_own (i := 5) (ld_lst (ad_cons (pd_add (pd_slice (pd_var 2) od_none (od_some (pd_var 3))) (pd_slice (pd_var 2) (od_some (pd_add (pd_var 3) pd_int)) od_none)) (ad_cons (pd_add (pd_add (pd_slice (pd_var 2) od_none (od_some (pd_var 3))) (pd_slice (pd_var 2) (od_some (pd_var 3)) (od_some (pd_add (pd_var 3) pd_int)))) (pd_slice (pd_var 2) (od_some (pd_var 3)) od_none)) ad_nil))) sc_law_changed.nd)
    (sd_cons (sd_append 5 (pd_add (pd_add (pd_slice (pd_var 2) od_none (od_some (pd_var 3))) (pd_lst (ad_cons (pd_ix (pd_var 4) (pd_mod (pd_div (pd_var 1) pd_int) pd_int)) ad_nil))) (pd_slice (pd_var 2) (od_some (pd_add (pd_var 3) pd_int)) od_none)))
    (sd_cons (sd_append 5 (pd_add (pd_add (pd_slice (pd_var 2) od_none (od_some (pd_var 3))) (pd_lst (ad_cons (pd_slice (pd_ix (pd_var 2) (pd_var 3)) od_none (od_some (pd_neg pd_int))) ad_nil))) (pd_slice (pd_var 2) (od_some (pd_add (pd_var 3) pd_int)) od_none)))
    (sd_cons (sd_append 5 (pd_add (pd_add (pd_slice (pd_var 2) od_none (od_some (pd_var 3))) (pd_lst (ad_cons (pd_add (pd_ix (pd_var 2) (pd_var 3)) pd_str) ad_nil))) (pd_slice (pd_var 2) (od_some (pd_add (pd_var 3) pd_int)) od_none)))
    (sd_cons (sd_set (i := 6) (pd_revL (pd_slice (pd_var 2) (od_some (pd_var 3)) (od_some (pd_add (pd_var 3) pd_int)))) sc_law_changed.nd)
    (sd_cons (sd_append 5 (pd_add (pd_add (pd_slice (pd_var 2) od_none (od_some (pd_var 3))) (pd_var 6)) (pd_slice (pd_var 2) (od_some (pd_add (pd_var 3) pd_int)) od_none)))
    (sd_one (sd_ret (pd_join pd_str (pd_ixOwn 5 (pd_mod (pd_var 1) pd_int)))))))))))))))

def B_law (P : Addr) : MirS :=
  (sSeq (sSet 1 (mCall (F_law_mixed) (xDat (mVar 0) (xDat (mC (.int 0)) xNil))))
    (sSeq (sSet 2 (mCall (F_law_swapped 6) (xDat (mCall (F_law_book) (xDat (mCall (F_law_mixed) (xDat (mVar 0) (xDat (mC (.int 2)) xNil))) xNil)) (xDic (dDisp [((mC (.str "coin")), (mCall (F_law_any) (xDat (mCall (F_law_mixed) (xDat (mVar 0) (xDat (mC (.int 7)) xNil))) (xDat (mC (.int 5)) xNil))))]) xNil))))
    (sSeq (sSet 2 (mA oTuple (aCons (mSItems (dPairs (mVar 2))) aNil)))
    (sSeq (sSet 3 (mTup (aCons (m2 oAdd (mC (.int 1)) (m2 oMod (mCall (F_law_mixed) (xDat (mVar 0) (xDat (mC (.int 1)) xNil))) (m2 oIx (mTup (aCons (mC (.int 9999)) (aCons (mC (.int 12)) aNil))) (m2 oMod (mVar 1) (mC (.int 2)))))) (aCons (m2 oAdd (mC (.int 1)) (m2 oMod (m2 oDiv (mVar 1) (mC (.int 2))) (mC (.int 9)))) (aCons (mVar 2) aNil)))))
    (sSeq (sSet 4 (mCall (F_law_text) (xDat (mVar 3) xNil)))
    (sSeq (sIf (mOr (m2 oNe (mCall (F_written) (xDat (mVar 3) xNil)) (mVar 4)) (m2 oNe (mCall (F_sum_of) (xDat (mVar 4) xNil)) (mCall (F_law_sum) (xDat (mVar 4) xNil))))
      (sRet (mC (.bool false)))
      sNil)
    (sSeq (sSet 5 (mTup (aCons (mC (.str "9999")) (aCons (mC (.str "10000")) (aCons (mC (.str "09999")) (aCons (mC (.str "0")) (aCons (mC (.str "1")) (aCons (mC (.str "99999")) (aCons (mC (.str "-1")) (aCons (mC (.str "")) aNil))))))))))
    (sSeq (sSet 6 (m2 oAdd (m2 oAdd (m2 oAdd (m2 oAdd (mC (.str "save ")) (m2 oIx (mVar 5) (m2 oMod (m2 oDiv (mVar 1) (mC (.int 512))) (mC (.int 8))))) (mC (.str " "))) (m2 oIx (mTup (aCons (mC (.str "1")) (aCons (mC (.str "9")) (aCons (mC (.str "10")) (aCons (mC (.str "0")) (aCons (mC (.str "01")) aNil)))))) (m2 oMod (m2 oDiv (mVar 1) (mC (.int 4096))) (mC (.int 5))))) (mC (.str " 0\n"))))
    (sSeq (sSet 7 (mCall (F_law_righted) (xDat (m2 oAdd (mVar 6) (m2 oJoin (mC (.str "\n")) (mSl (m2 oSplit (mCall (F_law_text) (xDat (mTup (aCons (mC (.int 1)) (aCons (mC (.int 1)) (aCons (mTup aNil) aNil)))) xNil)) (mC (.str "\n"))) (oSome (mC (.int 1))) oNone))) xNil)))
    (sSeq (sSet 8 (mCall (F_law_read) (xDat (mVar 7) xNil)))
    (sSeq (sIfE (f2 oNe (mTold P "law.<locals>.<lambda>" (xCall (F_read) (xDat (mVar 7) xNil))) (m2 oIx (mLst (aCons (mTup (aCons (mC (.str "told")) (aCons (mVar 8) aNil))) (aCons (mTup (aCons (mC (.str "refused")) (aCons (mC (.bool true)) aNil))) aNil))) (mA oInt (aCons (m2 oIs (mVar 8) (mC .none)) aNil))))
      (sRet (mC (.bool false)))
      sNil)
    (sSeq (sFor (iR1 (aCons (m2 oIx (mTup (aCons (mC (.int 0)) (aCons (mC (.int 1)) (aCons (mC (.int 2)) (aCons (mC (.int 4)) (aCons (mC (.int 0)) (aCons (mC (.int 1)) aNil))))))) (m2 oMod (m2 oDiv (mVar 1) (mC (.int 32))) (mC (.int 6)))) aNil)) (gN 9)
      (sSet 4 (mCall (F_law_changed) (xDat (mVar 4) (xDat (m2 oDiv (mCall (F_law_drawn) (xDat (mVar 1) (xDat (mVar 9) xNil))) (mC (.int 4))) xNil)))))
    (sSeq (sIf (m2 oEq (m2 oMod (m2 oDiv (mVar 1) (mC (.int 256))) (mC (.int 2))) (mC (.int 0)))
      (sSet 4 (mCall (F_law_righted) (xDat (mVar 4) xNil)))
      sNil)
    (sSeq (sSet 10 (mCall (F_law_read) (xDat (mVar 4) xNil)))
    (sRetE (f2 oEq (mTold P "law.<locals>.<lambda>" (xCall (F_read) (xDat (mVar 4) xNil))) (m2 oIx (mLst (aCons (mTup (aCons (mC (.str "told")) (aCons (mVar 10) aNil))) (aCons (mTup (aCons (mC (.str "refused")) (aCons (mC (.bool true)) aNil))) aNil))) (mA oInt (aCons (m2 oIs (mVar 10) (mC .none)) aNil)))))))))))))))))))

theorem sc_law : FnScope ["script", "number", "book", "save", "text", "words", "head", "edge", "some", "k", "due"] ["script"] (defScope (top 45)) := ⟨rfl, rfl, rfl, by decide +kernel, rfl, by decide +kernel, by decide +kernel⟩
theorem ok_law {P : Program} {w : World} {K : PySem.W.Frag} {mg : Str → Option Value} {base : Heap} {fa c T SE : Addr} {fd : FuncData} (D : Fun K "law" "law" (top 45) fa fd) (hc : fd.code = .ref c) (TB : LamX.TabB base mg c T) (dT : Def K mg "_law_told" (top 42) ["deed"]) {C : Addr} (nS : NoS K mg C) (z_dict : mg "dict" = none) (z_int : mg "int" = none) (z_range : mg "range" = none) (z_sorted : mg "sorted" = none) (z_tuple : mg "tuple" = none) (o_law_any : OkF P w K mg base 2 "_law_any" 2 F_law_any) (o_law_book : OkF P w K mg base 2 "_law_book" 1 F_law_book) (o_law_changed : OkF P w K mg base 1 "_law_changed" 2 F_law_changed) (o_law_drawn : OkF P w K mg base 1 "_law_drawn" 2 F_law_drawn) (o_law_mixed : OkF P w K mg base 2 "_law_mixed" 2 F_law_mixed) (o_law_read : OkF P w K mg base 3 "_law_read" 1 F_law_read) (o_law_righted : OkF P w K mg base 2 "_law_righted" 1 F_law_righted) (o_law_sum : OkF P w K mg base 1 "_law_sum" 1 F_law_sum) (o_law_swapped : OkF P w K mg base 6 "_law_swapped" 2 (F_law_swapped 6)) (o_law_text : OkF P w K mg base 2 "_law_text" 1 F_law_text) (o_sum_of : OkF P w K mg base 1 "sum_of" 1 F_sum_of) (o_written : OkF P w K mg base 2 "written" 1 F_written) (o_read : OkX P w K mg base C 4 "read" 1 F_read) (tF : TldF K mg C SE) (hF : ∀ ns : List Int, ns.length ≤ 63 → B_law T (startR 11 [.dtab T "law.<locals>.<lambda>" (.list (ns.map .int))]) = some (.rt (.bool true))) :
    FnOk P w K mg base CX0 7 fa fd ["script"] (spTab K T "law.<locals>.<lambda>") := by
  refine fn_tab D sc_law (by decide) hc (fun A outer s H E hr => ?_) hF
  have hu64 := hr.units
  have hu := hu_of hr
  exact (sd_cons (sd_set (i := 1) (pd_callF o_law_mixed (hr.mono (by decide)) (xl_dat (xl_dat xl_nil)) (xd_dat (pd_var 0) (xd_dat pd_int xd_nil))) sc_law.nd)
    (sd_cons (sd_set (i := 2) (pd_callF o_law_swapped (hr.mono (by decide)) (xl_dat (xl_dic xl_nil)) (xd_dat (pd_callF o_law_book (hr.mono (by decide)) (xl_dat xl_nil) (xd_dat (pd_callF o_law_mixed (hr.mono (by decide)) (xl_dat (xl_dat xl_nil)) (xd_dat (pd_var 0) (xd_dat pd_int xd_nil))) xd_nil)) (xd_dic (dr_new (dn_disp (ppd_cons pd_str (pd_callF o_law_any (hr.mono (by decide)) (xl_dat (xl_dat xl_nil)) (xd_dat (pd_callF o_law_mixed (hr.mono (by decide)) (xl_dat (xl_dat xl_nil)) (xd_dat (pd_var 0) (xd_dat pd_int xd_nil))) (xd_dat pd_int xd_nil))) ppd_nil))) xd_nil))) sc_law.nd)
    (sd_cons (sd_set (i := 2) (pd_tuple (by rfl) z_tuple (ad_cons (pd_sitems (by rfl) z_sorted hu64 (dr_new (dn_pairs (by rfl) z_dict (pd_var 2)))) ad_nil)) sc_law.nd)
    (sd_cons (sd_set (i := 3) (pd_tup (ad_cons (pd_add pd_int (pd_mod (pd_callF o_law_mixed (hr.mono (by decide)) (xl_dat (xl_dat xl_nil)) (xd_dat (pd_var 0) (xd_dat pd_int xd_nil))) (pd_ix (pd_tup (ad_cons pd_int (ad_cons pd_int ad_nil))) (pd_mod (pd_var 1) pd_int)))) (ad_cons (pd_add pd_int (pd_mod (pd_div (pd_var 1) pd_int) pd_int)) (ad_cons (pd_var 2) ad_nil)))) sc_law.nd)
    (sd_cons (sd_set (i := 4) (pd_callF o_law_text (hr.mono (by decide)) (xl_dat xl_nil) (xd_dat (pd_var 3) xd_nil)) sc_law.nd)
    (sd_cons (sd_if (PW.pt (wd_or (td_ne hu64 (pd_callF o_written (hr.mono (by decide)) (xl_dat xl_nil) (xd_dat (pd_var 3) xd_nil)) (pd_var 4)) (wd_or1 (td_ne hu64 (pd_callF o_sum_of (hr.mono (by decide)) (xl_dat xl_nil) (xd_dat (pd_var 4) xd_nil)) (pd_callF o_law_sum (hr.mono (by decide)) (xl_dat xl_nil) (xd_dat (pd_var 4) xd_nil))))))
      (sd_one (sd_ret pd_bl))
      sd_nil)
    (sd_cons (sd_set (i := 5) (pd_tup (ad_cons pd_str (ad_cons pd_str (ad_cons pd_str (ad_cons pd_str (ad_cons pd_str (ad_cons pd_str (ad_cons pd_str (ad_cons pd_str ad_nil))))))))) sc_law.nd)
    (sd_cons (sd_set (i := 6) (pd_add (pd_add (pd_add (pd_add pd_str (pd_ix (pd_var 5) (pd_mod (pd_div (pd_var 1) pd_int) pd_int))) pd_str) (pd_ix (pd_tup (ad_cons pd_str (ad_cons pd_str (ad_cons pd_str (ad_cons pd_str (ad_cons pd_str ad_nil)))))) (pd_mod (pd_div (pd_var 1) pd_int) pd_int))) pd_str) sc_law.nd)
    (sd_cons (sd_set (i := 7) (pd_callF o_law_righted (hr.mono (by decide)) (xl_dat xl_nil) (xd_dat (pd_add (pd_var 6) (pd_join pd_str (pd_slice (pd_split (pd_callF o_law_text (hr.mono (by decide)) (xl_dat xl_nil) (xd_dat (pd_tup (ad_cons pd_int (ad_cons pd_int (ad_cons (pd_tup ad_nil) ad_nil)))) xd_nil)) pd_str) (od_some pd_int) od_none))) xd_nil)) sc_law.nd)
    (sd_cons (sd_set (i := 8) (pd_callF o_law_read (hr.mono (by decide)) (xl_dat xl_nil) (xd_dat (pd_var 7) xd_nil)) sc_law.nd)
    (sd_cons (sde_if (pte_ne hu64 (pde_told (k := 4) (hr.mono (by decide)) rfl TB dT sc_law_told (tg_law_told tF) qual_law (LamX.lamS_by (sc := defScope (top 45)) (by decide +kernel)) (fun A outer s H E f c hr => have hu64 := hr.units; have hu := hu_of hr; (pdx_call o_read (hr.mono (by decide)) (xl_dat xl_nil) (xd_dat (pd_var 7) xd_nil) lam_passE))) (pd_ix (pd_lst (ad_cons (pd_tup (ad_cons pd_str (ad_cons (pd_var 8) ad_nil))) (ad_cons (pd_tup (ad_cons pd_str (ad_cons pd_bl ad_nil))) ad_nil))) (pd_intc (by rfl) z_int (ad_cons (pd_is (pd_var 8) pd_non) ad_nil))))
      (sd_one (sd_ret pd_bl))
      sd_nil)
    (sd_cons (sd_for PassesOwn.never rfl (id_range1 (by rfl) z_range (ad_cons (pd_ix (pd_tup (ad_cons pd_int (ad_cons pd_int (ad_cons pd_int (ad_cons pd_int (ad_cons pd_int (ad_cons pd_int ad_nil))))))) (pd_mod (pd_div (pd_var 1) pd_int) pd_int)) ad_nil)) (gd_name (i := 9) sc_law.nd)
      (sd_one (sd_set (i := 4) (pd_callF o_law_changed (hr.mono (by decide)) (xl_dat (xl_dat xl_nil)) (xd_dat (pd_var 4) (xd_dat (pd_div (pd_callF o_law_drawn (hr.mono (by decide)) (xl_dat (xl_dat xl_nil)) (xd_dat (pd_var 1) (xd_dat (pd_var 9) xd_nil))) pd_int) xd_nil))) sc_law.nd)))
    (sd_cons (sd_if (td_eq hu64 (pd_mod (pd_div (pd_var 1) pd_int) pd_int) pd_int)
      (sd_one (sd_set (i := 4) (pd_callF o_law_righted (hr.mono (by decide)) (xl_dat xl_nil) (xd_dat (pd_var 4) xd_nil)) sc_law.nd))
      sd_nil)
    (sd_cons (sd_set (i := 10) (pd_callF o_law_read (hr.mono (by decide)) (xl_dat xl_nil) (xd_dat (pd_var 4) xd_nil)) sc_law.nd)
    (sd_one (sde_ret (pde_eq hu64 (pde_told (k := 4) (hr.mono (by decide)) rfl TB dT sc_law_told (tg_law_told tF) qual_law (LamX.lamS_by (sc := defScope (top 45)) (by decide +kernel)) (fun A outer s H E f c hr => have hu64 := hr.units; have hu := hu_of hr; (pdx_call o_read (hr.mono (by decide)) (xl_dat xl_nil) (xd_dat (pd_var 4) xd_nil) lam_passE))) (pd_ix (pd_lst (ad_cons (pd_tup (ad_cons pd_str (ad_cons (pd_var 10) ad_nil))) (ad_cons (pd_tup (ad_cons pd_str (ad_cons pd_bl ad_nil))) ad_nil))) (pd_intc (by rfl) z_int (ad_cons (pd_is (pd_var 10) pd_non) ad_nil))))))))))))))))))))

end Pu

set_option Elab.async false
set_option linter.all false
set_option autoImplicit false
set_option maxRecDepth 100000
set_option maxHeartbeats 1000000
namespace Pu
open PySem PySem.Spec PyProof.Rows L2
open SX (S)
open TL (numL)
/-- few rows, each short -/
structure Rw (R M : Nat) (l : List Nat) : Prop where
  few : (TL.spl [10] 0 [] l).length ≤ R
  each : ∀ r ∈ TL.spl [10] 0 [] l, r.length ≤ M
theorem Rw.len {R M : Nat} {l : List Nat} (h : Rw R M l) : l.length + 1 ≤ R * (M + 1) := by
  have h1 := spl_id l []
  have h2 := txL_len h.each
  rw [h1] at h2
  simp at h2
  exact Nat.le_trans h2 (Nat.mul_le_mul_right _ h.few)
theorem rw_join {R M : Nat} {rs : List (List Nat)} (hR : 1 ≤ R) (h1 : rs.length ≤ R) (h2 : ∀ r ∈ rs, r.length ≤ M) (hf : ∀ r ∈ rs, 10 ∉ r) : Rw R M (TL.joinL [10] rs) := by
  by_cases h : rs = []
  · subst h
    refine ⟨?_, fun r hr => ?_⟩
    · show (TL.spl [10] 0 [] []).length ≤ R
      exact hR
    · have hr : r ∈ [[]] := hr
      rw [List.mem_singleton.mp hr]
      exact Nat.zero_le _
  · exact ⟨by rw [spl_join h hf]; exact h1, fun r hr => by rw [spl_join h hf] at hr; exact h2 r hr⟩
def some12 : List (List Nat) := [[97, 32, 49], [98, 32, 48, 55], [122, 122, 32, 49, 48, 48, 48], [101, 110, 100, 32, 53], [115, 97, 118, 101, 32, 49, 32, 49, 32, 49], [115, 97, 118, 101, 32, 51, 32, 50, 32, 48], [], [120], [98, 32, 57, 57, 57], [65, 32, 49], [115, 105, 120, 115, 105, 120, 32, 49], [99, 111, 105, 110, 32, 51, 32, 52]]
theorem some12_is : [PyData.str "a 1", .str "b 07", .str "zz 1000", .str "end 5", .str "save 1 1 1", .str "save 3 2 0", .str "", .str "x", .str "b 999", .str "A 1"] ++ [PyData.str "sixsix 1", .str "coin 3 4"] = rwD some12 := by
  have h : ∀ {s : String} {l : List Nat}, Str.ofString s = S l → PyData.str (Str.ofString s) = PyData.str (S l) := fun h => congrArg _ h
  have e1 : Str.ofString "a 1" = S [97, 32, 49] := by decide +kernel
  have e2 : Str.ofString "b 07" = S [98, 32, 48, 55] := by decide +kernel
  have e3 : Str.ofString "zz 1000" = S [122, 122, 32, 49, 48, 48, 48] := by decide +kernel
  have e4 : Str.ofString "end 5" = S [101, 110, 100, 32, 53] := by decide +kernel
  have e5 : Str.ofString "save 1 1 1" = S [115, 97, 118, 101, 32, 49, 32, 49, 32, 49] := by decide +kernel
  have e6 : Str.ofString "save 3 2 0" = S [115, 97, 118, 101, 32, 51, 32, 50, 32, 48] := by decide +kernel
  have e8 : Str.ofString "x" = S [120] := by decide +kernel
  have e9 : Str.ofString "b 999" = S [98, 32, 57, 57, 57] := by decide +kernel
  have e10 : Str.ofString "A 1" = S [65, 32, 49] := by decide +kernel
  have e11 : Str.ofString "sixsix 1" = S [115, 105, 120, 115, 105, 120, 32, 49] := by decide +kernel
  have e12 : Str.ofString "coin 3 4" = S [99, 111, 105, 110, 32, 51, 32, 52] := by decide +kernel
  rw [e1, e2, e3, e4, e5, e6, em_S, e8, e9, e10, e11, e12]
  rfl
theorem changed_is {R M : Nat} {l : List Nat} (h : Rw R M l) (hR : R ≤ 50) (hM : 12 ≤ M) (hM2 : M ≤ 50) (n : Int) : ∃ l', Rw (R + 1) (M + 1) l' ∧ F_law_changed [.dat (.str (S l)), .dat (.int n)] = some (.str (S l')) := by
  have hlen := h.len
  have hRM : R * (M + 1) ≤ 50 * 51 := Nat.mul_le_mul hR (by omega)
  have hsp := splitN (l := l) (by omega)
  have hsz := spl_size 10 l []
  have hfew := h.few
  have heach := h.each
  have hfree := spl_free l [] (by simp)
  generalize TL.spl [10] 0 [] l = rs at *
  have hlenR := oLen_rw (rs := rs) (by omega)
  obtain ⟨j, hj⟩ : ∃ j : Nat, n / 8 % (rs.length : Int) = (j : Int) := ⟨(n / 8 % (rs.length : Int)).toNat, by
    have := Int.emod_nonneg (n / 8) (show (rs.length : Int) ≠ 0 by omega)
    omega⟩
  have hjl : j < rs.length := by
    have := Int.emod_lt_of_pos (n / 8) (show (0 : Int) < (rs.length : Int) by omega)
    omega
  have hm1 : oMod (.int (n / 8)) (.int (rs.length : Int)) = some (.int (j : Int)) := by
    rw [← hj]
    exact oMod_i (by omega)
  obtain ⟨rj, hrj⟩ : ∃ r, rs[j]? = some r := ⟨rs[j], List.getElem?_eq_getElem hjl⟩
  have mrj := List.mem_of_getElem? hrj
  have lrj := heach rj mrj
  have frj := hfree rj mrj
  obtain ⟨x, hx, hx12⟩ : ∃ x : List Nat, x ∈ some12 ∧ atI (rwD some12) (n / 256 % 12) = some (.str (S x)) := by
    obtain ⟨k, hk⟩ : ∃ k : Nat, n / 256 % 12 = (k : Int) := ⟨(n / 256 % 12).toNat, by omega⟩
    have hk2 : k < some12.length := by
      show k < 12
      omega
    rw [hk, atI_nat]
    refine ⟨some12[k], List.getElem_mem hk2, ?_⟩
    unfold rwD
    rw [List.getElem?_map, List.getElem?_eq_getElem hk2]
    rfl
  have hxl : x.length ≤ 12 ∧ 10 ∉ x := by
    have : ∀ x ∈ some12, x.length ≤ 12 ∧ 10 ∉ x := by decide
    exact this x hx
  have r1 : oSl (.list (rwD rs)) none (some (j : Int)) = some (.list (rwD (rs.take j))) := by
    show some (PyData.list _) = _
    rw [cutD_to (by omega), Int.toNat_natCast, rwD_take]
  have r2 : oSl (.list (rwD rs)) (some (j : Int)) none = some (.list (rwD (rs.drop j))) := by
    show some (PyData.list _) = _
    rw [cutD_from (by omega), Int.toNat_natCast, rwD_drop]
  have r3 : oSl (.list (rwD rs)) (some ((j : Int) + 1)) none = some (.list (rwD (rs.drop (j + 1)))) := by
    show some (PyData.list _) = _
    rw [cutD_from (by omega), ← rwD_drop]
    rfl
  have r4 : oSl (.list (rwD rs)) (some (j : Int)) (some ((j : Int) + 1)) = some (.list (rwD ((rs.drop j).take 1))) := by
    show some (PyData.list _) = _
    have := cutD_seg (xs := rwD rs) (a := j) (b := j + 1) (by omega)
    rw [Nat.add_sub_cancel_left, rwD_drop, rwD_take] at this
    rw [← this]
    rfl
  have r5 : oSl (.list (rwD rs)) (some (j : Int)) (some ((j : Int) + 2)) = some (.list (rwD ((rs.drop j).take 2))) := by
    show some (PyData.list _) = _
    have := cutD_seg (xs := rwD rs) (a := j) (b := j + 2) (by omega)
    rw [Nat.add_sub_cancel_left, rwD_drop, rwD_take] at this
    rw [← this]
    rfl
  have r6 : oSl (.list (rwD rs)) (some ((j : Int) + 2)) none = some (.list (rwD (rs.drop (j + 2)))) := by
    show some (PyData.list _) = _
    rw [cutD_from (by omega), ← rwD_drop]
    rfl
  have r7 : oRevL (.list (rwD ((rs.drop j).take 2))) = some (.list (rwD ((rs.drop j).take 2).reverse)) := by
    show some (PyData.list _) = _
    unfold rwD
    rw [List.map_reverse]
  have r8 : oIx (.list (rwD rs)) (.int (j : Int)) = some (.str (S rj)) := by
    rw [oIx_l, atI_nat]
    unfold rwD
    rw [List.getElem?_map, hrj]
    rfl
  have r9 : oSl (.str (S rj)) none (some (-1)) = some (.str (S rj.dropLast)) := by
    rw [oSl_S (by omega)]
    congr 3
    unfold cutN
    rw [HT.sIx_none, List.drop_zero, Nat.sub_zero]
    show rj.take ((-1 + (rj.length : Int)).toNat) = _
    rw [List.dropLast_eq_take]
    congr 1
    omega
  have r10 : oAdd (.str (S rj)) (.str "0") = some (.str (S (rj ++ [48]))) := by
    rw [zero_S]
    exact addSS (by simp only [List.length_cons, List.length_nil]; omega)
  let a0 := rs.take j ++ rs.drop (j + 1)
  let a1 := rs.take j ++ (rs.drop j).take 1 ++ rs.drop j
  let a2 := rs.take j ++ [x] ++ rs.drop (j + 1)
  let a3 := rs.take j ++ [rj.dropLast] ++ rs.drop (j + 1)
  let a4 := rs.take j ++ [rj ++ [48]] ++ rs.drop (j + 1)
  let a5 := rs.take j ++ ((rs.drop j).take 2).reverse ++ rs.drop (j + 2)
  have rl1 : (rs.take j).length = j := by rw [List.length_take]; omega
  have rl2 : (rs.drop j).length = rs.length - j := by rw [List.length_drop]
  have rl3 : (rs.drop (j + 1)).length = rs.length - (j + 1) := by rw [List.length_drop]
  have rl4 : ((rs.drop j).take 1).length ≤ 1 := by rw [List.length_take]; omega
  have rl5 : (rs.drop (j + 2)).length = rs.length - (j + 2) := by rw [List.length_drop]
  have rl6 : ((rs.drop j).take 2).reverse.length ≤ rs.length - j ∧ ((rs.drop j).take 2).reverse.length ≤ 2 := by rw [List.length_reverse, List.length_take]; omega
  have ad : ∀ a b : List (List Nat), a.length ≤ 100 → b.length ≤ 100 → oAdd (.list (rwD a)) (.list (rwD b)) = some (.list (rwD (a ++ b))) := fun a b ha hb => by
    rw [oAdd_l (by rw [rwD_len, rwD_len]; omega), rwD_app]
  have u0 := ad (rs.take j) (rs.drop (j + 1)) (by omega) (by omega)
  have u1 := ad (rs.take j) ((rs.drop j).take 1) (by omega) (by omega)
  have u1' := ad (rs.take j ++ (rs.drop j).take 1) (rs.drop j) (by rw [List.length_append]; omega) (by omega)
  have us : ∀ y : List Nat, oAdd (.list (rwD (rs.take j))) (.list [.str (S y)]) = some (.list (rwD (rs.take j ++ [y]))) := fun y => ad (rs.take j) [y] (by omega) (by simp)
  have us' : ∀ y : List Nat, oAdd (.list (rwD (rs.take j ++ [y]))) (.list (rwD (rs.drop (j + 1)))) = some (.list (rwD (rs.take j ++ [y] ++ rs.drop (j + 1)))) := fun y => ad (rs.take j ++ [y]) (rs.drop (j + 1)) (by rw [List.length_append]; simp only [List.length_cons, List.length_nil]; omega) (by omega)
  have u5 := ad (rs.take j) ((rs.drop j).take 2).reverse (by omega) (by omega)
  have u5' := ad (rs.take j ++ ((rs.drop j).take 2).reverse) (rs.drop (j + 2)) (by rw [List.length_append]; omega) (by omega)
  let A : Sl := .dat (.str (S l))
  let N : Sl := .dat (.int n)
  let R0 : Sl := .dat (.list (rwD rs))
  let J : Sl := .dat (.int (j : Int))
  let S12 : Sl := .dat (.list (rwD some12))
  have q1 : sSet 2 (m2 oSplit (mVar 0) (mC (.str "\n"))) (startR 7 [A, N]) = some (.nx [A, N, R0, .no, .no, .no, .no]) := by
    simp (implicitDefEqProofs := false) [startR, A, N, R0, hsp]
  have q2 : sSet 3 (m2 oMod (m2 oDiv (mVar 1) (mC (.int 8))) (mA oLen (aCons (mVar 2) aNil))) [A, N, R0, .no, .no, .no, .no] = some (.nx [A, N, R0, J, .no, .no, .no]) := by
    simp (implicitDefEqProofs := false) [A, N, R0, J, rwD_len, hm1]
  have q34 : ∀ G, sSeq (sSet 4 (mLst (aCons (mC (.str "a 1")) (aCons (mC (.str "b 07")) (aCons (mC (.str "zz 1000")) (aCons (mC (.str "end 5")) (aCons (mC (.str "save 1 1 1")) (aCons (mC (.str "save 3 2 0")) (aCons (mC (.str "")) (aCons (mC (.str "x")) (aCons (mC (.str "b 999")) (aCons (mC (.str "A 1")) aNil))))))))))))
    (sSeq (sSet 4 (m2 oAdd (mVar 4) (mLst (aCons (mC (.str "sixsix 1")) (aCons (mC (.str "coin 3 4")) aNil))))) G) [A, N, R0, J, .no, .no, .no] = G [A, N, R0, J, S12, .no, .no] := fun G => by
    rw [v_seqN (ρ' := [A, N, R0, J, .dat (.list [PyData.str "a 1", .str "b 07", .str "zz 1000", .str "end 5", .str "save 1 1 1", .str "save 3 2 0", .str "", .str "x", .str "b 999", .str "A 1"]), .no, .no]) rfl, v_seqN (ρ' := [A, N, R0, J, S12, .no, .no])]
    show some (Out.nx [A, N, R0, J, .dat (.list ([PyData.str "a 1", .str "b 07", .str "zz 1000", .str "end 5", .str "save 1 1 1", .str "save 3 2 0", .str "", .str "x", .str "b 999", .str "A 1"] ++ [PyData.str "sixsix 1", .str "coin 3 4"])), .no, .no]) = _
    rw [some12_is]
  have e1 : ∀ y5 y6, mSl (mVar 2) oNone (oSome (mVar 3)) [A, N, R0, J, S12, y5, y6] = some (.list (rwD (rs.take j))) := fun y5 y6 => r1
  have e2 : ∀ y5 y6, mSl (mVar 2) (oSome (m2 oAdd (mVar 3) (mC (.int 1)))) oNone [A, N, R0, J, S12, y5, y6] = some (.list (rwD (rs.drop (j + 1)))) := fun y5 y6 => r3
  have e3 : ∀ y5 y6, mSl (mVar 2) (oSome (mVar 3)) (oSome (m2 oAdd (mVar 3) (mC (.int 1)))) [A, N, R0, J, S12, y5, y6] = some (.list (rwD ((rs.drop j).take 1))) := fun y5 y6 => r4
  have e4 : ∀ y5 y6, mSl (mVar 2) (oSome (mVar 3)) oNone [A, N, R0, J, S12, y5, y6] = some (.list (rwD (rs.drop j))) := fun y5 y6 => r2
  have e5 : ∀ y5 y6, m1 oRevL (mSl (mVar 2) (oSome (mVar 3)) (oSome (m2 oAdd (mVar 3) (mC (.int 2))))) [A, N, R0, J, S12, y5, y6] = some (.list (rwD ((rs.drop j).take 2).reverse)) := fun y5 y6 => by
    have : mSl (mVar 2) (oSome (mVar 3)) (oSome (m2 oAdd (mVar 3) (mC (.int 2)))) [A, N, R0, J, S12, y5, y6] = some (.list (rwD ((rs.drop j).take 2))) := r5
    rw [v_m1, this]
    exact r7
  have e6 : ∀ y5 y6, mSl (mVar 2) (oSome (m2 oAdd (mVar 3) (mC (.int 2)))) oNone [A, N, R0, J, S12, y5, y6] = some (.list (rwD (rs.drop (j + 2)))) := fun y5 y6 => r6
  have e7 : ∀ y5 y6, m2 oIx (mVar 2) (mVar 3) [A, N, R0, J, S12, y5, y6] = some (.str (S rj)) := fun y5 y6 => r8
  have e8 : ∀ y5 y6, mLst (aCons (m2 oIx (mVar 4) (m2 oMod (m2 oDiv (mVar 1) (mC (.int 256))) (mC (.int 12)))) aNil) [A, N, R0, J, S12, y5, y6] = some (.list [.str (S x)]) := fun y5 y6 => by
    have : m2 oIx (mVar 4) (m2 oMod (m2 oDiv (mVar 1) (mC (.int 256))) (mC (.int 12))) [A, N, R0, J, S12, y5, y6] = some (.str (S x)) := hx12
    rw [v_lst, v_aCons, this]
    rfl
  have e9 : ∀ y5 y6, mLst (aCons (mSl (m2 oIx (mVar 2) (mVar 3)) oNone (oSome (m1 oNeg (mC (.int 1))))) aNil) [A, N, R0, J, S12, y5, y6] = some (.list [.str (S rj.dropLast)]) := fun y5 y6 => by
    have : mSl (m2 oIx (mVar 2) (mVar 3)) oNone (oSome (m1 oNeg (mC (.int 1)))) [A, N, R0, J, S12, y5, y6] = some (.str (S rj.dropLast)) := by
      unfold mSl
      rw [e7]
      exact r9
    rw [v_lst, v_aCons, this]
    rfl
  have e10 : ∀ y5 y6, mLst (aCons (m2 oAdd (m2 oIx (mVar 2) (mVar 3)) (mC (.str "0"))) aNil) [A, N, R0, J, S12, y5, y6] = some (.list [.str (S (rj ++ [48]))]) := fun y5 y6 => by
    rw [v_lst, v_aCons, v_m2, e7]
    simp only [Option.bind_some, v_C, r10]
    rfl
  have q5 : sOwn 5 (lLst (aCons (m2 oAdd (mSl (mVar 2) oNone (oSome (mVar 3))) (mSl (mVar 2) (oSome (m2 oAdd (mVar 3) (mC (.int 1)))) oNone)) (aCons (m2 oAdd (m2 oAdd (mSl (mVar 2) oNone (oSome (mVar 3))) (mSl (mVar 2) (oSome (mVar 3)) (oSome (m2 oAdd (mVar 3) (mC (.int 1)))))) (mSl (mVar 2) (oSome (mVar 3)) oNone)) aNil))) [A, N, R0, J, S12, .no, .no] = some (.nx [A, N, R0, J, S12, .own ([a0, a1].map fun a => .list (rwD a)), .no]) := by
    unfold sOwn
    rw [v_lLst, v_aCons, v_m2, e1, e2, v_aCons, v_m2, v_m2, e1, e3, e4]
    simp only [Option.bind_some, u0, u1, u1', v_aNil]
    rfl
  have ap : ∀ (as : List (List (List Nat))) (y6 : Sl) (f : Mir) (a : List (List Nat)), as.length ≤ 10 → f [A, N, R0, J, S12, .own (as.map fun a => PyData.list (rwD a)), y6] = some (.list (rwD a)) → sAppend 5 f [A, N, R0, J, S12, .own (as.map fun a => PyData.list (rwD a)), y6] = some (.nx [A, N, R0, J, S12, .own ((as ++ [a]).map fun a => PyData.list (rwD a)), y6]) := fun as y6 f a hl hf => by
    unfold sAppend
    rw [hf]
    show (if (as.map fun a => PyData.list (rwD a)).length < sizeLine then _ else _) = _
    rw [if_pos (by rw [List.length_map, sizeLine_is]; omega), List.map_append]
    rfl
  have q6 := ap [a0, a1] .no (m2 oAdd (m2 oAdd (mSl (mVar 2) oNone (oSome (mVar 3))) (mLst (aCons (m2 oIx (mVar 4) (m2 oMod (m2 oDiv (mVar 1) (mC (.int 256))) (mC (.int 12)))) aNil))) (mSl (mVar 2) (oSome (m2 oAdd (mVar 3) (mC (.int 1)))) oNone)) a2 (by show 2 ≤ 10; decide) (by
    rw [v_m2, v_m2, e1, e8, e2]
    simp only [Option.bind_some, us, us']
    rfl)
  have q7 := ap [a0, a1, a2] .no (m2 oAdd (m2 oAdd (mSl (mVar 2) oNone (oSome (mVar 3))) (mLst (aCons (mSl (m2 oIx (mVar 2) (mVar 3)) oNone (oSome (m1 oNeg (mC (.int 1))))) aNil))) (mSl (mVar 2) (oSome (m2 oAdd (mVar 3) (mC (.int 1)))) oNone)) a3 (by show 3 ≤ 10; decide) (by
    rw [v_m2, v_m2, e1, e9, e2]
    simp only [Option.bind_some, us, us']
    rfl)
  have q8 := ap [a0, a1, a2, a3] .no (m2 oAdd (m2 oAdd (mSl (mVar 2) oNone (oSome (mVar 3))) (mLst (aCons (m2 oAdd (m2 oIx (mVar 2) (mVar 3)) (mC (.str "0"))) aNil))) (mSl (mVar 2) (oSome (m2 oAdd (mVar 3) (mC (.int 1)))) oNone)) a4 (by show 4 ≤ 10; decide) (by
    rw [v_m2, v_m2, e1, e10, e2]
    simp only [Option.bind_some, us, us']
    rfl)
  let W : Sl := .dat (.list (rwD ((rs.drop j).take 2).reverse))
  have q9 : sSet 6 (m1 oRevL (mSl (mVar 2) (oSome (mVar 3)) (oSome (m2 oAdd (mVar 3) (mC (.int 2)))))) [A, N, R0, J, S12, .own ([a0, a1, a2, a3, a4].map fun a => PyData.list (rwD a)), .no] = some (.nx [A, N, R0, J, S12, .own ([a0, a1, a2, a3, a4].map fun a => PyData.list (rwD a)), W]) := by
    rw [v_sSet, e5]
    rfl
  have q10 := ap [a0, a1, a2, a3, a4] W (m2 oAdd (m2 oAdd (mSl (mVar 2) oNone (oSome (mVar 3))) (mVar 6)) (mSl (mVar 2) (oSome (m2 oAdd (mVar 3) (mC (.int 2)))) oNone)) a5 (by show 5 ≤ 10; decide) (by
    have : ∀ y5, mVar 6 [A, N, R0, J, S12, y5, W] = some (.list (rwD ((rs.drop j).take 2).reverse)) := fun _ => rfl
    rw [v_m2, v_m2, e1, this, e6]
    simp only [Option.bind_some, u5, u5']
    rfl)
  obtain ⟨a, ha1, ha2, ha3, he⟩ : ∃ a : List (List Nat), a.length ≤ R + 1 ∧ (∀ r ∈ a, r.length ≤ M + 1) ∧ (∀ r ∈ a, 10 ∉ r) ∧ atI ([a0, a1, a2, a3, a4, a5].map fun a => PyData.list (rwD a)) (n % 6) = some (.list (rwD a)) := by
    have mt : ∀ r ∈ rs.take j, r.length ≤ M + 1 ∧ 10 ∉ r := fun r hr => ⟨Nat.le_succ_of_le (heach r (List.mem_of_mem_take hr)), hfree r (List.mem_of_mem_take hr)⟩
    have md : ∀ k, ∀ r ∈ rs.drop k, r.length ≤ M + 1 ∧ 10 ∉ r := fun k r hr => ⟨Nat.le_succ_of_le (heach r (List.mem_of_mem_drop hr)), hfree r (List.mem_of_mem_drop hr)⟩
    have mx : ∀ (y : List Nat), y.length ≤ M + 1 ∧ 10 ∉ y → ∀ r ∈ rs.take j ++ [y] ++ rs.drop (j + 1), r.length ≤ M + 1 ∧ 10 ∉ r := fun y hy r hr => by
      rcases List.mem_append.mp hr with z | z
      · rcases List.mem_append.mp z with z | z
        · exact mt r z
        · rw [List.mem_singleton.mp z]
          exact hy
      · exact md _ r z
    have lx : ∀ y : List Nat, (rs.take j ++ [y] ++ rs.drop (j + 1)).length ≤ R + 1 := fun y => by
      rw [List.length_append, List.length_append]
      simp only [List.length_cons, List.length_nil]
      omega
    rcases (show n % 6 = 0 ∨ n % 6 = 1 ∨ n % 6 = 2 ∨ n % 6 = 3 ∨ n % 6 = 4 ∨ n % 6 = 5 by omega) with h | h | h | h | h | h <;> rw [h]
    · have m : ∀ r ∈ a0, r.length ≤ M + 1 ∧ 10 ∉ r := fun r hr => (List.mem_append.mp hr).elim (mt r) (md _ r)
      exact ⟨a0, by rw [List.length_append]; omega, fun r hr => (m r hr).1, fun r hr => (m r hr).2, rfl⟩
    · have m : ∀ r ∈ a1, r.length ≤ M + 1 ∧ 10 ∉ r := fun r hr => by
        rcases List.mem_append.mp hr with z | z
        · rcases List.mem_append.mp z with z | z
          · exact mt r z
          · exact md _ r (List.mem_of_mem_take z)
        · exact md _ r z
      exact ⟨a1, by rw [List.length_append, List.length_append]; omega, fun r hr => (m r hr).1, fun r hr => (m r hr).2, rfl⟩
    · have m := mx x ⟨by omega, hxl.2⟩
      exact ⟨a2, lx x, fun r hr => (m r hr).1, fun r hr => (m r hr).2, rfl⟩
    · have m := mx rj.dropLast ⟨by rw [List.length_dropLast]; omega, fun z => frj ((List.dropLast_sublist rj).subset z)⟩
      exact ⟨a3, lx _, fun r hr => (m r hr).1, fun r hr => (m r hr).2, rfl⟩
    · have m := mx (rj ++ [48]) ⟨by rw [List.length_append]; simp only [List.length_cons, List.length_nil]; omega, fun z => by
        rcases List.mem_append.mp z with z | z
        · exact frj z
        · exact absurd (List.mem_singleton.mp z) (by decide)⟩
      exact ⟨a4, lx _, fun r hr => (m r hr).1, fun r hr => (m r hr).2, rfl⟩
    · have m : ∀ r ∈ a5, r.length ≤ M + 1 ∧ 10 ∉ r := fun r hr => by
        rcases List.mem_append.mp hr with z | z
        · rcases List.mem_append.mp z with z | z
          · exact mt r z
          · exact md _ r (List.mem_of_mem_take (List.mem_reverse.mp z))
        · exact md _ r z
      exact ⟨a5, by rw [List.length_append, List.length_append]; omega, fun r hr => (m r hr).1, fun r hr => (m r hr).2, rfl⟩
  have htx : (txL a).length ≤ 3000 := by
    have h1 := txL_len ha2
    have h2 : a.length * (M + 1 + 1) ≤ 51 * 52 := Nat.mul_le_mul (by omega) (by omega)
    omega
  have hjn := joinN (rs := a) htx
  refine ⟨TL.joinL [10] a, rw_join (by omega) ha1 ha2 ha3, run_rt ?_⟩
  show B_law_changed (startR 7 [A, N]) = _
  unfold B_law_changed
  rw [v_seqN q1, v_seqN q2, q34, v_seqN q5, v_seqN q6]
  show sSeq _ _ [A, N, R0, J, S12, .own ([a0, a1, a2].map fun a => PyData.list (rwD a)), .no] = _
  rw [v_seqN q7]
  show sSeq _ _ [A, N, R0, J, S12, .own ([a0, a1, a2, a3].map fun a => PyData.list (rwD a)), .no] = _
  rw [v_seqN q8]
  show sSeq _ _ [A, N, R0, J, S12, .own ([a0, a1, a2, a3, a4].map fun a => PyData.list (rwD a)), .no] = _
  rw [v_seqN q9, v_seqN q10]
  show sRet _ [A, N, R0, J, S12, .own ([a0, a1, a2, a3, a4, a5].map fun a => PyData.list (rwD a)), W] = _
  have e : mIxOwn 5 (m2 oMod (mVar 1) (mC (.int 6))) [A, N, R0, J, S12, .own ([a0, a1, a2, a3, a4, a5].map fun a => PyData.list (rwD a)), W] = some (.list (rwD a)) := he
  rw [v_sRet, v_m2, e]
  simp only [v_C, Option.bind_some, hjn]
  rfl
/-- what is told of a text, and what is due -/
theorem told_due {P : Addr} {X : D} {R : Rho} {i j : Nat} {l : List Nat} (hl : l.length ≤ 1000) (hi : mVar i (.dtab P "law.<locals>.<lambda>" X :: R) = some (.str (S l))) (hj : mVar j (.dtab P "law.<locals>.<lambda>" X :: R) = some (rdD (rdW l))) :
    ∃ r, mTold P "law.<locals>.<lambda>" (xCall (F_read) (xDat (mVar i) xNil)) (.dtab P "law.<locals>.<lambda>" X :: R) = some (tldD r, .dtab P "law.<locals>.<lambda>" X :: R) ∧
      m2 oIx (mLst (aCons (mTup (aCons (mC (.str "told")) (aCons (mVar j) aNil))) (aCons (mTup (aCons (mC (.str "refused")) (aCons (mC (.bool true)) aNil))) aNil))) (mA oInt (aCons (m2 oIs (mVar j) (mC .none)) aNil)) (.dtab P "law.<locals>.<lambda>" X :: R) = some (tldD r) ∧ Pl 10 (tldD r) := by
  have hr := read_is hl
  have hx : xCall (F_read) (xDat (mVar i) xNil) (.dtab P "law.<locals>.<lambda>" X :: R) = F_read [.dat (.str (S l))] := by
    unfold xCall
    rw [v_xDat, hi]
    rfl
  cases e : rdW l with
  | none =>
    rw [e] at hr hj
    have hj : mVar j (.dtab P "law.<locals>.<lambda>" X :: R) = some .none := hj
    refine ⟨.ex, v_told (hx.trans hr), ?_, ?_⟩
    · have e1 : mA oInt (aCons (m2 oIs (mVar j) (mC .none)) aNil) (.dtab P "law.<locals>.<lambda>" X :: R) = some (.int 1) := by
        rw [v_mA, v_aCons, v_m2, hj]
        rfl
      rw [v_m2, e1, v_lst, v_aCons, v_tup, v_aCons, v_aCons, hj]
      rfl
    · exact (pl_tup (n := 1) (xs := [.str "refused", .bool true]) fun x hx => by
        rcases List.mem_cons.mp hx with z | z
        · rw [z]; exact pl_str _ _
        · rw [List.mem_singleton.mp z]; exact pl_bool _ _).mono (by decide)
  | some s =>
    rw [e] at hr hj
    have hj : mVar j (.dtab P "law.<locals>.<lambda>" X :: R) = some (svT s) := hj
    refine ⟨.ok (svT s), v_told (hx.trans hr), ?_, ?_⟩
    · have e1 : mA oInt (aCons (m2 oIs (mVar j) (mC .none)) aNil) (.dtab P "law.<locals>.<lambda>" X :: R) = some (.int 0) := by
        rw [v_mA, v_aCons, v_m2, hj]
        rfl
      rw [v_m2, e1, v_lst, v_aCons, v_tup, v_aCons, v_aCons, hj]
      rfl
    · exact (pl_tup (n := 4) (xs := [.str "told", svT s]) fun x hx => by
        rcases List.mem_cons.mp hx with z | z
        · rw [z]; exact pl_str _ _
        · rw [List.mem_singleton.mp z]; exact pl_svT s).mono (by decide)
theorem loop20 (T0 x2 x3 x5 x6 x7 x8 x10 : Sl) (n : Int) : ∀ (ks : List Int) (R M : Nat) (l : List Nat) (x9 : Sl), Rw R M l → R + ks.length ≤ 50 → 12 ≤ M → M + ks.length ≤ 50 → ∃ l' y9, Rw (R + ks.length) (M + ks.length) l' ∧
    sLoop (gN 9) (sSet 4 (mCall (F_law_changed) (xDat (mVar 4) (xDat (m2 oDiv (mCall (F_law_drawn) (xDat (mVar 1) (xDat (mVar 9) xNil))) (mC (.int 4))) xNil)))) (ks.map .int) [T0, .dat (.int n), x2, x3, .dat (.str (S l)), x5, x6, x7, x8, x9, x10] = some (.nx [T0, .dat (.int n), x2, x3, .dat (.str (S l')), x5, x6, x7, x8, y9, x10])
  | [], R, M, l, x9, h, _, _, _ => ⟨l, x9, h, rfl⟩
  | k :: ks, R, M, l, x9, h, h1, h2, h3 => by
    rw [List.length_cons] at h1 h3
    obtain ⟨l1, hl1, e⟩ := changed_is h (by omega) h2 (by omega) (drN n k / 4)
    obtain ⟨l', y9, hl', e2⟩ := loop20 T0 x2 x3 x5 x6 x7 x8 x10 n ks (R + 1) (M + 1) l1 (.dat (.int k)) hl1 (by omega) (by omega) (by omega)
    have hd := drawn n k
    refine ⟨l', y9, by rw [List.length_cons]; exact ⟨by have := hl'.few; omega, fun r hr => by have := hl'.each r hr; omega⟩, ?_⟩
    rw [List.map_cons, v_loopS (ρ1 := [T0, .dat (.int n), x2, x3, .dat (.str (S l)), x5, x6, x7, x8, .dat (.int k), x10]) (ρ2 := [T0, .dat (.int n), x2, x3, .dat (.str (S l1)), x5, x6, x7, x8, .dat (.int k), x10]) rfl ?_]
    · exact e2
    · simp (implicitDefEqProofs := false) [hd, e]
theorem str_list (s : Str) : s = S s.cps.toList := (SX.S_tl s).symm
theorem law20 (ns : List Int) (P : Addr) : B_law P (startR 11 [.dtab P "law.<locals>.<lambda>" (.list (ns.map .int))]) = some (.rt (.bool true)) := by
  have m0 : F_law_mixed [Sl.dat (PyData.list (List.map PyData.int ns)), Sl.dat (PyData.int 0)] = some (PyData.int (mixN ns 0)) := mixed ns 0
  have m1 : F_law_mixed [Sl.dat (PyData.list (List.map PyData.int ns)), Sl.dat (PyData.int 1)] = some (PyData.int (mixN ns 1)) := mixed ns 1
  have m2' : F_law_mixed [Sl.dat (PyData.list (List.map PyData.int ns)), Sl.dat (PyData.int 2)] = some (PyData.int (mixN ns 2)) := mixed ns 2
  have m7 : F_law_mixed [Sl.dat (PyData.list (List.map PyData.int ns)), Sl.dat (PyData.int 7)] = some (PyData.int (mixN ns 7)) := mixed ns 7
  obtain ⟨ky, hky, hany⟩ := any_is (mixN ns 7)
  have hbk := book (mixN ns 2)
  have hb := bkN_bk (mixN ns 2)
  have hbl := bkN_len (mixN ns 2)
  generalize mixN ns 0 = n at *
  generalize mixN ns 1 = n1 at *
  generalize mixN ns 2 = n2 at *
  generalize mixN ns 7 = n7 at *
  generalize bkN n2 = b0 at *
  generalize hX : (PyData.list (ns.map .int)) = X at *
  have hsw := sw_book ky (b := b0) (by omega) 3
  -- the book
  let bp := putAll [] (swM ky b0)
  have ndp : Nd bp := nd_putAll _ _ nd0
  have hpl : ∀ (m acc : Mp Int), (putAll acc m).length ≤ acc.length + m.length := fun m => by
    induction m with
    | nil => intro acc; show acc.length ≤ _; simp
    | cons p m ih =>
      intro acc
      have h1 := ih (put acc p.1 p.2)
      have h2 := put_len (m := acc) (k := p.1) (v := p.2)
      show (putAll (put acc p.1 p.2) m).length ≤ _
      rw [List.length_cons]
      omega
  have hbpl : bp.length ≤ 5 := by
    have := hpl (swM ky b0) []
    unfold swM at this
    rw [List.length_map] at this
    simp only [List.length_nil] at this
    show (putAll [] (swM ky b0)).length ≤ 5
    unfold swM
    omega
  have hgood : ∀ (m acc : Mp Int), Fb (val acc) → (∀ p ∈ m, keyOk p.1 = true ∧ 0 ≤ p.2 ∧ p.2 < 1000) → Fb (val (putAll acc m)) := fun m => by
    induction m with
    | nil => intro acc h _; exact h
    | cons p m ih =>
      intro acc h hm
      refine ih (put acc p.1 p.2) (fun k v e => ?_) fun q hq => hm q (List.mem_cons_of_mem _ hq)
      rw [val_put] at e
      by_cases hk : k = p.1
      · rw [if_pos hk] at e
        rw [hk, ← Option.some.inj e]
        exact hm p List.mem_cons_self
      · rw [if_neg hk] at e
        exact h k v e
  have hfb : Fb (val bp) := hgood _ [] (fun k v e => nomatch e) fun p hp => by
    obtain ⟨q, hq, rfl⟩ := List.mem_map.mp hp
    have := hb.gd.2 q hq
    refine ⟨?_, this.2⟩
    show keyOk (swS ky q.1) = true
    unfold swS
    by_cases hc : q.1 = "coin"
    · rw [if_pos hc]
      exact hky
    · rw [if_neg hc]
      exact this.1
  have hB : Bk (srt bp) := ⟨srt_rise ndp, fun k v e => hfb k v (by rw [← srt_val ndp k]; exact e)⟩
  have hBl : (srt bp).length ≤ 5 := by rw [srt_len]; exact hbpl
  have hdp : ∀ ρ f, f ρ = some (bkD (swM ky b0)) → mA oTuple (aCons (mSItems (dPairs f)) aNil) ρ = some (bkD (srt bp)) := fun ρ f hf => by
    have h1 : dPairs f ρ = some (kvM .int bp) := dPairs_all (.inl hf)
    rw [v_mA, v_aCons, mSItems_kv emI h1 ndp (by rw [sizeLine_is]; omega)]
    rfl
  generalize srt bp = b at *
  obtain ⟨mk, hmk⟩ : ∃ N : Nat, 1 + n / 2 % 9 = (N : Int) := ⟨(1 + n / 2 % 9).toNat, by omega⟩
  obtain ⟨q, hq, hq2⟩ : ∃ q : Int, (q = 9999 ∨ q = 12) ∧ oIx (.tuple [.int 9999, .int 12]) (.int (n % 2)) = some (.int q) := by
    rcases (show n % 2 = 0 ∨ n % 2 = 1 by omega) with h | h
    · exact ⟨9999, .inl rfl, by rw [h]; rfl⟩
    · exact ⟨12, .inr rfl, by rw [h]; rfl⟩
  obtain ⟨N, hN⟩ : ∃ N : Nat, 1 + n1 % q = (N : Int) := ⟨(1 + n1 % q).toNat, by rcases hq with rfl | rfl <;> omega⟩
  have v : Sv N mk b := ⟨by rcases hq with rfl | rfl <;> omega, by rcases hq with rfl | rfl <;> omega, by omega, by omega, hB⟩
  have hmod : oMod (.int n1) (.int q) = some (.int (n1 % q)) := by
    rcases hq with rfl | rfl <;> simp
  have h1 := v.n9
  have h2 := v.m9
  have hsm := v.bk.sm (by omega)
  have hwr := written_is (n := N) (mk := mk) (b := b) (by omega) (by omega) hsm
  have hlt := ltext_is (n := N) (mk := mk) (b := b) (by omega) (by omega) hsm
  have hRw : Rw 8 25 (wrL N mk b) := by
    have e := spl_wr (n := N) (mk := mk) v.bk.keys
    refine ⟨?_, fun r hr => ?_⟩
    · rw [e, List.length_append, rowsL_len]
      simp only [List.length_cons, List.length_nil]
      omega
    · rw [e] at hr
      rcases List.mem_append.mp hr with z | z
      · exact rowsL_each (by omega) (by omega) hsm r z
      · rcases List.mem_cons.mp z with z | z
        · rw [z]
          unfold endL
          rw [List.length_append, sum4_len]
          decide
        · rw [List.mem_singleton.mp z]
          exact Nat.zero_le _
  have hs1 := sum_is (wrL N mk b)
  have hs2 := lsum_is (wrL N mk b)
  generalize wrL N mk b = l at *
  have hll := hRw.len
  let T0 : Sl := .dtab P "law.<locals>.<lambda>" X
  let N0 : Sl := .dat (.int n)
  have q1 : sSet 1 (mCall (F_law_mixed) (xDat (mVar 0) (xDat (mC (.int 0)) xNil))) (startR 11 [T0]) = some (.nx [T0, N0, .no, .no, .no, .no, .no, .no, .no, .no, .no]) := by
    simp (implicitDefEqProofs := false) [startR, T0, N0, m0]
  have q2 : sSet 2 (mCall (F_law_swapped 6) (xDat (mCall (F_law_book) (xDat (mCall (F_law_mixed) (xDat (mVar 0) (xDat (mC (.int 2)) xNil))) xNil)) (xDic (dDisp [((mC (.str "coin")), (mCall (F_law_any) (xDat (mCall (F_law_mixed) (xDat (mVar 0) (xDat (mC (.int 7)) xNil))) (xDat (mC (.int 5)) xNil))))]) xNil))) [T0, N0, .no, .no, .no, .no, .no, .no, .no, .no, .no] = some (.nx [T0, N0, .dat (bkD (swM ky b0)), .no, .no, .no, .no, .no, .no, .no, .no]) := by
    have hd : dDisp [((mC (.str "coin")), (mCall (F_law_any) (xDat (mCall (F_law_mixed) (xDat (mVar 0) (xDat (mC (.int 7)) xNil))) (xDat (mC (.int 5)) xNil))))] [T0, N0, .no, .no, .no, .no, .no, .no, .no, .no, .no] = some [(.inr "coin", .str ky)] := by
      have : mCall (F_law_any) (xDat (mCall (F_law_mixed) (xDat (mVar 0) (xDat (mC (.int 7)) xNil))) (xDat (mC (.int 5)) xNil)) [T0, N0, .no, .no, .no, .no, .no, .no, .no, .no, .no] = some (.str ky) := by
        simp (implicitDefEqProofs := false) [T0, N0, m7, hany]
      unfold dDisp dPs dPs
      simp only [v_C, Option.bind_some, keyD_s, this]
      rfl
    have hx : xDic (dDisp [((mC (.str "coin")), (mCall (F_law_any) (xDat (mCall (F_law_mixed) (xDat (mVar 0) (xDat (mC (.int 7)) xNil))) (xDat (mC (.int 5)) xNil))))]) xNil [T0, N0, .no, .no, .no, .no, .no, .no, .no, .no, .no] = some [coinB ky] := by
      unfold xDic
      rw [hd]
      rfl
    have hbk' : mCall (F_law_book) (xDat (mCall (F_law_mixed) (xDat (mVar 0) (xDat (mC (.int 2)) xNil))) xNil) [T0, N0, .no, .no, .no, .no, .no, .no, .no, .no, .no] = some (bkD b0) := by
      simp (implicitDefEqProofs := false) [T0, N0, m2', hbk]
    rw [v_sSet, v_call, v_xDat, hbk', hx]
    simp only [Option.bind_some]
    rw [show (6 : Nat) = 3 + 3 from rfl, hsw]
    rfl
  have q3 : sSet 2 (mA oTuple (aCons (mSItems (dPairs (mVar 2))) aNil)) [T0, N0, .dat (bkD (swM ky b0)), .no, .no, .no, .no, .no, .no, .no, .no] = some (.nx [T0, N0, .dat (bkD b), .no, .no, .no, .no, .no, .no, .no, .no]) := by
    rw [v_sSet, hdp _ (mVar 2) rfl]
    rfl
  have q4 : sSet 3 (mTup (aCons (m2 oAdd (mC (.int 1)) (m2 oMod (mCall (F_law_mixed) (xDat (mVar 0) (xDat (mC (.int 1)) xNil))) (m2 oIx (mTup (aCons (mC (.int 9999)) (aCons (mC (.int 12)) aNil))) (m2 oMod (mVar 1) (mC (.int 2)))))) (aCons (m2 oAdd (mC (.int 1)) (m2 oMod (m2 oDiv (mVar 1) (mC (.int 2))) (mC (.int 9)))) (aCons (mVar 2) aNil)))) [T0, N0, .dat (bkD b), .no, .no, .no, .no, .no, .no, .no, .no] = some (.nx [T0, N0, .dat (bkD b), .dat (svD N mk b), .no, .no, .no, .no, .no, .no, .no]) := by
    simp (maxDischargeDepth := 10) (implicitDefEqProofs := false) [T0, N0, m1, hq2, hmod, hN, hmk]
    rfl
  have q5 : sSet 4 (mCall (F_law_text) (xDat (mVar 3) xNil)) [T0, N0, .dat (bkD b), .dat (svD N mk b), .no, .no, .no, .no, .no, .no, .no] = some (.nx [T0, N0, .dat (bkD b), .dat (svD N mk b), .dat (.str (S l)), .no, .no, .no, .no, .no, .no]) := by
    simp (implicitDefEqProofs := false) [T0, N0, hlt]
  let ρ5 : Rho := [T0, N0, .dat (bkD b), .dat (svD N mk b), .dat (.str (S l)), .no, .no, .no, .no, .no, .no]
  have q6 : sIf (mOr (m2 oNe (mCall (F_written) (xDat (mVar 3) xNil)) (mVar 4)) (m2 oNe (mCall (F_sum_of) (xDat (mVar 4) xNil)) (mCall (F_law_sum) (xDat (mVar 4) xNil))))
      (sRet (mC (.bool false)))
      sNil ρ5 = some (.nx ρ5) := by
    have e1 : m2 oNe (mCall (F_written) (xDat (mVar 3) xNil)) (mVar 4) ρ5 = some (.bool false) := by
      simp (implicitDefEqProofs := false) [ρ5, hwr]
    have e2 : m2 oNe (mCall (F_sum_of) (xDat (mVar 4) xNil)) (mCall (F_law_sum) (xDat (mVar 4) xNil)) ρ5 = some (.bool false) := by
      simp (implicitDefEqProofs := false) [ρ5, hs1, hs2]
    rw [v_sIf (b := false)]
    · rfl
    · rw [v_or e1, e2]
      rfl
  -- the head
  let W8 : List D := [.str "9999", .str "10000", .str "09999", .str "0", .str "1", .str "99999", .str "-1", .str ""]
  have q7 : sSet 5 (mTup (aCons (mC (.str "9999")) (aCons (mC (.str "10000")) (aCons (mC (.str "09999")) (aCons (mC (.str "0")) (aCons (mC (.str "1")) (aCons (mC (.str "99999")) (aCons (mC (.str "-1")) (aCons (mC (.str "")) aNil))))))))) ρ5 = some (.nx [T0, N0, .dat (bkD b), .dat (svD N mk b), .dat (.str (S l)), .dat (.tuple W8), .no, .no, .no, .no, .no]) := rfl
  obtain ⟨w8, hw8, hw8l⟩ : ∃ w : Str, atI W8 (n / 512 % 8) = some (.str w) ∧ w.length ≤ 5 := by
    rcases (show n / 512 % 8 = 0 ∨ n / 512 % 8 = 1 ∨ n / 512 % 8 = 2 ∨ n / 512 % 8 = 3 ∨ n / 512 % 8 = 4 ∨ n / 512 % 8 = 5 ∨ n / 512 % 8 = 6 ∨ n / 512 % 8 = 7 by omega) with h | h | h | h | h | h | h | h <;> rw [h]
    · exact ⟨"9999", rfl, by decide +kernel⟩
    · exact ⟨"10000", rfl, by decide +kernel⟩
    · exact ⟨"09999", rfl, by decide +kernel⟩
    · exact ⟨"0", rfl, by decide +kernel⟩
    · exact ⟨"1", rfl, by decide +kernel⟩
    · exact ⟨"99999", rfl, by decide +kernel⟩
    · exact ⟨"-1", rfl, by decide +kernel⟩
    · exact ⟨"", rfl, by decide +kernel⟩
  obtain ⟨w5, hw5, hw5l⟩ : ∃ w : Str, atI [PyData.str "1", .str "9", .str "10", .str "0", .str "01"] (n / 4096 % 5) = some (.str w) ∧ w.length ≤ 2 := by
    rcases (show n / 4096 % 5 = 0 ∨ n / 4096 % 5 = 1 ∨ n / 4096 % 5 = 2 ∨ n / 4096 % 5 = 3 ∨ n / 4096 % 5 = 4 by omega) with h | h | h | h | h <;> rw [h]
    · exact ⟨"1", rfl, by decide +kernel⟩
    · exact ⟨"9", rfl, by decide +kernel⟩
    · exact ⟨"10", rfl, by decide +kernel⟩
    · exact ⟨"0", rfl, by decide +kernel⟩
    · exact ⟨"01", rfl, by decide +kernel⟩
  have sl5 : (Str.ofString "save ").length = 5 := by decide +kernel
  have sl1 : (Str.ofString " ").length = 1 := by decide +kernel
  have sl3 : (Str.ofString " 0\n").length = 3 := by decide +kernel
  have addL : ∀ {a b : Str}, (a ++ b).length = a.length + b.length := fun {a b} => Str.length_append a b
  obtain ⟨hd, q8, hdl⟩ : ∃ hd : Str, sSet 6 (m2 oAdd (m2 oAdd (m2 oAdd (m2 oAdd (mC (.str "save ")) (m2 oIx (mVar 5) (m2 oMod (m2 oDiv (mVar 1) (mC (.int 512))) (mC (.int 8))))) (mC (.str " "))) (m2 oIx (mTup (aCons (mC (.str "1")) (aCons (mC (.str "9")) (aCons (mC (.str "10")) (aCons (mC (.str "0")) (aCons (mC (.str "01")) aNil)))))) (m2 oMod (m2 oDiv (mVar 1) (mC (.int 4096))) (mC (.int 5))))) (mC (.str " 0\n"))) [T0, N0, .dat (bkD b), .dat (svD N mk b), .dat (.str (S l)), .dat (.tuple W8), .no, .no, .no, .no, .no] = some (.nx [T0, N0, .dat (bkD b), .dat (svD N mk b), .dat (.str (S l)), .dat (.tuple W8), .dat (.str hd), .no, .no, .no, .no]) ∧ hd.length ≤ 20 := by
    let ρ : Rho := [T0, N0, .dat (bkD b), .dat (svD N mk b), .dat (.str (S l)), .dat (.tuple W8), .no, .no, .no, .no, .no]
    have e1 : m2 oIx (mVar 5) (m2 oMod (m2 oDiv (mVar 1) (mC (.int 512))) (mC (.int 8))) ρ = some (.str w8) := hw8
    have e2 : m2 oIx (mTup (aCons (mC (.str "1")) (aCons (mC (.str "9")) (aCons (mC (.str "10")) (aCons (mC (.str "0")) (aCons (mC (.str "01")) aNil)))))) (m2 oMod (m2 oDiv (mVar 1) (mC (.int 4096))) (mC (.int 5))) ρ = some (.str w5) := hw5
    refine ⟨Str.ofString "save " ++ w8 ++ Str.ofString " " ++ w5 ++ Str.ofString " 0\n", ?_, by rw [addL, addL, addL, addL]; omega⟩
    rw [v_sSet, v_m2, v_m2, v_m2, v_m2, e1, e2]
    simp only [v_C, Option.bind_some]
    rw [oAdd_s (by omega), Option.bind_some, oAdd_s (by rw [addL]; omega), Option.bind_some, oAdd_s (by rw [addL, addL]; omega), Option.bind_some, oAdd_s (by rw [addL, addL, addL]; omega)]
    rfl
  -- the edge
  have hlt1 := ltext_is (n := 1) (mk := 1) (b := []) (by decide) (by decide) ⟨by decide, fun p hp => nomatch hp⟩
  have hl1 : (wrL 1 1 []).length ≤ 73 := wr73 ⟨by decide, by decide, by decide, by decide, ⟨List.Pairwise.nil, fun k u h => nomatch h⟩⟩ (by decide)
  obtain ⟨t1, hlt1, hl1⟩ : ∃ t : List Nat, F_law_text [.dat (svD 1 1 [])] = some (.str (S t)) ∧ t.length ≤ 73 := ⟨_, hlt1, hl1⟩
  have hsp1 := splitN (l := t1) (by omega)
  have hid1 := spl_id t1 []
  generalize TL.spl [10] 0 [] t1 = rs1 at *
  have htd := tx_drop_le rs1 1
  have htx1 : (txL rs1).length = t1.length + 1 := by rw [hid1]; simp
  have hj1 := joinN (rs := rs1.drop 1) (by omega)
  have hjl1 := join_len (rs1.drop 1)
  let hdL : List Nat := hd.cps.toList
  have hdS : hd = S hdL := str_list hd
  have hdLl : hdL.length ≤ 20 := hdl
  let eg : List Nat := rtL (hdL ++ TL.joinL [10] (rs1.drop 1))
  have hegl : eg.length ≤ 200 := by
    have := rtL_len (hdL ++ TL.joinL [10] (rs1.drop 1))
    rw [List.length_append] at this
    show (rtL (hdL ++ TL.joinL [10] (rs1.drop 1))).length ≤ 200
    omega
  have hrt1 := righted_is (l := hdL ++ TL.joinL [10] (rs1.drop 1)) (by rw [List.length_append]; omega)
  have ha1 : oAdd (.str hd) (.str (S (TL.joinL [10] (rs1.drop 1)))) = some (.str (S (hdL ++ TL.joinL [10] (rs1.drop 1)))) := by
    rw [hdS]
    exact addSS (by omega)
  have q9 : sSet 7 (mCall (F_law_righted) (xDat (m2 oAdd (mVar 6) (m2 oJoin (mC (.str "\n")) (mSl (m2 oSplit (mCall (F_law_text) (xDat (mTup (aCons (mC (.int 1)) (aCons (mC (.int 1)) (aCons (mTup aNil) aNil)))) xNil)) (mC (.str "\n"))) (oSome (mC (.int 1))) oNone))) xNil)) [T0, N0, .dat (bkD b), .dat (svD N mk b), .dat (.str (S l)), .dat (.tuple W8), .dat (.str hd), .no, .no, .no, .no] = some (.nx [T0, N0, .dat (bkD b), .dat (svD N mk b), .dat (.str (S l)), .dat (.tuple W8), .dat (.str hd), .dat (.str (S eg)), .no, .no, .no]) := by
    have e1 : ∀ ρ, mTup (aCons (mC (.int 1)) (aCons (mC (.int 1)) (aCons (mTup aNil) aNil))) ρ = some (svD 1 1 []) := fun ρ => rfl
    have e2 : ∀ ρ, mSl (m2 oSplit (mCall (F_law_text) (xDat (mTup (aCons (mC (.int 1)) (aCons (mC (.int 1)) (aCons (mTup aNil) aNil)))) xNil)) (mC (.str "\n"))) (oSome (mC (.int 1))) oNone ρ = some (.list (rwD (rs1.drop 1))) := fun ρ => by
      unfold mSl
      rw [v_m2, v_call, v_xDat, e1]
      simp only [v_xNil, Option.bind_some, hlt1, v_C, hsp1]
      show some (PyData.list (cutD (rwD rs1) (some 1) none)) = _
      rw [cutD_from (by decide), rwD_drop]
      rfl
    rw [v_sSet, v_call, v_xDat, v_m2, v_m2, e2]
    simp only [v_C, Option.bind_some, hj1, v_varS, v_var0, ha1, v_xNil, hrt1]
    rfl
  have hlr1 := lawread_is (l := eg) (by omega)
  have q10 : sSet 8 (mCall (F_law_read) (xDat (mVar 7) xNil)) [T0, N0, .dat (bkD b), .dat (svD N mk b), .dat (.str (S l)), .dat (.tuple W8), .dat (.str hd), .dat (.str (S eg)), .no, .no, .no] = some (.nx [T0, N0, .dat (bkD b), .dat (svD N mk b), .dat (.str (S l)), .dat (.tuple W8), .dat (.str hd), .dat (.str (S eg)), .dat (rdD (rdW eg)), .no, .no]) := by
    simp only [v_sSet, v_call, v_xDat, v_varS, v_var0, v_xNil, Option.bind_some, hlr1]
    rfl
  let ρ10 : Rho := [T0, N0, .dat (bkD b), .dat (svD N mk b), .dat (.str (S l)), .dat (.tuple W8), .dat (.str hd), .dat (.str (S eg)), .dat (rdD (rdW eg)), .no, .no]
  obtain ⟨r1, ht1, hd1, hp1⟩ := told_due (P := P) (X := X) (R := [N0, .dat (bkD b), .dat (svD N mk b), .dat (.str (S l)), .dat (.tuple W8), .dat (.str hd), .dat (.str (S eg)), .dat (rdD (rdW eg)), .no, .no]) (i := 7) (j := 8) (l := eg) (by omega) rfl rfl
  have q11 : sIfE (f2 oNe (mTold P "law.<locals>.<lambda>" (xCall (F_read) (xDat (mVar 7) xNil))) (m2 oIx (mLst (aCons (mTup (aCons (mC (.str "told")) (aCons (mVar 8) aNil))) (aCons (mTup (aCons (mC (.str "refused")) (aCons (mC (.bool true)) aNil))) aNil))) (mA oInt (aCons (m2 oIs (mVar 8) (mC .none)) aNil))))
      (sRet (mC (.bool false)))
      sNil ρ10 = some (.nx ρ10) := by
    rw [v_sIfE (b := false) (ρ' := ρ10) (v_f2 ht1 hd1 ((hp1.mono (by decide)).ne))]
    rfl
  -- the changes
  obtain ⟨r, hr⟩ : ∃ r : Nat, r ≤ 4 ∧ atI [PyData.int 0, .int 1, .int 2, .int 4, .int 0, .int 1] (n / 32 % 6) = some (.int (r : Int)) := by
    rcases (show n / 32 % 6 = 0 ∨ n / 32 % 6 = 1 ∨ n / 32 % 6 = 2 ∨ n / 32 % 6 = 3 ∨ n / 32 % 6 = 4 ∨ n / 32 % 6 = 5 by omega) with h | h | h | h | h | h <;> rw [h]
    · exact ⟨0, by decide, rfl⟩
    · exact ⟨1, by decide, rfl⟩
    · exact ⟨2, by decide, rfl⟩
    · exact ⟨4, by decide, rfl⟩
    · exact ⟨0, by decide, rfl⟩
    · exact ⟨1, by decide, rfl⟩
  obtain ⟨hr4, hrat⟩ := hr
  have hR : iR1 (aCons (m2 oIx (mTup (aCons (mC (.int 0)) (aCons (mC (.int 1)) (aCons (mC (.int 2)) (aCons (mC (.int 4)) (aCons (mC (.int 0)) (aCons (mC (.int 1)) aNil))))))) (m2 oMod (m2 oDiv (mVar 1) (mC (.int 32))) (mC (.int 6)))) aNil) ρ10 = some (((List.range r).map fun (k : Nat) => (k : Int)).map PyData.int) := by
    rw [iR1_i (j := (r : Int)) ?_ (by omega) (by omega), Int.toNat_natCast, rgD_is, List.map_map]
    · rfl
    · have e1 : m2 oIx (mTup (aCons (mC (.int 0)) (aCons (mC (.int 1)) (aCons (mC (.int 2)) (aCons (mC (.int 4)) (aCons (mC (.int 0)) (aCons (mC (.int 1)) aNil))))))) (m2 oMod (m2 oDiv (mVar 1) (mC (.int 32))) (mC (.int 6))) ρ10 = some (.int (r : Int)) := hrat
      rw [v_aCons, e1]
      rfl
  obtain ⟨l2, y9, hl2, e12⟩ := loop20 T0 (.dat (bkD b)) (.dat (svD N mk b)) (.dat (.tuple W8)) (.dat (.str hd)) (.dat (.str (S eg))) (.dat (rdD (rdW eg))) .no n ((List.range r).map fun (k : Nat) => (k : Int)) 8 25 l .no hRw (by rw [List.length_map, List.length_range]; omega) (by decide) (by rw [List.length_map, List.length_range]; omega)
  have hl2l := hl2.len
  rw [List.length_map, List.length_range] at hl2l
  have hl2b : l2.length ≤ 400 := by
    have : (8 + r) * (25 + r + 1) ≤ 12 * 30 := Nat.mul_le_mul (by omega) (by omega)
    omega
  let ρ12 : List Nat → Sl → Rho := fun l x => [T0, N0, .dat (bkD b), .dat (svD N mk b), .dat (.str (S l)), .dat (.tuple W8), .dat (.str hd), .dat (.str (S eg)), .dat (rdD (rdW eg)), y9, x]
  have q12 : sFor (iR1 (aCons (m2 oIx (mTup (aCons (mC (.int 0)) (aCons (mC (.int 1)) (aCons (mC (.int 2)) (aCons (mC (.int 4)) (aCons (mC (.int 0)) (aCons (mC (.int 1)) aNil))))))) (m2 oMod (m2 oDiv (mVar 1) (mC (.int 32))) (mC (.int 6)))) aNil)) (gN 9)
      (sSet 4 (mCall (F_law_changed) (xDat (mVar 4) (xDat (m2 oDiv (mCall (F_law_drawn) (xDat (mVar 1) (xDat (mVar 9) xNil))) (mC (.int 4))) xNil)))) ρ10 = some (.nx (ρ12 l2 .no)) := by
    rw [v_sFor, hR]
    exact e12
  obtain ⟨l3, hl3, q13⟩ : ∃ l3 : List Nat, l3.length ≤ 500 ∧ sIf (m2 oEq (m2 oMod (m2 oDiv (mVar 1) (mC (.int 256))) (mC (.int 2))) (mC (.int 0)))
      (sSet 4 (mCall (F_law_righted) (xDat (mVar 4) xNil)))
      sNil (ρ12 l2 .no) = some (.nx (ρ12 l3 .no)) := by
    have hrt := righted_is (l := l2) (by omega)
    have hrl := rtL_len l2
    by_cases h : n / 256 % 2 = 0
    · refine ⟨rtL l2, by omega, ?_⟩
      rw [v_sIf (b := true) (by simp (implicitDefEqProofs := false) [ρ12, N0, h])]
      simp (implicitDefEqProofs := false) [ρ12, T0, N0, hrt]
    · refine ⟨l2, by omega, ?_⟩
      rw [v_sIf (b := false) (by simp (implicitDefEqProofs := false) [ρ12, N0, h])]
      rfl
  have hlr3 := lawread_is (l := l3) (by omega)
  have q14 : sSet 10 (mCall (F_law_read) (xDat (mVar 4) xNil)) (ρ12 l3 .no) = some (.nx (ρ12 l3 (.dat (rdD (rdW l3))))) := by
    simp only [ρ12, v_sSet, v_call, v_xDat, v_varS, v_var0, v_xNil, Option.bind_some, hlr3]
    rfl
  obtain ⟨r3, ht3, hd3, hp3⟩ := told_due (P := P) (X := X) (R := [N0, .dat (bkD b), .dat (svD N mk b), .dat (.str (S l3)), .dat (.tuple W8), .dat (.str hd), .dat (.str (S eg)), .dat (rdD (rdW eg)), y9, .dat (rdD (rdW l3))]) (i := 4) (j := 10) (l := l3) (by omega) rfl rfl
  unfold B_law
  rw [v_seqN q1, v_seqN q2, v_seqN q3, v_seqN q4, v_seqN q5, v_seqN q6, v_seqN q7, v_seqN q8, v_seqN q9, v_seqN q10, v_seqN q11, v_seqN q12, v_seqN q13, v_seqN q14]
  exact v_sRetE (v_f2 ht3 hd3 ((hp3.mono (by decide)).eq))
end Pu

set_option Elab.async false
set_option linter.all false
set_option autoImplicit false
set_option maxRecDepth 100000
set_option maxHeartbeats 1000000
namespace Pu
open PySem PySem.Spec PyProof.Rows L2
theorem all_mk {l : PySem.W.OpenLaw} {w : World} {K : PySem.W.Frag} {h : Heap} {mg : Str → Option Value} {fa f1 f2 f3 f4 f5 f6 f7 f8 f9 f10 f11 f12 f13 f14 f15 f16 f17 f18 f19 f20 f21 f22 f23 f24 f25 f26 CN SE cA TA : Addr} (X : K.In h) {pq : Program} {loose : List Str} {mean : ExcName → Option Value} {mb : Str → Option Value} {dr : DefRec} {o1 : Value} {o2 : Option Addr} {vs : Array Value} {o4 : Array (Option Value)} (TT : Top pq loose mean mg mb h) (hrec : (recsOf pq).find? (fun e => e.name == ("law" : Str)) = some dr) (hfa : mg "law" = some (.ref fa))
    {od1 an1 od2 an2 od3 an3 od4 an4 od5 an5 od6 an6 od7 an7 od8 an8 od9 an9 od10 an10 od11 an11 od12 an12 od13 an13 od14 an14 od15 an15 od16 an16 od17 an17 od18 an18 od19 an19 od20 an20 od21 an21 od22 an22 od23 an23 od24 an24 od25 an25 od26 an26 : Option Addr} {sl1 sl2 sl3 sl4 sl5 sl6 sl7 sl8 sl9 sl10 sl11 sl12 sl13 sl14 sl15 sl16 sl17 sl18 sl19 sl20 sl21 sl22 sl23 sl24 sl25 sl26 : Array (Option Value)} {oc1 kV1 dc1 pm1 cd1 ct1 oc2 kV2 dc2 pm2 cd2 ct2 oc3 kV3 dc3 pm3 cd3 ct3 oc4 kV4 dc4 pm4 cd4 ct4 oc5 kV5 dc5 pm5 cd5 ct5 oc6 kV6 dc6 pm6 cd6 ct6 oc7 kV7 dc7 pm7 cd7 ct7 oc8 kV8 dc8 pm8 cd8 ct8 oc9 kV9 dc9 pm9 cd9 ct9 oc10 kV10 dc10 pm10 cd10 ct10 oc11 kV11 dc11 pm11 cd11 ct11 oc12 kV12 dc12 pm12 cd12 ct12 oc13 kV13 dc13 pm13 cd13 ct13 oc14 kV14 dc14 pm14 cd14 ct14 oc15 kV15 dc15 pm15 cd15 ct15 oc16 kV16 dc16 pm16 cd16 ct16 oc17 kV17 dc17 pm17 cd17 ct17 oc18 kV18 dc18 pm18 cd18 ct18 oc19 kV19 dc19 pm19 cd19 ct19 oc20 kV20 dc20 pm20 cd20 ct20 oc21 kV21 dc21 pm21 cd21 ct21 oc22 kV22 dc22 pm22 cd22 ct22 oc23 kV23 dc23 pm23 cd23 ct23 oc24 kV24 dc24 pm24 cd24 ct24 oc25 kV25 dc25 pm25 cd25 ct25 oc26 kV26 dc26 pm26 ct26 : Value} {t_FACTOR t_FIGURES t_LAST t_LETTERS t_LONGEST t_MOST_FIGURES t_MOST_MAKE t_MOST_NUMBER t_RING t_ROW_END t_ROW_END_NUMBER : Tok}
    (a1 : PySem.W.nsIn K mainGlobals "is_key" = some (some (.ref f1))) (l1 : K.lookup f1 = some ⟨oc1, od1, .func (PySem.W.fnOf "is_key" "is_key" (defArgs (top 10)) (defBody (top 10)) (defScope (top 10)) .none kV1 dc1 pm1 an1 cd1 ct1), sl1⟩) (c1 : PySem.W.codeIn K cd1 "is_key" = true) (k1 : PySem.W.keepIn K (.ref f1) = true)
    (a2 : PySem.W.nsIn K mainGlobals "is_whole" = some (some (.ref f2))) (l2 : K.lookup f2 = some ⟨oc2, od2, .func (PySem.W.fnOf "is_whole" "is_whole" (defArgs (top 11)) (defBody (top 11)) (defScope (top 11)) .none kV2 dc2 pm2 an2 cd2 ct2), sl2⟩) (c2 : PySem.W.codeIn K cd2 "is_whole" = true) (k2 : PySem.W.keepIn K (.ref f2) = true)
    (a3 : PySem.W.nsIn K mainGlobals "is_pair" = some (some (.ref f3))) (l3 : K.lookup f3 = some ⟨oc3, od3, .func (PySem.W.fnOf "is_pair" "is_pair" (defArgs (top 12)) (defBody (top 12)) (defScope (top 12)) .none kV3 dc3 pm3 an3 cd3 ct3), sl3⟩) (c3 : PySem.W.codeIn K cd3 "is_pair" = true) (k3 : PySem.W.keepIn K (.ref f3) = true)
    (a4 : PySem.W.nsIn K mainGlobals "is_book" = some (some (.ref f4))) (l4 : K.lookup f4 = some ⟨oc4, od4, .func (PySem.W.fnOf "is_book" "is_book" (defArgs (top 13)) (defBody (top 13)) (defScope (top 13)) .none kV4 dc4 pm4 an4 cd4 ct4), sl4⟩) (c4 : PySem.W.codeIn K cd4 "is_book" = true) (k4 : PySem.W.keepIn K (.ref f4) = true)
    (a5 : PySem.W.nsIn K mainGlobals "sum_of" = some (some (.ref f5))) (l5 : K.lookup f5 = some ⟨oc5, od5, .func (PySem.W.fnOf "sum_of" "sum_of" (defArgs (top 20)) (defBody (top 20)) (defScope (top 20)) .none kV5 dc5 pm5 an5 cd5 ct5), sl5⟩) (c5 : PySem.W.codeIn K cd5 "sum_of" = true) (k5 : PySem.W.keepIn K (.ref f5) = true)
    (a6 : PySem.W.nsIn K mainGlobals "rows_of" = some (some (.ref f6))) (l6 : K.lookup f6 = some ⟨oc6, od6, .func (PySem.W.fnOf "rows_of" "rows_of" (defArgs (top 21)) (defBody (top 21)) (defScope (top 21)) .none kV6 dc6 pm6 an6 cd6 ct6), sl6⟩) (c6 : PySem.W.codeIn K cd6 "rows_of" = true) (k6 : PySem.W.keepIn K (.ref f6) = true)
    (a7 : PySem.W.nsIn K mainGlobals "text_of" = some (some (.ref f7))) (l7 : K.lookup f7 = some ⟨oc7, od7, .func (PySem.W.fnOf "text_of" "text_of" (defArgs (top 22)) (defBody (top 22)) (defScope (top 22)) .none kV7 dc7 pm7 an7 cd7 ct7), sl7⟩) (c7 : PySem.W.codeIn K cd7 "text_of" = true) (k7 : PySem.W.keepIn K (.ref f7) = true)
    (a8 : PySem.W.nsIn K mainGlobals "written" = some (some (.ref f8))) (l8 : K.lookup f8 = some ⟨oc8, od8, .func (PySem.W.fnOf "written" "written" (defArgs (top 23)) (defBody (top 23)) (defScope (top 23)) .none kV8 dc8 pm8 an8 cd8 ct8), sl8⟩) (c8 : PySem.W.codeIn K cd8 "written" = true) (k8 : PySem.W.keepIn K (.ref f8) = true)
    (a9 : PySem.W.nsIn K mainGlobals "need" = some (some (.ref f9))) (l9 : K.lookup f9 = some ⟨oc9, od9, .func (PySem.W.fnOf "need" "need" (defArgs (top 24)) (defBody (top 24)) (defScope (top 24)) .none kV9 dc9 pm9 an9 cd9 ct9), sl9⟩) (c9 : PySem.W.codeIn K cd9 "need" = true) (k9 : PySem.W.keepIn K (.ref f9) = true)
    (a10 : PySem.W.nsIn K mainGlobals "number_in" = some (some (.ref f10))) (l10 : K.lookup f10 = some ⟨oc10, od10, .func (PySem.W.fnOf "number_in" "number_in" (defArgs (top 25)) (defBody (top 25)) (defScope (top 25)) .none kV10 dc10 pm10 an10 cd10 ct10), sl10⟩) (c10 : PySem.W.codeIn K cd10 "number_in" = true) (k10 : PySem.W.keepIn K (.ref f10) = true)
    (a11 : PySem.W.nsIn K mainGlobals "pair_in" = some (some (.ref f11))) (l11 : K.lookup f11 = some ⟨oc11, od11, .func (PySem.W.fnOf "pair_in" "pair_in" (defArgs (top 26)) (defBody (top 26)) (defScope (top 26)) .none kV11 dc11 pm11 an11 cd11 ct11), sl11⟩) (c11 : PySem.W.codeIn K cd11 "pair_in" = true) (k11 : PySem.W.keepIn K (.ref f11) = true)
    (a12 : PySem.W.nsIn K mainGlobals "read" = some (some (.ref f12))) (l12 : K.lookup f12 = some ⟨oc12, od12, .func (PySem.W.fnOf "read" "read" (defArgs (top 27)) (defBody (top 27)) (defScope (top 27)) .none kV12 dc12 pm12 an12 cd12 ct12), sl12⟩) (c12 : PySem.W.codeIn K cd12 "read" = true) (k12 : PySem.W.keepIn K (.ref f12) = true)
    (a13 : PySem.W.nsIn K mainGlobals "_law_cell_at" = some (some (.ref f13))) (l13 : K.lookup f13 = some ⟨oc13, od13, .func (PySem.W.fnOf "_law_cell_at" "_law_cell_at" (defArgs (top 29)) (defBody (top 29)) (defScope (top 29)) .none kV13 dc13 pm13 an13 cd13 ct13), sl13⟩) (c13 : PySem.W.codeIn K cd13 "_law_cell_at" = true) (k13 : PySem.W.keepIn K (.ref f13) = true)
    (a14 : PySem.W.nsIn K mainGlobals "_law_mixed" = some (some (.ref f14))) (l14 : K.lookup f14 = some ⟨oc14, od14, .func (PySem.W.fnOf "_law_mixed" "_law_mixed" (defArgs (top 30)) (defBody (top 30)) (defScope (top 30)) .none kV14 dc14 pm14 an14 cd14 ct14), sl14⟩) (c14 : PySem.W.codeIn K cd14 "_law_mixed" = true) (k14 : PySem.W.keepIn K (.ref f14) = true)
    (a15 : PySem.W.nsIn K mainGlobals "_law_drawn" = some (some (.ref f15))) (l15 : K.lookup f15 = some ⟨oc15, od15, .func (PySem.W.fnOf "_law_drawn" "_law_drawn" (defArgs (top 31)) (defBody (top 31)) (defScope (top 31)) .none kV15 dc15 pm15 an15 cd15 ct15), sl15⟩) (c15 : PySem.W.codeIn K cd15 "_law_drawn" = true) (k15 : PySem.W.keepIn K (.ref f15) = true)
    (a16 : PySem.W.nsIn K mainGlobals "_law_any" = some (some (.ref f16))) (l16 : K.lookup f16 = some ⟨oc16, od16, .func (PySem.W.fnOf "_law_any" "_law_any" (defArgs (top 32)) (defBody (top 32)) (defScope (top 32)) .none kV16 dc16 pm16 an16 cd16 ct16), sl16⟩) (c16 : PySem.W.codeIn K cd16 "_law_any" = true) (k16 : PySem.W.keepIn K (.ref f16) = true)
    (a17 : PySem.W.nsIn K mainGlobals "_law_swapped" = some (some (.ref f17))) (l17 : K.lookup f17 = some ⟨oc17, od17, .func (PySem.W.fnOf "_law_swapped" "_law_swapped" (defArgs (top 33)) (defBody (top 33)) (defScope (top 33)) .none kV17 dc17 pm17 an17 cd17 ct17), sl17⟩) (c17 : PySem.W.codeIn K cd17 "_law_swapped" = true) (k17 : PySem.W.keepIn K (.ref f17) = true)
    (a18 : PySem.W.nsIn K mainGlobals "_law_book" = some (some (.ref f18))) (l18 : K.lookup f18 = some ⟨oc18, od18, .func (PySem.W.fnOf "_law_book" "_law_book" (defArgs (top 34)) (defBody (top 34)) (defScope (top 34)) .none kV18 dc18 pm18 an18 cd18 ct18), sl18⟩) (c18 : PySem.W.codeIn K cd18 "_law_book" = true) (k18 : PySem.W.keepIn K (.ref f18) = true)
    (a19 : PySem.W.nsIn K mainGlobals "_law_sum" = some (some (.ref f19))) (l19 : K.lookup f19 = some ⟨oc19, od19, .func (PySem.W.fnOf "_law_sum" "_law_sum" (defArgs (top 38)) (defBody (top 38)) (defScope (top 38)) .none kV19 dc19 pm19 an19 cd19 ct19), sl19⟩) (c19 : PySem.W.codeIn K cd19 "_law_sum" = true) (k19 : PySem.W.keepIn K (.ref f19) = true)
    (a20 : PySem.W.nsIn K mainGlobals "_law_text" = some (some (.ref f20))) (l20 : K.lookup f20 = some ⟨oc20, od20, .func (PySem.W.fnOf "_law_text" "_law_text" (defArgs (top 39)) (defBody (top 39)) (defScope (top 39)) .none kV20 dc20 pm20 an20 cd20 ct20), sl20⟩) (c20 : PySem.W.codeIn K cd20 "_law_text" = true) (k20 : PySem.W.keepIn K (.ref f20) = true)
    (a21 : PySem.W.nsIn K mainGlobals "_law_plain" = some (some (.ref f21))) (l21 : K.lookup f21 = some ⟨oc21, od21, .func (PySem.W.fnOf "_law_plain" "_law_plain" (defArgs (top 40)) (defBody (top 40)) (defScope (top 40)) .none kV21 dc21 pm21 an21 cd21 ct21), sl21⟩) (c21 : PySem.W.codeIn K cd21 "_law_plain" = true) (k21 : PySem.W.keepIn K (.ref f21) = true)
    (a22 : PySem.W.nsIn K mainGlobals "_law_read" = some (some (.ref f22))) (l22 : K.lookup f22 = some ⟨oc22, od22, .func (PySem.W.fnOf "_law_read" "_law_read" (defArgs (top 41)) (defBody (top 41)) (defScope (top 41)) .none kV22 dc22 pm22 an22 cd22 ct22), sl22⟩) (c22 : PySem.W.codeIn K cd22 "_law_read" = true) (k22 : PySem.W.keepIn K (.ref f22) = true)
    (a23 : PySem.W.nsIn K mainGlobals "_law_told" = some (some (.ref f23))) (l23 : K.lookup f23 = some ⟨oc23, od23, .func (PySem.W.fnOf "_law_told" "_law_told" (defArgs (top 42)) (defBody (top 42)) (defScope (top 42)) .none kV23 dc23 pm23 an23 cd23 ct23), sl23⟩) (c23 : PySem.W.codeIn K cd23 "_law_told" = true) (k23 : PySem.W.keepIn K (.ref f23) = true)
    (a24 : PySem.W.nsIn K mainGlobals "_law_righted" = some (some (.ref f24))) (l24 : K.lookup f24 = some ⟨oc24, od24, .func (PySem.W.fnOf "_law_righted" "_law_righted" (defArgs (top 43)) (defBody (top 43)) (defScope (top 43)) .none kV24 dc24 pm24 an24 cd24 ct24), sl24⟩) (c24 : PySem.W.codeIn K cd24 "_law_righted" = true) (k24 : PySem.W.keepIn K (.ref f24) = true)
    (a25 : PySem.W.nsIn K mainGlobals "_law_changed" = some (some (.ref f25))) (l25 : K.lookup f25 = some ⟨oc25, od25, .func (PySem.W.fnOf "_law_changed" "_law_changed" (defArgs (top 44)) (defBody (top 44)) (defScope (top 44)) .none kV25 dc25 pm25 an25 cd25 ct25), sl25⟩) (c25 : PySem.W.codeIn K cd25 "_law_changed" = true) (k25 : PySem.W.keepIn K (.ref f25) = true)
    (a26 : PySem.W.nsIn K mainGlobals "law" = some (some (.ref f26))) (l26 : K.lookup f26 = some ⟨oc26, od26, .func (PySem.W.fnOf "law" "law" (defArgs (top 45)) (defBody (top 45)) (defScope (top 45)) .none kV26 dc26 pm26 an26 (.ref cA) ct26), sl26⟩) (c26 : PySem.W.codeIn K (.ref cA) "law" = true) (k26 : PySem.W.keepIn K (.ref f26) = true)
    (q_FACTOR : PySem.W.nsIn K mainGlobals "FACTOR" = some (some (.int 31 t_FACTOR)))
    (q_FIGURES : PySem.W.nsIn K mainGlobals "FIGURES" = some (some (.str "0123456789" t_FIGURES)))
    (q_LAST : PySem.W.nsIn K mainGlobals "LAST" = some (some (.int 9973 t_LAST)))
    (q_LETTERS : PySem.W.nsIn K mainGlobals "LETTERS" = some (some (.str "abcdefghijklmnopqrstuvwxyz" t_LETTERS)))
    (q_LONGEST : PySem.W.nsIn K mainGlobals "LONGEST" = some (some (.int 5 t_LONGEST)))
    (q_MOST_FIGURES : PySem.W.nsIn K mainGlobals "MOST_FIGURES" = some (some (.int 4 t_MOST_FIGURES)))
    (q_MOST_MAKE : PySem.W.nsIn K mainGlobals "MOST_MAKE" = some (some (.int 9 t_MOST_MAKE)))
    (q_MOST_NUMBER : PySem.W.nsIn K mainGlobals "MOST_NUMBER" = some (some (.int 9999 t_MOST_NUMBER)))
    (q_RING : PySem.W.nsIn K mainGlobals "RING" = some (some (.int 1000 t_RING)))
    (q_ROW_END : PySem.W.nsIn K mainGlobals "ROW_END" = some (some (.str "\n" t_ROW_END)))
    (q_ROW_END_NUMBER : PySem.W.nsIn K mainGlobals "ROW_END_NUMBER" = some (some (.int 10 t_ROW_END_NUMBER)))
    (y_ValueError : PySem.W.nsIn K mainGlobals "ValueError" = some none)
    (y_all : PySem.W.nsIn K mainGlobals "all" = some none)
    (y_bool : PySem.W.nsIn K mainGlobals "bool" = some none)
    (y_dict : PySem.W.nsIn K mainGlobals "dict" = some none)
    (y_enumerate : PySem.W.nsIn K mainGlobals "enumerate" = some none)
    (y_int : PySem.W.nsIn K mainGlobals "int" = some none)
    (y_isinstance : PySem.W.nsIn K mainGlobals "isinstance" = some none)
    (y_len : PySem.W.nsIn K mainGlobals "len" = some none)
    (y_ord : PySem.W.nsIn K mainGlobals "ord" = some none)
    (y_range : PySem.W.nsIn K mainGlobals "range" = some none)
    (y_sorted : PySem.W.nsIn K mainGlobals "sorted" = some none)
    (y_str : PySem.W.nsIn K mainGlobals "str" = some none)
    (y_tuple : PySem.W.nsIn K mainGlobals "tuple" = some none)
    (y_zip : PySem.W.nsIn K mainGlobals "zip" = some none)
    (gN : PySem.W.nsIn K mainGlobals "NoSave" = some (some (.ref CN))) (xN : PySem.W.excIn K CN [.type "ValueError", .type "Exception", .type "BaseException", .type "object"] "ValueError.__new__" = true) (kN : PySem.W.keepIn K (.ref CN) = true) (bN : PySem.W.subIn K (.ref CN) (.type "BaseException") = some true) (tN : PySem.W.typeIn K (.ref CN) = some (.type "type")) (iN : PySem.W.isClsIn K CN = true) (sN : PySem.W.subIn K (.ref CN) (.ref CN) = some true)
    (gS : PySem.W.nsIn K mainGlobals "SaveError" = some (some (.ref SE))) (bS : PySem.W.subIn K (.ref SE) (.type "BaseException") = some true) (tS : PySem.W.typeIn K (.ref SE) = some (.type "type")) (iS : PySem.W.isClsIn K SE = true) (sS : PySem.W.subIn K (.ref CN) (.ref SE) = some true) (vN : PySem.W.subIn K (.ref CN) (.type "ValueError") = some true)
    (e1 : PySem.W.findIn K (.ref CN) "__getattribute__" = some (some (.builtin "BaseException.__getattribute__"))) (e2 : PySem.W.findIn K (.ref CN) "__getattr__" = some none) (e3 : PySem.W.hasDictIn K CN = true) (e4 : PySem.W.findIn K (.ref CN) "__class__" = some (some (.builtin "object.__class__"))) (e5 : PySem.W.specialIn K (.builtin "object.__class__") "__get__" = some (some (.builtin "getset_descriptor.__get__"))) (e6 : PySem.W.takesIn K (.builtin "object.__class__") = some true) (e7 : PySem.W.mroIn K CN (.type "object") = some true)
    (lC : K.lookup cA = some ⟨o1, o2, .fields vs, o4⟩) (vP : (vs[11]? : Option Value) = some (.ref TA)) (nK : PySem.W.noTabs K = true)
    : LamX.LawAtS l w K CX0 7 63 "script" mg fa h := by
  have G := TT.g
  have e := hfa.symm.trans (PySem.W.mg_of X G a26)
  cases e
  have F1 := fun_mk (st := top 10) l1 c1 k1
  have D1 : Def K mg "is_key" (top 10) ["thing"] := def_mk F1 (PySem.W.mg_of X G a1) (F1.binds fun _ _ _ _ _ _ us hl => match us, hl with | [_], _ => rfl)
  have F2 := fun_mk (st := top 11) l2 c2 k2
  have D2 : Def K mg "is_whole" (top 11) ["thing", "low", "high"] := def_mk F2 (PySem.W.mg_of X G a2) (F2.binds fun _ _ _ _ _ _ us hl => match us, hl with | [_, _, _], _ => rfl)
  have F3 := fun_mk (st := top 12) l3 c3 k3
  have D3 : Def K mg "is_pair" (top 12) ["thing"] := def_mk F3 (PySem.W.mg_of X G a3) (F3.binds fun _ _ _ _ _ _ us hl => match us, hl with | [_], _ => rfl)
  have F4 := fun_mk (st := top 13) l4 c4 k4
  have D4 : Def K mg "is_book" (top 13) ["thing"] := def_mk F4 (PySem.W.mg_of X G a4) (F4.binds fun _ _ _ _ _ _ us hl => match us, hl with | [_], _ => rfl)
  have F5 := fun_mk (st := top 20) l5 c5 k5
  have D5 : Def K mg "sum_of" (top 20) ["text"] := def_mk F5 (PySem.W.mg_of X G a5) (F5.binds fun _ _ _ _ _ _ us hl => match us, hl with | [_], _ => rfl)
  have F6 := fun_mk (st := top 21) l6 c6 k6
  have D6 : Def K mg "rows_of" (top 21) ["save"] := def_mk F6 (PySem.W.mg_of X G a6) (F6.binds fun _ _ _ _ _ _ us hl => match us, hl with | [_], _ => rfl)
  have F7 := fun_mk (st := top 22) l7 c7 k7
  have D7 : Def K mg "text_of" (top 22) ["rows"] := def_mk F7 (PySem.W.mg_of X G a7) (F7.binds fun _ _ _ _ _ _ us hl => match us, hl with | [_], _ => rfl)
  have F8 := fun_mk (st := top 23) l8 c8 k8
  have D8 : Def K mg "written" (top 23) ["save"] := def_mk F8 (PySem.W.mg_of X G a8) (F8.binds fun _ _ _ _ _ _ us hl => match us, hl with | [_], _ => rfl)
  have F9 := fun_mk (st := top 24) l9 c9 k9
  have D9 : Def K mg "need" (top 24) ["good"] := def_mk F9 (PySem.W.mg_of X G a9) (F9.binds fun _ _ _ _ _ _ us hl => match us, hl with | [_], _ => rfl)
  have F10 := fun_mk (st := top 25) l10 c10 k10
  have D10 : Def K mg "number_in" (top 25) ["word"] := def_mk F10 (PySem.W.mg_of X G a10) (F10.binds fun _ _ _ _ _ _ us hl => match us, hl with | [_], _ => rfl)
  have F11 := fun_mk (st := top 26) l11 c11 k11
  have D11 : Def K mg "pair_in" (top 26) ["row"] := def_mk F11 (PySem.W.mg_of X G a11) (F11.binds fun _ _ _ _ _ _ us hl => match us, hl with | [_], _ => rfl)
  have F12 := fun_mk (st := top 27) l12 c12 k12
  have D12 : Def K mg "read" (top 27) ["text"] := def_mk F12 (PySem.W.mg_of X G a12) (F12.binds fun _ _ _ _ _ _ us hl => match us, hl with | [_], _ => rfl)
  have F13 := fun_mk (st := top 29) l13 c13 k13
  have D13 : Def K mg "_law_cell_at" (top 29) ["script", "k"] := def_mk F13 (PySem.W.mg_of X G a13) (F13.binds fun _ _ _ _ _ _ us hl => match us, hl with | [_, _], _ => rfl)
  have F14 := fun_mk (st := top 30) l14 c14 k14
  have D14 : Def K mg "_law_mixed" (top 30) ["script", "k"] := def_mk F14 (PySem.W.mg_of X G a14) (F14.binds fun _ _ _ _ _ _ us hl => match us, hl with | [_, _], _ => rfl)
  have F15 := fun_mk (st := top 31) l15 c15 k15
  have D15 : Def K mg "_law_drawn" (top 31) ["number", "k"] := def_mk F15 (PySem.W.mg_of X G a15) (F15.binds fun _ _ _ _ _ _ us hl => match us, hl with | [_, _], _ => rfl)
  have F16 := fun_mk (st := top 32) l16 c16 k16
  have D16 : Def K mg "_law_any" (top 32) ["number", "most"] := def_mk F16 (PySem.W.mg_of X G a16) (F16.binds fun _ _ _ _ _ _ us hl => match us, hl with | [_, _], _ => rfl)
  have F17 := fun_mk (st := top 33) l17 c17 k17
  have D17 : Def K mg "_law_swapped" (top 33) ["thing", "book"] := def_mk F17 (PySem.W.mg_of X G a17) (F17.binds fun _ _ _ _ _ _ us hl => match us, hl with | [_, _], _ => rfl)
  have F18 := fun_mk (st := top 34) l18 c18 k18
  have D18 : Def K mg "_law_book" (top 34) ["number"] := def_mk F18 (PySem.W.mg_of X G a18) (F18.binds fun _ _ _ _ _ _ us hl => match us, hl with | [_], _ => rfl)
  have F19 := fun_mk (st := top 38) l19 c19 k19
  have D19 : Def K mg "_law_sum" (top 38) ["text"] := def_mk F19 (PySem.W.mg_of X G a19) (F19.binds fun _ _ _ _ _ _ us hl => match us, hl with | [_], _ => rfl)
  have F20 := fun_mk (st := top 39) l20 c20 k20
  have D20 : Def K mg "_law_text" (top 39) ["save"] := def_mk F20 (PySem.W.mg_of X G a20) (F20.binds fun _ _ _ _ _ _ us hl => match us, hl with | [_], _ => rfl)
  have F21 := fun_mk (st := top 40) l21 c21 k21
  have D21 : Def K mg "_law_plain" (top 40) ["word", "low", "high"] := def_mk F21 (PySem.W.mg_of X G a21) (F21.binds fun _ _ _ _ _ _ us hl => match us, hl with | [_, _, _], _ => rfl)
  have F22 := fun_mk (st := top 41) l22 c22 k22
  have D22 : Def K mg "_law_read" (top 41) ["text"] := def_mk F22 (PySem.W.mg_of X G a22) (F22.binds fun _ _ _ _ _ _ us hl => match us, hl with | [_], _ => rfl)
  have F23 := fun_mk (st := top 42) l23 c23 k23
  have D23 : Def K mg "_law_told" (top 42) ["deed"] := def_mk F23 (PySem.W.mg_of X G a23) (F23.binds fun _ _ _ _ _ _ us hl => match us, hl with | [_], _ => rfl)
  have F24 := fun_mk (st := top 43) l24 c24 k24
  have D24 : Def K mg "_law_righted" (top 43) ["text"] := def_mk F24 (PySem.W.mg_of X G a24) (F24.binds fun _ _ _ _ _ _ us hl => match us, hl with | [_], _ => rfl)
  have F25 := fun_mk (st := top 44) l25 c25 k25
  have D25 : Def K mg "_law_changed" (top 44) ["text", "number"] := def_mk F25 (PySem.W.mg_of X G a25) (F25.binds fun _ _ _ _ _ _ us hl => match us, hl with | [_, _], _ => rfl)
  have F26 := fun_mk (st := top 45) l26 c26 k26
  have c_FACTOR := PySem.W.mg_of X G q_FACTOR
  have c_FIGURES := PySem.W.mg_of X G q_FIGURES
  have c_LAST := PySem.W.mg_of X G q_LAST
  have c_LETTERS := PySem.W.mg_of X G q_LETTERS
  have c_LONGEST := PySem.W.mg_of X G q_LONGEST
  have c_MOST_FIGURES := PySem.W.mg_of X G q_MOST_FIGURES
  have c_MOST_MAKE := PySem.W.mg_of X G q_MOST_MAKE
  have c_MOST_NUMBER := PySem.W.mg_of X G q_MOST_NUMBER
  have c_RING := PySem.W.mg_of X G q_RING
  have c_ROW_END := PySem.W.mg_of X G q_ROW_END
  have c_ROW_END_NUMBER := PySem.W.mg_of X G q_ROW_END_NUMBER
  have nS : NoS K mg CN := ⟨xN, PySem.W.mg_of X G gN, kN, bN, tN, exm_at bN iN tN sN⟩
  have z_ValueError := PySem.W.mg_none_of X G y_ValueError
  have z_all := PySem.W.mg_none_of X G y_all
  have z_bool := PySem.W.mg_none_of X G y_bool
  have z_dict := PySem.W.mg_none_of X G y_dict
  have z_enumerate := PySem.W.mg_none_of X G y_enumerate
  have z_int := PySem.W.mg_none_of X G y_int
  have z_isinstance := PySem.W.mg_none_of X G y_isinstance
  have z_len := PySem.W.mg_none_of X G y_len
  have z_ord := PySem.W.mg_none_of X G y_ord
  have z_range := PySem.W.mg_none_of X G y_range
  have z_sorted := PySem.W.mg_none_of X G y_sorted
  have z_str := PySem.W.mg_none_of X G y_str
  have z_tuple := PySem.W.mg_none_of X G y_tuple
  have z_zip := PySem.W.mg_none_of X G y_zip
  have tF : TldF K mg CN SE := ⟨nS.gP, PySem.W.mg_of X G gS, z_ValueError, z_isinstance, exm_at bS iS tS sS, ⟨e1, e2, bN, e3, e4, e5, e6, e7⟩, kit_VE vN⟩
  obtain ⟨cH, hT⟩ := PySem.W.tab_of TT X hrec (tabIn_of (P := TA) a26 l26 rfl lC vP)
  refine law_at (q := "law.<locals>.<lambda>") (fd := PySem.W.fnOf "law" "law" (defArgs (top 45)) (defBody (top 45)) (defScope (top 45)) .none kV26 dc26 pm26 an26 (.ref cA) ct26) hT (noTab X hT nK) cH (fun s v => .of_eq rfl) fun base _ _ TB => ?_
  have o_is_key := ok_is_key (P := l.prog) (w := w) (base := base) D1 c_LETTERS c_LONGEST z_all z_isinstance z_len z_str
  have o_is_whole := ok_is_whole (P := l.prog) (w := w) (base := base) D2 z_bool z_int z_isinstance
  have o_is_pair := ok_is_pair (P := l.prog) (w := w) (base := base) D3 c_RING z_isinstance z_len z_tuple o_is_key o_is_whole
  have o_is_book := ok_is_book (P := l.prog) (w := w) (base := base) D4 z_all z_isinstance z_tuple z_zip o_is_pair
  have o_sum_of := ok_sum_of (P := l.prog) (w := w) (base := base) D5 c_FACTOR c_LAST c_ROW_END c_ROW_END_NUMBER z_ord z_str
  have o_rows_of := ok_rows_of (P := l.prog) (w := w) (base := base) D6 z_len z_str
  have o_text_of := ok_text_of (P := l.prog) (w := w) (base := base) D7 c_ROW_END
  have o_written := ok_written (P := l.prog) (w := w) (base := base) D8 c_ROW_END o_rows_of o_sum_of o_text_of
  have o_need := ok_need (P := l.prog) (w := w) (base := base) D9 nS
  have o_number_in := ok_number_in (P := l.prog) (w := w) (base := base) D10 nS c_FIGURES c_MOST_FIGURES z_all z_int z_len o_need
  have o_pair_in := ok_pair_in (P := l.prog) (w := w) (base := base) D11 nS z_len o_need o_number_in
  have o_read := ok_read (P := l.prog) (w := w) (base := base) D12 nS c_MOST_MAKE c_MOST_NUMBER c_ROW_END z_isinstance z_len z_str z_tuple o_is_book o_is_whole o_written o_need o_number_in o_pair_in
  have o_law_cell_at := ok_law_cell_at (P := l.prog) (w := w) (base := base) D13 z_len
  have o_law_mixed := ok_law_mixed (P := l.prog) (w := w) (base := base) D14 o_law_cell_at
  have o_law_drawn := ok_law_drawn (P := l.prog) (w := w) (base := base) D15 
  have o_law_any := ok_law_any (P := l.prog) (w := w) (base := base) D16 z_range o_law_drawn
  have o_law_swapped := ok_law_swapped (P := l.prog) (w := w) (base := base) D17 z_isinstance z_str z_tuple 6
  have o_law_book := ok_law_book (P := l.prog) (w := w) (base := base) D18 z_enumerate o_law_drawn
  have o_law_sum := ok_law_sum (P := l.prog) (w := w) (base := base) D19 z_int z_len z_ord z_str
  have o_law_text := ok_law_text (P := l.prog) (w := w) (base := base) D20 z_len z_str o_law_sum
  have o_law_plain := ok_law_plain (P := l.prog) (w := w) (base := base) D21 z_int z_len z_str
  have o_law_read := ok_law_read (P := l.prog) (w := w) (base := base) D22 z_int z_len o_law_plain o_law_text
  have o_law_righted := ok_law_righted (P := l.prog) (w := w) (base := base) D24 z_len o_law_sum
  have o_law_changed := ok_law_changed (P := l.prog) (w := w) (base := base) D25 z_len
  exact ok_law F26 rfl TB D23 nS z_dict z_int z_range z_sorted z_tuple o_law_any o_law_book o_law_changed o_law_drawn o_law_mixed o_law_read o_law_righted o_law_sum o_law_swapped o_law_text o_sum_of o_written o_read tF (fun ns _ => law20 ns TA)
end Pu
set_option maxHeartbeats 0 in
theorem PySem.Challenge.cw_savehall_k20_saves_as_texts_holds : PySem.Challenge.rw_savehall_k20_saves_as_texts.Holds := by
  w_on; o_law; k_head; (case hw => w_witness2)
  k_fill
  refine Pu.walk_tt (l := PySem.Challenge.rw_savehall_k20_saves_as_texts) (n := 63) (k := 7) (x := "script") (CX := fun _ => L2.CX0) rfl (by decide) rfl ⟨rfl, by decide, by decide⟩ (fun w h Y => PySem.W.km_in_of Y) ?F (fun _ _ _ _ _ h => h)
  case F =>
    intro w mg mb fa h mean TT KX hmg
    refine' Pu.all_mk KX TT rfl hmg ?a1 ?l1 ?c1 ?k1 ?a2 ?l2 ?c2 ?k2 ?a3 ?l3 ?c3 ?k3 ?a4 ?l4 ?c4 ?k4 ?a5 ?l5 ?c5 ?k5 ?a6 ?l6 ?c6 ?k6 ?a7 ?l7 ?c7 ?k7 ?a8 ?l8 ?c8 ?k8 ?a9 ?l9 ?c9 ?k9 ?a10 ?l10 ?c10 ?k10 ?a11 ?l11 ?c11 ?k11 ?a12 ?l12 ?c12 ?k12 ?a13 ?l13 ?c13 ?k13 ?a14 ?l14 ?c14 ?k14 ?a15 ?l15 ?c15 ?k15 ?a16 ?l16 ?c16 ?k16 ?a17 ?l17 ?c17 ?k17 ?a18 ?l18 ?c18 ?k18 ?a19 ?l19 ?c19 ?k19 ?a20 ?l20 ?c20 ?k20 ?a21 ?l21 ?c21 ?k21 ?a22 ?l22 ?c22 ?k22 ?a23 ?l23 ?c23 ?k23 ?a24 ?l24 ?c24 ?k24 ?a25 ?l25 ?c25 ?k25 ?a26 ?l26 ?c26 ?k26 ?q_FACTOR ?q_FIGURES ?q_LAST ?q_LETTERS ?q_LONGEST ?q_MOST_FIGURES ?q_MOST_MAKE ?q_MOST_NUMBER ?q_RING ?q_ROW_END ?q_ROW_END_NUMBER ?y_ValueError ?y_all ?y_bool ?y_dict ?y_enumerate ?y_int ?y_isinstance ?y_len ?y_ord ?y_range ?y_sorted ?y_str ?y_tuple ?y_zip ?gN ?xN ?kN ?bN ?tN ?iN ?sN ?gS ?bS ?tS ?iS ?sS ?vN ?e1 ?e2 ?e3 ?e4 ?e5 ?e6 ?e7 ?lC ?vP ?nK
    (case a1 => k_is); (case l1 => k_is); (case c1 => k_is); (case k1 => k_is); (case a2 => k_is); (case l2 => k_is); (case c2 => k_is); (case k2 => k_is); (case a3 => k_is); (case l3 => k_is); (case c3 => k_is); (case k3 => k_is); (case a4 => k_is); (case l4 => k_is); (case c4 => k_is); (case k4 => k_is); (case a5 => k_is); (case l5 => k_is); (case c5 => k_is); (case k5 => k_is); (case a6 => k_is); (case l6 => k_is); (case c6 => k_is); (case k6 => k_is); (case a7 => k_is); (case l7 => k_is); (case c7 => k_is); (case k7 => k_is); (case a8 => k_is); (case l8 => k_is); (case c8 => k_is); (case k8 => k_is); (case a9 => k_is); (case l9 => k_is); (case c9 => k_is); (case k9 => k_is); (case a10 => k_is); (case l10 => k_is); (case c10 => k_is); (case k10 => k_is); (case a11 => k_is); (case l11 => k_is); (case c11 => k_is); (case k11 => k_is); (case a12 => k_is); (case l12 => k_is); (case c12 => k_is); (case k12 => k_is); (case a13 => k_is); (case l13 => k_is); (case c13 => k_is); (case k13 => k_is); (case a14 => k_is); (case l14 => k_is); (case c14 => k_is); (case k14 => k_is); (case a15 => k_is); (case l15 => k_is); (case c15 => k_is); (case k15 => k_is); (case a16 => k_is); (case l16 => k_is); (case c16 => k_is); (case k16 => k_is); (case a17 => k_is); (case l17 => k_is); (case c17 => k_is); (case k17 => k_is); (case a18 => k_is); (case l18 => k_is); (case c18 => k_is); (case k18 => k_is); (case a19 => k_is); (case l19 => k_is); (case c19 => k_is); (case k19 => k_is); (case a20 => k_is); (case l20 => k_is); (case c20 => k_is); (case k20 => k_is); (case a21 => k_is); (case l21 => k_is); (case c21 => k_is); (case k21 => k_is); (case a22 => k_is); (case l22 => k_is); (case c22 => k_is); (case k22 => k_is); (case a23 => k_is); (case l23 => k_is); (case c23 => k_is); (case k23 => k_is); (case a24 => k_is); (case l24 => k_is); (case c24 => k_is); (case k24 => k_is); (case a25 => k_is); (case l25 => k_is); (case c25 => k_is); (case k25 => k_is); (case a26 => k_is); (case l26 => k_is); (case c26 => k_is); (case k26 => k_is); (case q_FACTOR => k_is); (case q_FIGURES => k_is); (case q_LAST => k_is); (case q_LETTERS => k_is); (case q_LONGEST => k_is); (case q_MOST_FIGURES => k_is); (case q_MOST_MAKE => k_is); (case q_MOST_NUMBER => k_is); (case q_RING => k_is); (case q_ROW_END => k_is); (case q_ROW_END_NUMBER => k_is); (case y_ValueError => k_is); (case y_all => k_is); (case y_bool => k_is); (case y_dict => k_is); (case y_enumerate => k_is); (case y_int => k_is); (case y_isinstance => k_is); (case y_len => k_is); (case y_ord => k_is); (case y_range => k_is); (case y_sorted => k_is); (case y_str => k_is); (case y_tuple => k_is); (case y_zip => k_is); (case gN => k_is); (case xN => k_exc); (case kN => k_is); (case bN => k_is); (case tN => k_is); (case iN => k_is); (case sN => first | rfl | k_is); (case gS => k_is); (case bS => k_is); (case tS => k_is); (case iS => k_is); (case sS => k_is); (case vN => k_is); (case e1 => k_is); (case e2 => k_is); (case e3 => k_is); (case e4 => k_is); (case e5 => k_is); (case e6 => k_is); (case e7 => k_is); (case lC => k_is); (case vP => rfl); (case nK => kernel_rfl)


