import PyProof.Rows.All
import Wide.All
import OpenK.AllK
import Wide.FinOn
import PySem.Challenge.RW_fairanyprice_k55_whole_shares_and_loads
import HandS.ForMost
import HandS.IsInst
import HandS.Wide
import HandS.WideBits
import HandS.Zip
import HandS.Flow
import HandS.Style
section
set_option Elab.async false
set_option linter.all false
set_option maxRecDepth 100000
set_option maxHeartbeats 400000
namespace EV
open PySem PySem.Spec PyProof.Rows L2
/-- what the head has left: the script may be one of its lists -/
class KS where
  K : PySem.W.Frag
instance (priority := low) ksNone : KS := ⟨[]⟩
variable [KS]

abbrev AP := Addr → Prop

/- a value stands for data; nothing of it lies at a hidden address -/
def SqK (a : Addr) (xs : List V) : Prop := ∃ (o : Obj) (its : Array Value) (n : Nat), KS.K.lookup a = some o ∧ o.cls = .type "list" ∧ o.dict = none ∧ o.data = .seq its n ∧ its.size ≤ sizeLine ∧ Vals xs its.toList
mutual
inductive Rp (B : AP) (H : Hp) : V → PyData → Prop
  | non : Rp B H .non .none
  | bl (b : Bool) : Rp B H (.bl b) (.bool b)
  | int (i : Int) : Rp B H (.int i) (.int i)
  | str (x : Str) : Rp B H (.str x) (.str x)
  | lst {a : Addr} {xs : List V} {ds : List PyData} : H a = some (.lst xs) → ¬ B a → RpL B H xs ds → Rp B H (.ref a) (.list ds)
  | tup {a : Addr} {xs : List V} {ds : List PyData} : H a = some (.tup xs) → ¬ B a → RpL B H xs ds → Rp B H (.ref a) (.tuple ds)
  | scr {a : Addr} {o : Obj} {xs : List V} {ds : List PyData} : H a = some (.frz o (.lst xs)) → ¬ B a → RpL B H xs ds → Rp B H (.ref a) (.dict [(.list ds, .none)])
  | scrK {a : Addr} {xs : List V} {ds : List PyData} : SqK a xs → RpL B H xs ds → Rp B H (.ref a) (.dict [(.list ds, .none)])
inductive RpL (B : AP) (H : Hp) : List V → List PyData → Prop
  | nil : RpL B H [] []
  | cons {v : V} {vs : List V} {d : PyData} {ds : List PyData} : Rp B H v d → RpL B H vs ds → RpL B H (v :: vs) (d :: ds)
end

mutual
theorem Rp.to {B B' : AP} {H H' : Hp} (f : ∀ a o, H a = some o → ¬ B a → H' a = some o ∧ ¬ B' a) : ∀ {v : V} {d : PyData}, Rp B H v d → Rp B' H' v d
  | _, _, .non => .non
  | _, _, .bl b => .bl b
  | _, _, .int i => .int i
  | _, _, .str x => .str x
  | _, _, .lst h n r => .lst (f _ _ h n).1 (f _ _ h n).2 (RpL.to f r)
  | _, _, .tup h n r => .tup (f _ _ h n).1 (f _ _ h n).2 (RpL.to f r)
  | _, _, .scr h n r => .scr (f _ _ h n).1 (f _ _ h n).2 (RpL.to f r)
  | _, _, .scrK h r => .scrK h (RpL.to f r)
theorem RpL.to {B B' : AP} {H H' : Hp} (f : ∀ a o, H a = some o → ¬ B a → H' a = some o ∧ ¬ B' a) : ∀ {vs : List V} {ds : List PyData}, RpL B H vs ds → RpL B' H' vs ds
  | _, _, .nil => .nil
  | _, _, .cons h r => .cons (Rp.to f h) (RpL.to f r)
end
theorem RpL.length {B : AP} {H : Hp} : ∀ {vs : List V} {ds : List PyData}, RpL B H vs ds → vs.length = ds.length
  | _, _, .nil => rfl
  | _, _, .cons _ r => congrArg (· + 1) (RpL.length r)
theorem RpL.get {B : AP} {H : Hp} : ∀ {vs : List V} {ds : List PyData} {i : Nat} {d : PyData}, RpL B H vs ds → ds[i]? = some d → ∃ v, vs[i]? = some v ∧ Rp B H v d
  | _, _, _, _, .nil, e => by simp at e
  | _, _, 0, _, .cons r _, e => by simp at e; subst e; exact ⟨_, rfl, r⟩
  | _, _, i + 1, d, .cons _ t, e => by
    obtain ⟨u, h1, h2⟩ := RpL.get (i := i) (d := d) t (by simpa using e)
    exact ⟨u, by simpa using h1, h2⟩
theorem RpL.append {B : AP} {H : Hp} : ∀ {vs ws : List V} {ds es : List PyData}, RpL B H vs ds → RpL B H ws es → RpL B H (vs ++ ws) (ds ++ es)
  | _, _, _, _, .nil, s => s
  | _, _, _, _, .cons r t, s => .cons r (RpL.append t s)
theorem RpL.take {B : AP} {H : Hp} : ∀ {vs : List V} {ds : List PyData} (n : Nat), RpL B H vs ds → RpL B H (vs.take n) (ds.take n)
  | _, _, 0, _ => .nil
  | _, _, _ + 1, .nil => .nil
  | _, _, n + 1, .cons r t => .cons r (RpL.take n t)
theorem RpL.drop {B : AP} {H : Hp} : ∀ {vs : List V} {ds : List PyData} (n : Nat), RpL B H vs ds → RpL B H (vs.drop n) (ds.drop n)
  | _, _, 0, r => r
  | _, _, _ + 1, .nil => .nil
  | _, _, n + 1, .cons _ t => RpL.drop n t
theorem RpL.reverse {B : AP} {H : Hp} : ∀ {vs : List V} {ds : List PyData}, RpL B H vs ds → RpL B H vs.reverse ds.reverse
  | _, _, .nil => .nil
  | _, _, .cons r t => by
    rw [List.reverse_cons, List.reverse_cons]
    exact (RpL.reverse t).append (.cons r .nil)
theorem RpL.set {B : AP} {H : Hp} {x : V} {d : PyData} (r : Rp B H x d) : ∀ {vs : List V} {ds : List PyData} (i : Nat), RpL B H vs ds → RpL B H (vs.set i x) (ds.set i d)
  | _, _, _, .nil => .nil
  | _, _, 0, .cons _ t => .cons r t
  | _, _, i + 1, .cons q t => .cons q (RpL.set r i t)
theorem RpL.rep {B : AP} {H : Hp} {vs : List V} {ds : List PyData} (h : RpL B H vs ds) : ∀ k : Nat, RpL B H (List.replicate k vs).flatten (List.replicate k ds).flatten
  | 0 => .nil
  | k + 1 => by
    rw [List.replicate_succ, List.replicate_succ, List.flatten_cons, List.flatten_cons]
    exact h.append (RpL.rep h k)
/- ints -/
theorem RpL.ints {B : AP} {H : Hp} : ∀ {ns : List Int} {vs : List V}, RpL B H vs (ns.map PyData.int) → vs = ns.map V.int
  | [], _, .nil => rfl
  | n :: ns, _, .cons r t => by
    cases r
    rw [List.map_cons, RpL.ints t]
mutual
def nd : PyData → Bool
  | .dict _ => false
  | .list ds => ndL ds
  | .tuple ds => ndL ds
  | _ => true
def ndL : List PyData → Bool
  | [] => true
  | d :: ds => nd d && ndL ds
end
mutual
theorem Rp.dp {K : PySem.W.Frag} {B : AP} {H : Hp} : ∀ {v : V} {d : PyData}, nd d = true → Rp B H v d → Dp K H v d
  | _, _, _, .non => .non
  | _, _, _, .bl b => .bl b
  | _, _, _, .int i => .int i
  | _, _, _, .str x => .str x
  | _, _, h0, .lst h _ r => .lst (.inl (.inl h)) (RpL.dp (by unfold nd at h0; exact h0) r)
  | _, _, h0, .tup h _ r => .tup (.inl (.inl h)) (RpL.dp (by unfold nd at h0; exact h0) r)
  | _, _, h0, .scr _ _ _ => by
    unfold nd at h0
    cases h0
  | _, _, h0, .scrK _ _ => by
    unfold nd at h0
    cases h0
theorem RpL.dp {K : PySem.W.Frag} {B : AP} {H : Hp} : ∀ {vs : List V} {ds : List PyData}, ndL ds = true → RpL B H vs ds → DpAll K H vs ds
  | _, _, _, .nil => .nil
  | _, _, h0, .cons h r => .cons (Rp.dp (by unfold ndL at h0; exact (Bool.and_eq_true_iff.mp h0).1) h) (RpL.dp (by unfold ndL at h0; exact (Bool.and_eq_true_iff.mp h0).2) r)
end

/-! ### slots -/
inductive Sl where
  | no
  | d (x : PyData)
  | own (xs : List PyData)
abbrev Rho := List Sl
def ownQ : Sl → Bool
  | .own _ => true
  | _ => false
def OwnAt (σ : L2.St) (ρ : Rho) (i : Nat) (a : Addr) : Prop := (ρ.map ownQ)[i]? = some true ∧ σ[i]? = some (some (.ref a))
def Oof (σ : L2.St) (ρ : Rho) : AP := fun a => ∃ i, OwnAt σ ρ i a
def Bof (F : AP) (σ : L2.St) (ρ : Rho) : AP := fun a => F a ∨ Oof σ ρ a
def SameOwn (ρ ρ' : Rho) : Prop := ρ.map ownQ = ρ'.map ownQ
theorem SameOwn.len {ρ ρ' : Rho} (h : SameOwn ρ ρ') : ρ.length = ρ'.length := by
  have := congrArg List.length h
  simpa using this
theorem SameOwn.oof {ρ ρ' : Rho} (h : SameOwn ρ ρ') (σ : L2.St) : Oof σ ρ = Oof σ ρ' := by
  unfold Oof OwnAt
  rw [show ρ.map ownQ = ρ'.map ownQ from h]
theorem SameOwn.bof {ρ ρ' : Rho} (h : SameOwn ρ ρ') (F : AP) (σ : L2.St) : Bof F σ ρ = Bof F σ ρ' := by
  unfold Bof
  rw [h.oof]
theorem own_get {ρ : Rho} {i : Nat} : (ρ.map ownQ)[i]? = some true ↔ ∃ ds, ρ[i]? = some (.own ds) := by
  rw [List.getElem?_map]
  cases h : ρ[i]? with
  | none => simp
  | some s => cases s <;> simp [ownQ]

structure Env (F : AP) (H : Hp) (σ : L2.St) (ρ : Rho) : Prop where
  len : σ.length = ρ.length
  fr : ∀ a, F a → H a ≠ none
  dat : ∀ (i : Nat) d, ρ[i]? = some (.d d) → ∃ v, σ[i]? = some (some v) ∧ Rp (Bof F σ ρ) H v d
  own : ∀ (i : Nat) ds, ρ[i]? = some (.own ds) → ∃ a vs, σ[i]? = some (some (.ref a)) ∧ ¬ F a ∧ H a = some (.lst vs) ∧ RpL (Bof F σ ρ) H vs ds
  sep : ∀ i j a, OwnAt σ ρ i a → OwnAt σ ρ j a → i = j
def Stp (O : AP) (H H' : Hp) : Prop := ∀ a o, H a = some o → ¬ O a → H' a = some o
theorem Stp.refl {O : AP} {H : Hp} : Stp O H H := fun _ _ h _ => h
theorem Stp.trans {O : AP} {H H1 H2 : Hp} (h : Stp O H H1) (h' : Stp O H1 H2) : Stp O H H2 := fun a o e n => h' a o (h a o e n) n
theorem Stp.same {O : AP} {H H' : Hp} (h : Same H H') : Stp O H H' := fun a o e _ => h a o e
section
variable {F : AP} {H H' : Hp} {σ : L2.St} {ρ ρ' : Rho} {a : Addr}
theorem Env.bH (E : Env F H σ ρ) (h : Bof F σ ρ a) : H a ≠ none := by
  rcases h with h | ⟨i, h1, h2⟩
  · exact E.fr a h
  · obtain ⟨ds, h1⟩ := own_get.mp h1
    obtain ⟨a', vs, e, _, hH, _⟩ := E.own i ds h1
    rw [h2] at e
    cases e
    rw [hH]
    exact fun z => nomatch z
theorem Env.fresh (E : Env F H σ ρ) (h : H a = none) : ¬ Bof F σ ρ a := fun z => E.bH z h
theorem Rp.stp {v : V} {d : PyData} {O : AP} (h : Rp (Bof F σ ρ) H v d) (s : Stp O H H') (ho : ∀ a, O a → Bof F σ ρ a) : Rp (Bof F σ ρ) H' v d :=
  h.to fun a o e n => ⟨s a o e fun z => n (ho a z), n⟩
theorem RpL.stp {vs : List V} {ds : List PyData} {O : AP} (h : RpL (Bof F σ ρ) H vs ds) (s : Stp O H H') (ho : ∀ a, O a → Bof F σ ρ a) : RpL (Bof F σ ρ) H' vs ds :=
  h.to fun a o e n => ⟨s a o e fun z => n (ho a z), n⟩
theorem oof_bof : ∀ a, Oof σ ρ a → Bof F σ ρ a := fun _ h => .inr h
/-- nothing of what is there changes -/
theorem Env.same (E : Env F H σ ρ) (s : Same H H') : Env F H' σ ρ where
  len := E.len
  fr := fun a h z => by
    cases e : H a with
    | none => exact E.fr a h e
    | some o =>
      rw [s a o e] at z
      cases z
  dat := fun i d h => by
    obtain ⟨v, e, r⟩ := E.dat i d h
    exact ⟨v, e, r.to fun a o q n => ⟨s a o q, n⟩⟩
  own := fun i ds h => by
    obtain ⟨a, vs, e, n, q, r⟩ := E.own i ds h
    exact ⟨a, vs, e, n, s _ _ q, r.to fun a o q n => ⟨s a o q, n⟩⟩
  sep := E.sep
theorem same_upd {o : HO} (h : H a = none) : Same H (upd H a o) := fun b x e => by
  rw [upd_ne (ne_of_none e h)]
  exact e
/-- one more hidden address, a new one -/
theorem Env.hide {o : HO} (E : Env F H σ ρ) (h : H a = none) : Env (fun b => F b ∨ b = a) (upd H a o) σ ρ where
  len := E.len
  fr := fun b hb z => by
    by_cases e : b = a
    · subst e
      rw [upd_same] at z
      cases z
    · rw [upd_ne e] at z
      rcases hb with hb | hb
      · exact E.fr b hb z
      · exact e hb
  dat := fun i d hd => by
    obtain ⟨v, e, r⟩ := E.dat i d hd
    refine ⟨v, e, r.to fun b o q n => ⟨same_upd h b o q, ?_⟩⟩
    rintro ((z | z) | z)
    · exact n (.inl z)
    · subst z
      rw [h] at q
      cases q
    · exact n (.inr z)
  own := fun i ds hd => by
    obtain ⟨b, vs, e, n, q, r⟩ := E.own i ds hd
    refine ⟨b, vs, e, ?_, same_upd h b _ q, r.to fun b o q n => ⟨same_upd h b o q, ?_⟩⟩
    · rintro (z | z)
      · exact n z
      · subst z
        rw [h] at q
        cases q
    · rintro ((z | z) | z)
      · exact n (.inl z)
      · subst z
        rw [h] at q
        cases q
      · exact n (.inr z)
  sep := E.sep
theorem Env.unhide (E : Env (fun b => F b ∨ b = a) H σ ρ) : Env F H σ ρ where
  len := E.len
  fr := fun b hb => E.fr b (.inl hb)
  dat := fun i d hd => by
    obtain ⟨v, e, r⟩ := E.dat i d hd
    exact ⟨v, e, r.to fun b o q n => ⟨q, fun z => n (z.elim (fun z => .inl (.inl z)) .inr)⟩⟩
  own := fun i ds hd => by
    obtain ⟨b, vs, e, n, q, r⟩ := E.own i ds hd
    exact ⟨b, vs, e, fun z => n (.inl z), q, r.to fun b o q n => ⟨q, fun z => n (z.elim (fun z => .inl (.inl z)) .inr)⟩⟩
  sep := E.sep
end

/-! ### what an expression gives -/
def Ev (t : TE) (ρ : Rho) (d : PyData) (ρ' : Rho) : Prop :=
  SameOwn ρ ρ' ∧ ∀ (F : AP) (σ : L2.St) (H : Hp) (Q : VK), Env F H σ ρ →
    (∀ v H', Stp (Oof σ ρ) H H' → Env F H' σ ρ' → Rp (Bof F σ ρ) H' v d → Q v H') → t σ H Q
/-- several -/
def EvA (t : TA) (ρ : Rho) (ds : List PyData) (ρ' : Rho) : Prop :=
  SameOwn ρ ρ' ∧ ∀ (F : AP) (σ : L2.St) (H : Hp) (Q : List V → Hp → Prop), Env F H σ ρ →
    (∀ vs H', Stp (Oof σ ρ) H H' → Env F H' σ ρ' → RpL (Bof F σ ρ) H' vs ds → Q vs H') → t σ H Q
/-- a test -/
def EvT (t : TT) (ρ : Rho) (b : Bool) (ρ' : Rho) : Prop :=
  SameOwn ρ ρ' ∧ ∀ (F : AP) (σ : L2.St) (H : Hp) (Q : Bool → Hp → Prop), Env F H σ ρ →
    (∀ H', Stp (Oof σ ρ) H H' → Env F H' σ ρ' → Q b H') → t σ H Q
/-- a sequence that can be read: a tuple (true) or a list (false) -/
def seqO (tp : Bool) (vs : List V) : HO := if tp then .tup vs else .lst vs
def EvR (t : TE) (ρ : Rho) (tp : Bool) (ds : List PyData) (ρ' : Rho) : Prop :=
  SameOwn ρ ρ' ∧ ∀ (F : AP) (σ : L2.St) (H : Hp) (Q : VK), Env F H σ ρ →
    (∀ a vs H', Stp (Oof σ ρ) H H' → Env F H' σ ρ' → Rd H' a (seqO tp vs) → RpL (Bof F σ ρ) H' vs ds → Q (.ref a) H') → t σ H Q
/-- a new list, hidden so far -/
def EvF (t : TE) (ρ : Rho) (ds : List PyData) (ρ' : Rho) : Prop :=
  SameOwn ρ ρ' ∧ ∀ (F : AP) (σ : L2.St) (H : Hp) (Q : VK), Env F H σ ρ →
    (∀ a vs H', H a = none → Stp (Oof σ ρ) H H' → Env (fun b => F b ∨ b = a) H' σ ρ' → H' a = some (.lst vs) → RpL (Bof (fun b => F b ∨ b = a) σ ρ) H' vs ds → Q (.ref a) H') → t σ H Q

theorem SameOwn.refl (ρ : Rho) : SameOwn ρ ρ := rfl
theorem SameOwn.trans {a b c : Rho} (h : SameOwn a b) (h' : SameOwn b c) : SameOwn a c := Eq.trans h h'

section
variable {t ta tb : TE} {tA : TA} {tt : TT} {ρ ρ1 ρ2 : Rho} {d e : PyData} {ds es : List PyData}
theorem EvF.ev (h : EvF t ρ ds ρ1) : Ev t ρ (.list ds) ρ1 := by
  refine ⟨h.1, fun F σ H Q E q => h.2 F σ H Q E fun a vs H' na s E' hH r => ?_⟩
  refine q _ H' s E'.unhide (.lst hH ?_ (r.to fun b o q n => ⟨q, fun z => n (z.elim (fun z => .inl (.inl z)) .inr)⟩))
  exact E.fresh na
theorem Ev.rl (h : Ev t ρ (.list ds) ρ1) : EvR t ρ false ds ρ1 := by
  refine ⟨h.1, fun F σ H Q E q => h.2 F σ H Q E fun v H' s E' r => ?_⟩
  cases r with
  | lst h _ r => exact q _ _ H' s E' (.inl h) r
theorem Ev.rt (h : Ev t ρ (.tuple ds) ρ1) : EvR t ρ true ds ρ1 := by
  refine ⟨h.1, fun F σ H Q E q => h.2 F σ H Q E fun v H' s E' r => ?_⟩
  cases r with
  | tup h _ r => exact q _ _ H' s E' (.inl h) r
theorem ev_var {i : Nat} (h : ρ[i]? = some (.d d)) : Ev (tVar i) ρ d ρ := by
  refine ⟨rfl, fun F σ H Q E q => ?_⟩
  obtain ⟨v, e, r⟩ := E.dat i d h
  exact ⟨v, e, q v H .refl E r⟩
theorem er_own {i : Nat} (h : ρ[i]? = some (.own ds)) : EvR (tVar i) ρ false ds ρ := by
  refine ⟨rfl, fun F σ H Q E q => ?_⟩
  obtain ⟨a, vs, e, n, hH, r⟩ := E.own i ds h
  exact ⟨_, e, q a vs H .refl E (.inl hH) r⟩
theorem ev_int {i : Int} : Ev (tC (.int i)) ρ (.int i) ρ := ⟨rfl, fun F σ H Q E q => q _ H .refl E (.int i)⟩
theorem ev_bl {b : Bool} : Ev (tC (.bl b)) ρ (.bool b) ρ := ⟨rfl, fun F σ H Q E q => q _ H .refl E (.bl b)⟩
theorem ev_non : Ev (tC .non) ρ .none ρ := ⟨rfl, fun F σ H Q E q => q _ H .refl E .non⟩
theorem ev_str {x : Str} : Ev (tC (.str x)) ρ (.str x) ρ := ⟨rfl, fun F σ H Q E q => q _ H .refl E (.str x)⟩
theorem ea_nil : EvA tNil ρ [] ρ := ⟨rfl, fun F σ H Q E q => q _ H .refl E .nil⟩
theorem ea_cons (h : Ev t ρ d ρ1) (h2 : EvA tA ρ1 ds ρ2) : EvA (tCons t tA) ρ (d :: ds) ρ2 := by
  refine ⟨h.1.trans h2.1, fun F σ H Q E q => h.2 F σ H _ E fun v H1 s1 E1 r1 => h2.2 F σ H1 _ E1 fun vs H2 s2 E2 r2 => ?_⟩
  rw [← h.1.oof σ] at s2
  rw [← h.1.bof F σ] at r2
  exact q _ H2 (s1.trans s2) E2 (.cons (r1.stp s2 oof_bof) r2)
/-- two in a row -/
theorem ev2 (h : Ev ta ρ d ρ1) (h2 : Ev tb ρ1 e ρ2) {F : AP} {σ : L2.St} {H : Hp} {R : V → V → Hp → Prop} (E : Env F H σ ρ)
    (q : ∀ v w H', Stp (Oof σ ρ) H H' → Env F H' σ ρ2 → Rp (Bof F σ ρ) H' v d → Rp (Bof F σ ρ) H' w e → R v w H') : ta σ H fun v H1 => tb σ H1 fun w H2 => R v w H2 := by
  refine h.2 F σ H _ E fun v H1 s1 E1 r1 => h2.2 F σ H1 _ E1 fun w H2 s2 E2 r2 => ?_
  rw [← h.1.oof σ] at s2
  rw [← h.1.bof F σ] at r2
  exact q _ _ H2 (s1.trans s2) E2 (r1.stp s2 oof_bof) r2
end

/-! ### operators -/
section
variable {t ta tb tc : TE} {tA : TA} {tt tu : TT} {ρ ρ1 ρ2 ρ3 : Rho} {d e : PyData} {ds es : List PyData} {b c : Bool}
theorem ev_op0 {g : Int → Int → Int} {i j : Int} (h : Ev ta ρ (.int i) ρ1) (h2 : Ev tb ρ1 (.int j) ρ2) : Ev (tOp (rI0 fun i j => .int (g i j)) ta tb) ρ (.int (g i j)) ρ2 := by
  refine ⟨h.1.trans h2.1, fun F σ H Q E q => ev2 h h2 E fun v w H' s E' rv rw' => ?_⟩
  cases rv
  cases rw'
  exact ⟨i, j, rfl, rfl, q _ H' s E' (.int _)⟩
theorem ev_op0b {g : Int → Int → Bool} {i j : Int} (h : Ev ta ρ (.int i) ρ1) (h2 : Ev tb ρ1 (.int j) ρ2) : Ev (tOp (rI0 fun i j => .bl (g i j)) ta tb) ρ (.bool (g i j)) ρ2 := by
  refine ⟨h.1.trans h2.1, fun F σ H Q E q => ev2 h h2 E fun v w H' s E' rv rw' => ?_⟩
  cases rv
  cases rw'
  exact ⟨i, j, rfl, rfl, q _ H' s E' (.bl _)⟩
theorem ev_opC {C : Int → Int → Prop} {g : Int → Int → Int} {i j : Int} (h : Ev ta ρ (.int i) ρ1) (h2 : Ev tb ρ1 (.int j) ρ2) (hc : C i j) : Ev (tOp (rI C fun i j => .int (g i j)) ta tb) ρ (.int (g i j)) ρ2 := by
  refine ⟨h.1.trans h2.1, fun F σ H Q E q => ev2 h h2 E fun v w H' s E' rv rw' => ?_⟩
  cases rv
  cases rw'
  exact ⟨i, j, rfl, rfl, hc, q _ H' s E' (.int _)⟩
theorem ev_orL {r r' : R2} (h : Ev (tOp r ta tb) ρ d ρ1) (m : ∀ x y H Q, r x y H Q → r' x y H Q) (mb : ∀ σ H Q Q', (∀ v H', Q v H' → Q' v H') → tb σ H Q → tb σ H Q') (ma : ∀ σ H Q Q', (∀ v H', Q v H' → Q' v H') → ta σ H Q → ta σ H Q') : Ev (tOp r' ta tb) ρ d ρ1 := by
  refine ⟨h.1, fun F σ H Q E q => ?_⟩
  exact ma _ _ _ _ (fun v H' hb => mb _ _ _ _ (fun w H2 hr => m _ _ _ _ hr) hb) (h.2 F σ H Q E q)
/-- by what an operator does with the two values -/
theorem ev_opR {r : R2} {x : PyData} (h : Ev ta ρ d ρ1) (h2 : Ev tb ρ1 e ρ2)
    (hr : ∀ (B : AP) v w H Q, Rp B H v d → Rp B H w e → (∀ p, H p = none → ¬ B p) → (∀ u H', Same H H' → Rp B H' u x → Q u H') → r v w H Q) : Ev (tOp r ta tb) ρ x ρ2 := by
  refine ⟨h.1.trans h2.1, fun F σ H Q E q => ev2 h h2 E fun v w H' s E' rv rw' => ?_⟩
  have hb : Bof F σ ρ = Bof F σ ρ2 := (h.1.trans h2.1).bof F σ
  refine hr (Bof F σ ρ) v w H' Q rv rw' (fun p np => by rw [hb]; exact E'.fresh np) fun u H2 sm ru => q u H2 (s.trans (.same sm)) (E'.same sm) ru
theorem ev_opF {r : R2} (h : Ev ta ρ d ρ1) (h2 : Ev tb ρ1 e ρ2)
    (hr : ∀ (B : AP) v w H Q, Rp B H v d → Rp B H w e → (∀ p, H p = none → ¬ B p) → (∀ p vs, H p = none → RpL B H vs ds → Q (.ref p) (upd H p (.lst vs))) → r v w H Q) : EvF (tOp r ta tb) ρ ds ρ2 := by
  refine ⟨h.1.trans h2.1, fun F σ H Q E q => ev2 h h2 E fun v w H' s E' rv rw' => ?_⟩
  have hb : Bof F σ ρ = Bof F σ ρ2 := (h.1.trans h2.1).bof F σ
  refine hr (Bof F σ ρ) v w H' Q rv rw' (fun p np => by rw [hb]; exact E'.fresh np) fun p vs np r => q p vs _ ?_ (s.trans (.same (same_upd np))) (E'.hide np) upd_same (r.to fun b o q n => ⟨same_upd np b o q, ?_⟩)
  · cases e : H p with
    | none => rfl
    | some o =>
      by_cases hO : Oof σ ρ p
      · exact absurd np (E'.bH (hb ▸ Or.inr hO))
      · rw [s p o e hO] at np
        cases np
  · rintro ((z | z) | z)
    · exact n (.inl z)
    · subst z
      rw [np] at q
      cases q
    · exact n (.inr z)
/-! unions of operators' rules -/
def rAddU (K : PySem.W.Frag) : R2 := fun x y H Q => rI0 (fun i j => .int (i + j)) x y H Q ∨ rCat x y H Q ∨ rCatT K x y H Q
theorem op_addU {X : Cx} : OpR X (binaryOp .Add) (rAddU X.K) := op_add.or (op_cat.or op_catT)
def rMulU : R2 := fun x y H Q => rI CMulX (fun i j => .int (i * j)) x y H Q ∨ rRep x y H Q
theorem op_mulU {X : Cx} : OpR X (binaryOp .Mult) rMulU := op_mulX.or op_rep
def rEqU (K : PySem.W.Frag) : R2 := fun x y H Q => rEq x y H Q ∨ rEqD K x y H Q
theorem op_eqU {X : Cx} (hu : X.A.units + 64 < cLine) : OpR X (compareOp .Eq) (rEqU X.K) := op_eq.or (op_eqD hu)
def rNeU (K : PySem.W.Frag) : R2 := fun x y H Q => rNe x y H Q ∨ rNeD K x y H Q
theorem op_neU {X : Cx} (hu : X.A.units + 64 < cLine) : OpR X (compareOp .NotEq) (rNeU X.K) := op_ne.or (op_neD hu)

theorem ev_add {K : PySem.W.Frag} {i j : Int} (h : Ev ta ρ (.int i) ρ1) (h2 : Ev tb ρ1 (.int j) ρ2) : Ev (tOp (rAddU K) ta tb) ρ (.int (i + j)) ρ2 :=
  ev_opR h h2 fun B v w H Q rv rw' _ q => by
    cases rv
    cases rw'
    exact .inl ⟨i, j, rfl, rfl, q _ H (Same.refl H) (.int _)⟩
theorem ev_mul {i j : Int} (h : Ev ta ρ (.int i) ρ1) (h2 : Ev tb ρ1 (.int j) ρ2) (hc : CMulX i j) : Ev (tOp rMulU ta tb) ρ (.int (i * j)) ρ2 :=
  ev_opR h h2 fun B v w H Q rv rw' _ q => by
    cases rv
    cases rw'
    exact .inl ⟨i, j, rfl, rfl, hc, q _ H (Same.refl H) (.int _)⟩
theorem scal_i (i j : Int) : scal (.int i) (.int j) = true := rfl
theorem ev_eqi {K : PySem.W.Frag} {i j : Int} (h : Ev ta ρ (.int i) ρ1) (h2 : Ev tb ρ1 (.int j) ρ2) : Ev (tOp (rEqU K) ta tb) ρ (.bool (decide (i = j))) ρ2 :=
  ev_opR h h2 fun B v w H Q rv rw' _ q => by
    cases rv
    cases rw'
    refine .inl ⟨rfl, ?_⟩
    rw [dec_int, Bool.beq_eq_decide_eq]
    exact q _ H (Same.refl H) (.bl _)
theorem ev_nei {K : PySem.W.Frag} {i j : Int} (h : Ev ta ρ (.int i) ρ1) (h2 : Ev tb ρ1 (.int j) ρ2) : Ev (tOp (rNeU K) ta tb) ρ (.bool (!decide (i = j))) ρ2 :=
  ev_opR h h2 fun B v w H Q rv rw' _ q => by
    cases rv
    cases rw'
    refine .inl ⟨rfl, ?_⟩
    rw [dec_int, Bool.beq_eq_decide_eq]
    exact q _ H (Same.refl H) (.bl _)
theorem ev_eqb {K : PySem.W.Frag} {i j : Bool} (h : Ev ta ρ (.bool i) ρ1) (h2 : Ev tb ρ1 (.bool j) ρ2) : Ev (tOp (rEqU K) ta tb) ρ (.bool (i == j)) ρ2 :=
  ev_opR h h2 fun B v w H Q rv rw' _ q => by
    cases rv
    cases rw'
    refine .inl ⟨rfl, ?_⟩
    rw [dec_bl]
    exact q _ H (Same.refl H) (.bl _)
theorem ev_eqs {K : PySem.W.Frag} {i j : Str} (h : Ev ta ρ (.str i) ρ1) (h2 : Ev tb ρ1 (.str j) ρ2) : Ev (tOp (rEqU K) ta tb) ρ (.bool (i == j)) ρ2 :=
  ev_opR h h2 fun B v w H Q rv rw' _ q => by
    cases rv
    cases rw'
    refine .inl ⟨rfl, ?_⟩
    rw [dec_str]
    exact q _ H (Same.refl H) (.bl _)
theorem ev_nes {K : PySem.W.Frag} {i j : Str} (h : Ev ta ρ (.str i) ρ1) (h2 : Ev tb ρ1 (.str j) ρ2) : Ev (tOp (rNeU K) ta tb) ρ (.bool (!(i == j))) ρ2 :=
  ev_opR h h2 fun B v w H Q rv rw' _ q => by
    cases rv
    cases rw'
    refine .inl ⟨rfl, ?_⟩
    rw [dec_str]
    exact q _ H (Same.refl H) (.bl _)
theorem ev_eqd {K : PySem.W.Frag} (h : Ev ta ρ d ρ1) (h2 : Ev tb ρ1 e ρ2) (s1 : SeqAt.shaped d = true) (s2 : SeqAt.shaped e = true) (n1 : nd d = true) (n2 : nd e = true) : Ev (tOp (rEqU K) ta tb) ρ (.bool (PyData.eqv d e)) ρ2 :=
  ev_opR h h2 fun B v w H Q rv rw' _ q => .inr ⟨d, e, rv.dp n1, rw'.dp n2, s1, s2, q _ H (Same.refl H) (.bl _)⟩
theorem ev_ned {K : PySem.W.Frag} (h : Ev ta ρ d ρ1) (h2 : Ev tb ρ1 e ρ2) (s1 : SeqAt.shaped d = true) (s2 : SeqAt.shaped e = true) (n1 : nd d = true) (n2 : nd e = true) : Ev (tOp (rNeU K) ta tb) ρ (.bool (!PyData.eqv d e)) ρ2 :=
  ev_opR h h2 fun B v w H Q rv rw' _ q => .inr ⟨d, e, rv.dp n1, rw'.dp n2, s1, s2, q _ H (Same.refl H) (.bl _)⟩
theorem RpL.zl {B : AP} {H : Hp} {vs : List V} (h : RpL B H vs ds) (n : Nat) (hl : ds.length ≤ n) : vs.length ≤ n := by rw [h.length]; exact hl
/-- list + list -/
theorem ef_cat {K : PySem.W.Frag} (h : Ev ta ρ (.list ds) ρ1) (h2 : Ev tb ρ1 (.list es) ρ2) (hl : ds.length + es.length ≤ sizeLine) : EvF (tOp (rAddU K) ta tb) ρ (ds ++ es) ρ2 :=
  ev_opF h h2 fun B v w H Q rv rw' _ q => by
    cases rv with
    | lst ha na r1 => 
      cases rw' with
      | lst hb nb r2 => exact .inr (.inl ⟨_, _, _, _, rfl, rfl, ha, hb, by rw [r1.length, r2.length]; exact hl, fun p np => q p _ np (r1.append r2)⟩)
/-- list * number -/
theorem ef_rep {k : Int} (h : Ev ta ρ (.list ds) ρ1) (h2 : Ev tb ρ1 (.int k) ρ2) (hk : -(2 ^ 63) ≤ k ∧ k < 2 ^ 63) (hl : ds.length * k.toNat ≤ sizeLine) : EvF (tOp rMulU ta tb) ρ (List.replicate k.toNat ds).flatten ρ2 :=
  ev_opF h h2 fun B v w H Q rv rw' _ q => by
    cases rv with
    | lst ha na r1 =>
      cases rw'
      exact .inr ⟨_, _, _, rfl, rfl, ha, hk.1, hk.2, by rw [r1.length]; exact hl, fun p np => q p _ np (r1.rep _)⟩
/-- tuple + tuple -/
theorem ev_catT {K : PySem.W.Frag} (h : Ev ta ρ (.tuple ds) ρ1) (h2 : Ev tb ρ1 (.tuple es) ρ2) (h0 : ds ≠ []) (hl : ds.length + es.length ≤ sizeLine) : Ev (tOp (rAddU K) ta tb) ρ (.tuple (ds ++ es)) ρ2 :=
  ev_opR h h2 fun B v w H Q rv rw' fr q => by
    cases rv with
    | tup ha na r1 =>
      cases rw' with
      | tup hb nb r2 =>
        refine .inr (.inr ⟨_, _, _, _, rfl, rfl, .of ha, .of hb, fun z => h0 ?_, by rw [r1.length, r2.length]; exact hl, fun z => ?_, fun z p np => ?_⟩)
        · subst z
          cases r1
          rfl
        · subst z
          cases r2
          refine q _ H (Same.refl H) ?_
          rw [List.append_nil]
          exact .tup ha na r1
        · exact q _ _ (same_upd np) (.tup upd_same (fr p np) ((r1.append r2).to fun b o q n => ⟨same_upd np b o q, n⟩))
/-! indexing -/
theorem atI_rp {B : AP} {H : Hp} {vs : List V} (r : RpL B H vs ds) {i : Int} (h : atI ds i = some d) : ∃ v, atI vs i = some v ∧ Rp B H v d := by
  unfold atI at h ⊢
  rw [r.length]
  cases e : ixN ds.length i with
  | none => rw [e] at h; cases h
  | some j =>
    rw [e] at h
    exact r.get h
theorem ev_ixL {K : PySem.W.Frag} {i : Int} (h : Ev ta ρ (.list ds) ρ1) (h2 : Ev tb ρ1 (.int i) ρ2) (ha : atI ds i = some d) : Ev (tOp (rIx K) ta tb) ρ d ρ2 :=
  ev_opR h h2 fun B v w H Q rv rw' _ q => by
    cases rw'
    cases rv with
    | lst h n r =>
      obtain ⟨u, hu, ru⟩ := atI_rp r ha
      exact .inl ⟨_, _, _, u, rfl, rfl, .of h, hu, q _ H (Same.refl H) ru⟩
theorem ev_ixS {i : Int} (h : Ev ta ρ (.dict [(.list ds, .none)]) ρ1) (h2 : Ev tb ρ1 (.int i) ρ2) (ha : atI ds i = some d) : Ev (tOp (rIx KS.K) ta tb) ρ d ρ2 :=
  ev_opR h h2 fun B v w H Q rv rw' _ q => by
    cases rw'
    cases rv with
    | scr h n r =>
      obtain ⟨u, hu, ru⟩ := atI_rp r ha
      exact .inl ⟨_, _, _, u, rfl, rfl, .inl (.inr ⟨_, h⟩), hu, q _ H (Same.refl H) ru⟩
    | scrK h r =>
      obtain ⟨u, hu, ru⟩ := atI_rp r ha
      exact .inl ⟨_, _, _, u, rfl, rfl, .inr h, hu, q _ H (Same.refl H) ru⟩
theorem ev_ixT {K : PySem.W.Frag} {i : Int} (h : Ev ta ρ (.tuple ds) ρ1) (h2 : Ev tb ρ1 (.int i) ρ2) (ha : atI ds i = some d) : Ev (tOp (rIx K) ta tb) ρ d ρ2 :=
  ev_opR h h2 fun B v w H Q rv rw' _ q => by
    cases rw'
    cases rv with
    | tup h n r =>
      obtain ⟨u, hu, ru⟩ := atI_rp r ha
      exact .inr (.inl ⟨_, _, _, u, rfl, rfl, .of h, hu, q _ H (Same.refl H) ru⟩)
theorem ev_ixO {K : PySem.W.Frag} {i : Int} {k : Nat} (h2 : Ev tb ρ (.int i) ρ2) (ho : ρ2[k]? = some (.own ds)) (ha : atI ds i = some d) : Ev (tOp (rIx K) (tVar k) tb) ρ d ρ2 := by
  refine ⟨h2.1, fun F σ H Q E q => ?_⟩
  have hk : (ρ.map ownQ)[k]? = some true := by
    rw [show ρ.map ownQ = ρ2.map ownQ from h2.1]
    exact own_get.mpr ⟨_, ho⟩
  obtain ⟨ds0, hk⟩ := own_get.mp hk
  obtain ⟨a, vs, e, _⟩ := E.own k ds0 hk
  refine ⟨.ref a, e, h2.2 F σ H _ E fun w H' s E' rw' => ?_⟩
  obtain ⟨a', vs', e', n', hH', r'⟩ := E'.own k ds ho
  rw [e] at e'
  cases e'
  cases rw'
  obtain ⟨u, hu, ru⟩ := atI_rp r' ha
  refine .inl ⟨_, _, _, u, rfl, rfl, .of hH', hu, q _ H' s E' ?_⟩
  rw [h2.1.bof F σ]
  exact ru
/-! tests, choices -/
theorem et_test (h : Ev t ρ (.bool b) ρ1) : EvT (tTest t) ρ b ρ1 := ⟨h.1, fun F σ H Q E q => h.2 F σ H _ E fun v H' s E' r => by
  cases r
  exact ⟨b, rfl, q H' s E'⟩⟩
theorem et_b (h : Ev t ρ (.bool b) ρ1) : EvT (tB t) ρ b ρ1 := ⟨h.1, fun F σ H Q E q => h.2 F σ H _ E fun v H' s E' r => by
  cases r
  exact ⟨b, rfl, q H' s E'⟩⟩
theorem et_not (h : EvT tt ρ b ρ1) : EvT (tNot tt) ρ (!b) ρ1 := ⟨h.1, fun F σ H Q E q => h.2 F σ H _ E fun H' s E' => q H' s E'⟩
theorem et_andF (h : EvT tt ρ false ρ1) : EvT (tAnd tt tu) ρ false ρ1 := ⟨h.1, fun F σ H Q E q => h.2 F σ H _ E fun H' s E' => iteF (q H' s E')⟩
theorem et_andT (h : EvT tt ρ true ρ1) (h2 : EvT tu ρ1 b ρ2) : EvT (tAnd tt tu) ρ b ρ2 := ⟨h.1.trans h2.1, fun F σ H Q E q => h.2 F σ H _ E fun H' s E' => iteT (h2.2 F σ H' _ E' fun H2 s2 E2 => by
  rw [← h.1.oof σ] at s2
  exact q H2 (s.trans s2) E2)⟩
theorem et_orT (h : EvT tt ρ true ρ1) : EvT (tOr tt tu) ρ true ρ1 := ⟨h.1, fun F σ H Q E q => h.2 F σ H _ E fun H' s E' => iteT (q H' s E')⟩
theorem et_orF (h : EvT tt ρ false ρ1) (h2 : EvT tu ρ1 b ρ2) : EvT (tOr tt tu) ρ b ρ2 := ⟨h.1.trans h2.1, fun F σ H Q E q => h.2 F σ H _ E fun H' s E' => iteF (h2.2 F σ H' _ E' fun H2 s2 E2 => by
  rw [← h.1.oof σ] at s2
  exact q H2 (s.trans s2) E2)⟩
/-- where neither part changes anything -/
theorem et_and (h : EvT tt ρ b ρ) (h2 : b = true → EvT tu ρ c ρ) : EvT (tAnd tt tu) ρ (b && c) ρ := by
  cases b with
  | false => exact et_andF h
  | true => exact et_andT h (h2 rfl)
theorem et_or (h : EvT tt ρ b ρ) (h2 : b = false → EvT tu ρ c ρ) : EvT (tOr tt tu) ρ (b || c) ρ := by
  cases b with
  | true => exact et_orT h
  | false => exact et_orF h (h2 rfl)
theorem ev_andF (h : Ev ta ρ (.bool false) ρ1) : Ev (tAndV ta tb) ρ (.bool false) ρ1 := ⟨h.1, fun F σ H Q E q => h.2 F σ H _ E fun v H' s E' r => by
  cases r
  exact ⟨false, rfl, iteF (q _ H' s E' (.bl _))⟩⟩
theorem ev_andT (h : Ev ta ρ (.bool true) ρ1) (h2 : Ev tb ρ1 d ρ2) : Ev (tAndV ta tb) ρ d ρ2 := ⟨h.1.trans h2.1, fun F σ H Q E q => h.2 F σ H _ E fun v H' s E' r => by
  cases r
  refine ⟨true, rfl, iteT (h2.2 F σ H' _ E' fun u H2 s2 E2 r2 => ?_)⟩
  rw [← h.1.oof σ] at s2
  rw [← h.1.bof F σ] at r2
  exact q _ H2 (s.trans s2) E2 r2⟩
theorem ev_and (h : Ev ta ρ (.bool b) ρ) (h2 : b = true → Ev tb ρ (.bool c) ρ) : Ev (tAndV ta tb) ρ (.bool (b && c)) ρ := by
  cases b with
  | false => exact ev_andF h
  | true => exact ev_andT h (h2 rfl)
theorem ev_orT (h : Ev ta ρ (.bool true) ρ1) : Ev (tOrV ta tb) ρ (.bool true) ρ1 := ⟨h.1, fun F σ H Q E q => h.2 F σ H _ E fun v H' s E' r => by
  cases r
  exact ⟨true, rfl, iteT (q _ H' s E' (.bl _))⟩⟩
theorem ev_orF (h : Ev ta ρ (.bool false) ρ1) (h2 : Ev tb ρ1 d ρ2) : Ev (tOrV ta tb) ρ d ρ2 := ⟨h.1.trans h2.1, fun F σ H Q E q => h.2 F σ H _ E fun v H' s E' r => by
  cases r
  refine ⟨false, rfl, iteF (h2.2 F σ H' _ E' fun u H2 s2 E2 r2 => ?_)⟩
  rw [← h.1.oof σ] at s2
  rw [← h.1.bof F σ] at r2
  exact q _ H2 (s.trans s2) E2 r2⟩
theorem ev_or (h : Ev ta ρ (.bool b) ρ) (h2 : b = false → Ev tb ρ (.bool c) ρ) : Ev (tOrV ta tb) ρ (.bool (b || c)) ρ := by
  cases b with
  | true => exact ev_orT h
  | false => exact ev_orF h (h2 rfl)
theorem ev_not (h : Ev ta ρ (.bool b) ρ1) : Ev (tNotV ta) ρ (.bool (!b)) ρ1 := ⟨h.1, fun F σ H Q E q => h.2 F σ H _ E fun v H' s E' r => by
  cases r
  exact ⟨b, rfl, q _ H' s E' (.bl _)⟩⟩
theorem ev_ifT (h : EvT tt ρ true ρ1) (h2 : Ev ta ρ1 d ρ2) : Ev (tIf tt ta tb) ρ d ρ2 := ⟨h.1.trans h2.1, fun F σ H Q E q => h.2 F σ H _ E fun H' s E' => iteT (h2.2 F σ H' _ E' fun u H2 s2 E2 r2 => by
  rw [← h.1.oof σ] at s2
  rw [← h.1.bof F σ] at r2
  exact q _ H2 (s.trans s2) E2 r2)⟩
theorem ev_ifF (h : EvT tt ρ false ρ1) (h2 : Ev tb ρ1 d ρ2) : Ev (tIf tt ta tb) ρ d ρ2 := ⟨h.1.trans h2.1, fun F σ H Q E q => h.2 F σ H _ E fun H' s E' => iteF (h2.2 F σ H' _ E' fun u H2 s2 E2 r2 => by
  rw [← h.1.oof σ] at s2
  rw [← h.1.bof F σ] at r2
  exact q _ H2 (s.trans s2) E2 r2)⟩
theorem ev_if {d1 d2 : PyData} (h : EvT tt ρ b ρ1) (h1 : b = true → Ev ta ρ1 d1 ρ2) (h2 : b = false → Ev tb ρ1 d2 ρ2) : Ev (tIf tt ta tb) ρ (if b then d1 else d2) ρ2 := by
  cases b with
  | true => exact ev_ifT h (h1 rfl)
  | false => exact ev_ifF h (h2 rfl)
theorem ev_isN {z : Bool} (hz : z = (match d with | .none => true | _ => false)) (h : Ev ta ρ d ρ1) (h2 : Ev tb ρ1 .none ρ2) : Ev (tOp (fun x y H Q => y = .non ∧ Q (.bl (decide (x = .non))) H) ta tb) ρ (.bool z) ρ2 :=
  ev_opR h h2 fun B v w H Q rv rw' _ q => by
    cases rw'
    refine ⟨rfl, ?_⟩
    subst hz
    cases rv <;> exact q _ H (Same.refl H) (.bl _)
theorem ev_notN {z : Bool} (hz : z = (match d with | .none => false | _ => true)) (h : Ev ta ρ d ρ1) (h2 : Ev tb ρ1 .none ρ2) : Ev (tOp (fun x y H Q => y = .non ∧ Q (.bl (!decide (x = .non))) H) ta tb) ρ (.bool z) ρ2 :=
  ev_opR h h2 fun B v w H Q rv rw' _ q => by
    cases rw'
    refine ⟨rfl, ?_⟩
    subst hz
    cases rv <;> exact q _ H (Same.refl H) (.bl _)
/-! displays -/
theorem ev_tup (h : EvA tA ρ ds ρ1) (hl : ds.length ≤ sizeLine) : Ev (tTup tA) ρ (.tuple ds) ρ1 := ⟨h.1, fun F σ H Q E q => h.2 F σ H _ E fun vs H' s E' r => by
  refine ⟨by rw [r.length]; exact hl, fun p np => q _ _ (s.trans (.same (same_upd np))) (E'.same (same_upd np)) (.tup upd_same ?_ (r.to fun b o q n => ⟨same_upd np b o q, n⟩))⟩
  rw [h.1.bof F σ]
  exact E'.fresh np⟩
theorem ef_lst (h : EvA tA ρ ds ρ1) (hl : ds.length ≤ sizeLine) : EvF (tLst tA) ρ ds ρ1 := ⟨h.1, fun F σ H Q E q => h.2 F σ H _ E fun vs H' s E' r => by
  refine ⟨by rw [r.length]; exact hl, fun p np => q _ _ _ ?_ (s.trans (.same (same_upd np))) (E'.hide np) upd_same (r.to fun b o q n => ⟨same_upd np b o q, ?_⟩)⟩
  · cases e : H p with
    | none => rfl
    | some o =>
      by_cases hO : Oof σ ρ p
      · exact absurd np (E'.bH (h.1.bof F σ ▸ Or.inr hO))
      · rw [s p o e hO] at np
        cases np
  · rintro ((z | z) | z)
    · exact n (.inl z)
    · subst z
      rw [np] at q
      cases q
    · exact n (.inr z)⟩
end
end EV

end
section
set_option Elab.async false
set_option linter.all false
set_option maxRecDepth 100000
set_option maxHeartbeats 400000
namespace EV
open PySem PySem.Spec PyProof.Rows L2 RZ
variable [KS]

/-! ### built-ins -/
section
variable {t ta tb tc : TE} {tA : TA} {tt tu : TT} {ρ ρ1 ρ2 ρ3 : Rho} {d e : PyData} {ds es : List PyData} {b c : Bool} {K : PySem.W.Frag}
/-- one argument, by what the built-in does with its value -/
theorem ev_cb1 {r : List V → Hp → VK → Prop} {x : PyData} (h : Ev ta ρ d ρ1)
    (hr : ∀ (B : AP) v H Q, Rp B H v d → (∀ p, H p = none → ¬ B p) → (∀ u H', Same H H' → Rp B H' u x → Q u H') → r [v] H Q) : Ev (tCB r (tCons ta tNil)) ρ x ρ1 := by
  refine ⟨h.1, fun F σ H Q E q => h.2 F σ H _ E fun v H' s E' rv => ?_⟩
  have hb : Bof F σ ρ = Bof F σ ρ1 := h.1.bof F σ
  exact hr (Bof F σ ρ) v H' Q rv (fun p np => by rw [hb]; exact E'.fresh np) fun u H2 sm ru => q u H2 (s.trans (.same sm)) (E'.same sm) ru
theorem ev_cbR {r : List V → Hp → VK → Prop} {x : PyData} {tp : Bool} (h : EvR ta ρ tp ds ρ1)
    (hr : ∀ (B : AP) a vs H Q, Rd H a (seqO tp vs) → RpL B H vs ds → (∀ p, H p = none → ¬ B p) → (∀ u H', Same H H' → Rp B H' u x → Q u H') → r [.ref a] H Q) : Ev (tCB r (tCons ta tNil)) ρ x ρ1 := by
  refine ⟨h.1, fun F σ H Q E q => h.2 F σ H _ E fun a vs H' s E' hd rv => ?_⟩
  have hb : Bof F σ ρ = Bof F σ ρ1 := h.1.bof F σ
  exact hr (Bof F σ ρ) a vs H' Q hd rv (fun p np => by rw [hb]; exact E'.fresh np) fun u H2 sm ru => q u H2 (s.trans (.same sm)) (E'.same sm) ru
theorem ev_len {tp : Bool} (h : EvR ta ρ tp ds ρ1) : Ev (tCB (fun xs H Q => ∃ p ys, xs = [.ref p] ∧ (SqL K H p ys ∨ SqT K H p ys) ∧ Q (.int ys.length) H) (tCons ta tNil)) ρ (.int ds.length) ρ1 :=
  ev_cbR h fun B a vs H Q hd r _ q => by
    refine ⟨a, vs, rfl, ?_, ?_⟩
    · cases tp with
      | true => exact .inr (.inl hd)
      | false => exact .inl (.inl hd)
    · rw [r.length]
      exact q _ H (Same.refl H) (.int _)
theorem ev_abs {i : Int} (h : Ev ta ρ (.int i) ρ1) : Ev (tCB (fun xs H Q => ∃ i, xs = [.int i] ∧ Q (.int (if i < 0 then -i else i)) H) (tCons ta tNil)) ρ (.int (i.natAbs : Int)) ρ1 :=
  ev_cb1 h fun B v H Q r _ q => by
    cases r
    refine ⟨i, rfl, ?_⟩
    rw [show (if i < 0 then -i else i) = (i.natAbs : Int) by split <;> omega]
    exact q _ H (Same.refl H) (.int _)
theorem ev_toInt {i : Int} (h : Ev ta ρ (.int i) ρ1) : Ev (tCB (fun xs H Q => (∃ i, xs = [.int i] ∧ Q (.int i) H) ∨ ∃ k, xs = [.bl k] ∧ Q (.int (if k then 1 else 0)) H) (tCons ta tNil)) ρ (.int i) ρ1 :=
  ev_cb1 h fun B v H Q r _ q => by
    cases r
    exact .inl ⟨i, rfl, q _ H (Same.refl H) (.int _)⟩
theorem ev_bits {i : Int} (h : Ev ta ρ (.int i) ρ1) : Ev (tBits ta) ρ (.int (Builtin.Int.intBits i : Nat)) ρ1 := ⟨h.1, fun F σ H Q E q => h.2 F σ H _ E fun v H' s E' r => by
  cases r
  exact ⟨i, rfl, q _ H' s E' (.int _)⟩⟩
theorem ev_neg {g : Int → Int} {i : Int} (h : Ev ta ρ (.int i) ρ1) : Ev (tUn (rU fun i => .int (g i)) ta) ρ (.int (g i)) ρ1 := ⟨h.1, fun F σ H Q E q => h.2 F σ H _ E fun v H' s E' r => by
  cases r
  exact ⟨i, rfl, q _ H' s E' (.int _)⟩⟩
/-- tuple(..) of anything -/
theorem ev_tuple (h : EvR ta ρ false ds ρ1) : Ev (tCB (fun xs H Q => ∃ p ys, xs = [.ref p] ∧ ((SqL K H p ys ∧ ∀ l, H l = none → Q (.ref l) (upd H l (.tup ys))) ∨ (SqT K H p ys ∧ Q (.ref p) H))) (tCons ta tNil)) ρ (.tuple ds) ρ1 :=
  ev_cbR h fun B a vs H Q hd r fr q => ⟨a, vs, rfl, .inl ⟨.inl hd, fun l nl => q _ _ (same_upd nl) (.tup upd_same (fr l nl) (r.to fun b o e n => ⟨same_upd nl b o e, n⟩))⟩⟩
theorem ev_sum {ns : List Int} (h : EvR ta ρ false (ns.map .int) ρ1) : Ev (tCB (rSum K) (tCons ta tNil)) ρ (.int ns.sum) ρ1 :=
  ev_cbR h fun B a vs H Q hd r fr q => ⟨a, ns, rfl, .inl (r.ints ▸ hd), q _ H (Same.refl H) (.int _)⟩
def tyN : PyData → String
  | .none => "NoneType"
  | .bool _ => "bool"
  | .int _ => "int"
  | .str _ => "str"
  | .list _ => "list"
  | .tuple _ => "tuple"
  | .dict _ => "list"
def kitD (d : PyData) (T : String) : Option Bool := match d with
  | .dict _ => none
  | d => kitB (tyN d) T
theorem ev_isi {T : String} (h : Ev ta ρ d ρ1) (hk : kitD d T = some b) : Ev (tCB (rIsi K) (tCons ta (tCons (tC (.ty T)) tNil))) ρ (.bool b) ρ1 := by
  refine ⟨h.1, fun F σ H Q E q => h.2 F σ H _ E fun v H' s E' rv => ?_⟩
  have hk' : kitB (tyN d) T = some b := by
    cases d <;> first | exact hk | cases hk
  refine ⟨v, .ty T, .type (tyN d), .type T, b, rfl, .ty T, ?_, kit_ty hk', q _ H' s E' (.bl _)⟩
  cases rv with
  | non => exact .base .non
  | bl x => exact .base (.bl x)
  | int i => exact .base (.int i)
  | str x => exact .base (.str x)
  | lst h1 => exact .base (.lst h1)
  | tup h1 => exact .base (.tup h1)
  | scr h1 => cases hk
  | scrK h1 => cases hk
theorem ev_lenS (h : Ev ta ρ (.dict [(.list ds, .none)]) ρ1) : Ev (tCB (fun xs H Q => ∃ p ys, xs = [.ref p] ∧ (SqL KS.K H p ys ∨ SqT KS.K H p ys) ∧ Q (.int ys.length) H) (tCons ta tNil)) ρ (.int ds.length) ρ1 :=
  ev_cb1 h fun B v H Q r _ q => by
    cases r with
    | scr h n r =>
      refine ⟨_, _, rfl, .inl (.inl (.inr ⟨_, h⟩)), ?_⟩
      rw [r.length]
      exact q _ H (Same.refl H) (.int _)
    | scrK h r =>
      refine ⟨_, _, rfl, .inl (.inr h), ?_⟩
      rw [r.length]
      exact q _ H (Same.refl H) (.int _)
/-! ### slices -/
def cutD (ds : List PyData) (lo hi : Option Int) : List PyData := (ds.drop (HT.sIx ds.length 0 lo)).take (HT.sIx ds.length ds.length hi - HT.sIx ds.length 0 lo)
theorem RpL.cut {B : AP} {H : Hp} {vs : List V} (r : RpL B H vs ds) (lo hi : Option Int) : RpL B H (cutV vs lo hi) (cutD ds lo hi) := by
  unfold cutV cutD
  rw [r.length]
  exact (r.drop _).take _
def EvO (t : TO) (ρ : Rho) (o : Option Int) : Prop := ∀ (F : AP) (σ : L2.St) (H : Hp) (Q : Option Int → Hp → Prop), Env F H σ ρ → (∀ H', Same H H' → Env F H' σ ρ → Q o H') → t σ H Q
theorem eo_none : EvO tNoPart ρ none := fun F σ H Q E q => q H (Same.refl H) E
theorem eo_int {i : Int} : EvO (tPart (tC (.int i))) ρ (some i) := fun F σ H Q E q => ⟨i, rfl, q H (Same.refl H) E⟩
theorem ef_sliceL {tl th : TO} {lo hi : Option Int} (h : EvR t ρ false ds ρ1) (hl : EvO tl ρ1 lo) (hh : EvO th ρ1 hi) : EvF (tSl (rSlL K) t tl th) ρ (cutD ds lo hi) ρ1 := by
  refine ⟨h.1, fun F σ H Q E q => h.2 F σ H _ E fun a vs H1 s1 E1 hd r => hl F σ H1 _ E1 fun H2 s2 E2 => hh F σ H2 _ E2 fun H3 s3 E3 => ?_⟩
  have s13 : Same H1 H3 := s2.trans s3
  have hd3 : Rd H3 a (.lst vs) := by
    rcases hd with z | ⟨o, z⟩
    · exact .inl (s13 _ _ z)
    · exact .inr ⟨o, s13 _ _ z⟩
  refine ⟨a, vs, rfl, .inl hd3, fun p np => q p _ _ ?_ ((s1.trans (.same s13)).trans (.same (same_upd np))) (E3.hide np) upd_same ((r.cut lo hi).to fun b o q n => ⟨same_upd np _ _ (s13 b o q), ?_⟩)⟩
  · cases e : H p with
    | none => rfl
    | some o =>
      by_cases hO : Oof σ ρ p
      · exact absurd np (E3.bH (h.1.bof F σ ▸ Or.inr hO))
      · rw [s13 _ _ (s1 p o e hO)] at np
        cases np
  · rintro ((z | z) | z)
    · exact n (.inl z)
    · subst z
      rw [s13 _ _ q] at np
      cases np
    · exact n (.inr z)
/-! ### what is walked -/
def Walks (J : It) (B : AP) (H1 : Hp) (ds : List PyData) : Prop :=
  ∀ (H2 : Hp) (B2 : AP), (∀ a o, H1 a = some o → ¬ B a → H2 a = some o ∧ ¬ B2 a) → (∀ a, B2 a → H2 a ≠ none) → ∀ k : Nat,
    (k < ds.length → J.go k H2) ∧ (ds.length ≤ k → J.stop k H2) ∧ ∀ x H3, J.yld k H2 x H3 → Same H2 H3 ∧ ∀ d, ds[k]? = some d → Rp B2 H3 x d
def EvI (wi : TI) (ρ : Rho) (ds : List PyData) (ρ' : Rho) : Prop :=
  SameOwn ρ ρ' ∧ ∀ (F : AP) (σ : L2.St) (H : Hp) (R : It → Hp → Prop), Env F H σ ρ → (∀ J H', Stp (Oof σ ρ) H H' → Env F H' σ ρ' → Walks J (Bof F σ ρ) H' ds → R J H') → wi σ H R
theorem walks_list {B : AP} {H1 : Hp} {a : Addr} {vs : List V} (h : H1 a = some (.lst vs)) (nb : ¬ B a) (r : RpL B H1 vs ds) : Walks (Itl K a) B H1 ds := fun H2 B2 f g k => by
  have h2 := f a _ h nb
  have r2 := r.to f
  refine ⟨fun hk => ?_, fun hk => ⟨vs, .of h2.1, by rw [r.length]; exact hk⟩, fun x H3 hy => ?_⟩
  · obtain ⟨v, hv, _⟩ := r2.get (List.getElem?_eq_getElem hk)
    exact ⟨vs, v, .of h2.1, hv⟩
  · obtain ⟨rfl, hx⟩ := hy
    refine ⟨Same.refl _, fun d hd => ?_⟩
    obtain ⟨v, hv, rv⟩ := r2.get hd
    have := hx vs (.of h2.1)
    rw [hv] at this
    cases this
    exact rv
theorem walks_tup {B : AP} {H1 : Hp} {a : Addr} {vs : List V} (h : H1 a = some (.tup vs)) (nb : ¬ B a) (r : RpL B H1 vs ds) : Walks (Itt K a) B H1 ds := fun H2 B2 f g k => by
  have h2 := f a _ h nb
  have r2 := r.to f
  refine ⟨fun hk => ?_, fun hk => ⟨vs, .of h2.1, by rw [r.length]; exact hk⟩, fun x H3 hy => ?_⟩
  · obtain ⟨v, hv, _⟩ := r2.get (List.getElem?_eq_getElem hk)
    exact ⟨vs, v, .of h2.1, hv⟩
  · obtain ⟨rfl, hx⟩ := hy
    refine ⟨Same.refl _, fun d hd => ?_⟩
    obtain ⟨v, hv, rv⟩ := r2.get hd
    have := hx vs (.of h2.1)
    rw [hv] at this
    cases this
    exact rv
def iSeq (K : PySem.W.Frag) (tl : TE) : TI := fun σ H R => iList K tl σ H R ∨ iTup K tl σ H R
theorem pi_seq {X : Cx} {tg l : Expr} {tl : TE} (hl : PE X l tl) : PI X tg l (iSeq X.K tl) := ⟨fun pins s σ H R I h => h.elim (fun h => (pi_list hl).run pins s σ H R I h) fun h => (pi_tup hl).run pins s σ H R I h⟩
theorem ei_list (h : Ev t ρ (.list ds) ρ1) : EvI (iSeq K t) ρ ds ρ1 := ⟨h.1, fun F σ H R E q => .inl (h.2 F σ H _ E fun v H' s E' r => by
  cases r with
  | lst hd n r => exact ⟨_, rfl, ⟨_, .of hd⟩, q _ H' s E' (walks_list hd n r)⟩)⟩
theorem ei_tup (h : Ev t ρ (.tuple ds) ρ1) : EvI (iSeq K t) ρ ds ρ1 := ⟨h.1, fun F σ H R E q => .inr (h.2 F σ H _ E fun v H' s E' r => by
  cases r with
  | tup hd n r => exact ⟨_, rfl, ⟨_, .of hd⟩, q _ H' s E' (walks_tup hd n r)⟩)⟩
def rngD (lo : Int) (n : Nat) : List PyData := (List.range n).map fun i => .int (lo + (i : Nat))
theorem walks_range {B : AP} {H1 : Hp} {lo : Int} {n : Nat} : Walks (Itr lo n) B H1 (rngD lo n) := fun H2 B2 f g k => by
  have hl : (rngD lo n).length = n := by unfold rngD; simp
  rw [hl]
  refine ⟨fun h => h, fun h => h, fun x H3 hy => ?_⟩
  obtain ⟨rfl, rfl⟩ := hy
  refine ⟨Same.refl _, fun d hd => ?_⟩
  unfold rngD at hd
  rw [List.getElem?_map] at hd
  cases e : (List.range n)[k]? with
  | none => rw [e] at hd; cases hd
  | some j =>
    rw [e] at hd
    cases hd
    have : j = k := by
      obtain ⟨h1, h2⟩ := List.getElem?_eq_some_iff.mp e
      simpa using h2.symm
    subst this
    exact .int _
theorem ei_range1 {n : Int} (h : EvA tA ρ [.int n] ρ1) (hn : -(2 ^ 62) ≤ n ∧ n < 2 ^ 62) : EvI (iRng1 tA) ρ (rngD 0 n.toNat) ρ1 := ⟨h.1, fun F σ H R E q => h.2 F σ H _ E fun vs H' s E' r => by
  cases r with
  | cons r rr =>
    cases r
    cases rr
    exact ⟨n, rfl, hn.1, hn.2, q _ H' s E' walks_range⟩⟩
theorem ei_range2 {m n : Int} (h : EvA tA ρ [.int m, .int n] ρ1) (hm : -(2 ^ 62) ≤ m ∧ m < 2 ^ 62) (hn : -(2 ^ 62) ≤ n ∧ n < 2 ^ 62) : EvI (iRng2 tA) ρ (rngD m (n - m).toNat) ρ1 := ⟨h.1, fun F σ H R E q => h.2 F σ H _ E fun vs H' s E' r => by
  cases r with
  | cons r rr =>
    cases r
    cases rr with
    | cons r' rr =>
      cases r'
      cases rr
      exact ⟨m, n, rfl, ⟨hm.1, hm.2, hn.1, hn.2⟩, q _ H' s E' walks_range⟩⟩
def enumD (ds : List PyData) : List PyData := ds.zipIdx.map fun p => .tuple [.int (p.2 : Nat), p.1]
theorem enumD_get {k : Nat} {d : PyData} : (enumD ds)[k]? = some d ↔ ∃ e, ds[k]? = some e ∧ d = .tuple [.int (k : Nat), e] := by
  unfold enumD
  rw [List.getElem?_map, List.getElem?_zipIdx]
  cases ds[k]? with
  | none => simp
  | some e =>
    simp only [Option.map_some, Option.some.injEq, Nat.zero_add, exists_eq_left']
    exact ⟨fun h => h.symm, fun h => h.symm⟩
theorem rp_pair {B2 : AP} {H2 : Hp} {T : Addr} {x y : V} (hT : H2 T = none) (g : ∀ a, B2 a → H2 a ≠ none) (rx : Rp B2 H2 x d) (ry : Rp B2 H2 y e) : Rp B2 (upd H2 T (.tup [x, y])) (.ref T) (.tuple [d, e]) :=
  .tup upd_same (fun z => g T z hT) ((RpL.cons rx (.cons ry .nil)).to fun b o q n => ⟨same_upd hT b o q, n⟩)
theorem walks_enum {B : AP} {H1 : Hp} {a : Addr} {vs : List V} (h : H1 a = some (.lst vs)) (nb : ¬ B a) (r : RpL B H1 vs ds) : Walks (Ite K a) B H1 (enumD ds) := fun H2 B2 f g k => by
  have hl : (enumD ds).length = ds.length := by unfold enumD; simp
  rw [hl]
  have h2 := f a _ h nb
  have r2 := r.to f
  refine ⟨fun hk => ?_, fun hk => ⟨vs, .of h2.1, by rw [r.length]; exact hk⟩, fun x H3 hy => ?_⟩
  · obtain ⟨v, hv, _⟩ := r2.get (List.getElem?_eq_getElem hk)
    exact ⟨vs, v, .of h2.1, hv⟩
  · obtain ⟨T, y, rfl, nT, rfl, hx⟩ := hy
    refine ⟨same_upd nT, fun d hd => ?_⟩
    obtain ⟨e, he, rfl⟩ := enumD_get.mp hd
    obtain ⟨v, hv, rv⟩ := r2.get he
    have := hx vs (.of h2.1)
    rw [hv] at this
    cases this
    exact rp_pair nT g (.int _) rv
theorem ei_enum (h : Ev t ρ (.list ds) ρ1) : EvI (iEnum K (tCons t tNil)) ρ (enumD ds) ρ1 := ⟨h.1, fun F σ H R E q => h.2 F σ H _ E fun v H' s E' r => by
  cases r with
  | lst hd n r => exact ⟨_, _, rfl, .of hd, q _ H' s E' (walks_enum hd n r)⟩⟩
def zipD (ds es : List PyData) : List PyData := (ds.zip es).map fun p => .tuple [p.1, p.2]
theorem zipD_get {k : Nat} {x : PyData} : (zipD ds es)[k]? = some x ↔ ∃ d e, ds[k]? = some d ∧ es[k]? = some e ∧ x = .tuple [d, e] := by
  unfold zipD
  rw [List.getElem?_map]
  constructor
  · intro h
    cases e : (ds.zip es)[k]? with
    | none => rw [e] at h; cases h
    | some p =>
      rw [e] at h
      cases h
      obtain ⟨h1, h2⟩ := List.getElem?_zip_eq_some.mp e
      exact ⟨_, _, h1, h2, rfl⟩
  · rintro ⟨d, e, h1, h2, rfl⟩
    rw [List.getElem?_zip_eq_some (z := (d, e)) |>.mpr ⟨h1, h2⟩]
    rfl
theorem zipD_length : (zipD ds es).length = min ds.length es.length := by unfold zipD; simp
theorem walks_zipL {B : AP} {H1 : Hp} {a b : Addr} {vs ws : List V} (h : H1 a = some (.lst vs)) (nb : ¬ B a) (r : RpL B H1 vs ds) (h' : H1 b = some (.lst ws)) (nb' : ¬ B b) (r' : RpL B H1 ws es) : Walks (Itz K a b) B H1 (zipD ds es) := fun H2 B2 f g k => by
  rw [zipD_length]
  have h2 := f a _ h nb
  have h2' := f b _ h' nb'
  have r2 := r.to f
  have r2' := r'.to f
  refine ⟨fun hk => ?_, fun hk => ⟨vs, ws, .of h2.1, .of h2'.1, by rw [r.length, r'.length]; omega⟩, fun x H3 hy => ?_⟩
  · obtain ⟨v, hv, _⟩ := r2.get (List.getElem?_eq_getElem (show k < ds.length by omega))
    obtain ⟨v', hv', _⟩ := r2'.get (List.getElem?_eq_getElem (show k < es.length by omega))
    exact ⟨vs, ws, v, v', .of h2.1, .of h2'.1, hv, hv'⟩
  · obtain ⟨T, y, z, rfl, nT, rfl, hx, hx'⟩ := hy
    refine ⟨same_upd nT, fun d hd => ?_⟩
    obtain ⟨d1, e1, he, he', rfl⟩ := zipD_get.mp hd
    obtain ⟨v, hv, rv⟩ := r2.get he
    obtain ⟨v', hv', rv'⟩ := r2'.get he'
    have := hx vs (.of h2.1)
    rw [hv] at this
    cases this
    have := hx' ws (.of h2'.1)
    rw [hv'] at this
    cases this
    exact rp_pair nT g rv rv'
theorem walks_zipT {B : AP} {H1 : Hp} {a b : Addr} {vs ws : List V} (h : H1 a = some (.tup vs)) (nb : ¬ B a) (r : RpL B H1 vs ds) (h' : H1 b = some (.tup ws)) (nb' : ¬ B b) (r' : RpL B H1 ws es) : Walks (ItzT K a b) B H1 (zipD ds es) := fun H2 B2 f g k => by
  rw [zipD_length]
  have h2 := f a _ h nb
  have h2' := f b _ h' nb'
  have r2 := r.to f
  have r2' := r'.to f
  refine ⟨fun hk => ?_, fun hk => ⟨vs, ws, .of h2.1, .of h2'.1, by rw [r.length, r'.length]; omega⟩, fun x H3 hy => ?_⟩
  · obtain ⟨v, hv, _⟩ := r2.get (List.getElem?_eq_getElem (show k < ds.length by omega))
    obtain ⟨v', hv', _⟩ := r2'.get (List.getElem?_eq_getElem (show k < es.length by omega))
    exact ⟨vs, ws, v, v', .of h2.1, .of h2'.1, hv, hv'⟩
  · obtain ⟨T, y, z, rfl, nT, rfl, hx, hx'⟩ := hy
    refine ⟨same_upd nT, fun d hd => ?_⟩
    obtain ⟨d1, e1, he, he', rfl⟩ := zipD_get.mp hd
    obtain ⟨v, hv, rv⟩ := r2.get he
    obtain ⟨v', hv', rv'⟩ := r2'.get he'
    have := hx vs (.of h2.1)
    rw [hv] at this
    cases this
    have := hx' ws (.of h2'.1)
    rw [hv'] at this
    cases this
    exact rp_pair nT g rv rv'
theorem ei_zipL (h : EvA tA ρ [.list ds, .list es] ρ1) : EvI (iZipA K tA) ρ (zipD ds es) ρ1 := ⟨h.1, fun F σ H R E q => h.2 F σ H _ E fun vs H' s E' r => by
  cases r with
  | cons r rr =>
    cases r with
    | lst hd n r =>
      cases rr with
      | cons r' rr =>
        cases rr
        cases r' with
        | lst hd' n' r' => exact ⟨_, _, _, _, rfl, .inl ⟨.of hd, .of hd', q _ H' s E' (walks_zipL hd n r hd' n' r')⟩⟩⟩
theorem ei_zipT (h : EvA tA ρ [.tuple ds, .tuple es] ρ1) : EvI (iZipA K tA) ρ (zipD ds es) ρ1 := ⟨h.1, fun F σ H R E q => h.2 F σ H _ E fun vs H' s E' r => by
  cases r with
  | cons r rr =>
    cases r with
    | tup hd n r =>
      cases rr with
      | cons r' rr =>
        cases rr
        cases r' with
        | tup hd' n' r' => exact ⟨_, _, _, _, rfl, .inr ⟨.of hd, .of hd', q _ H' s E' (walks_zipT hd n r hd' n' r')⟩⟩⟩
end
end EV

end
section
set_option Elab.async false
set_option linter.all false
set_option maxRecDepth 100000
set_option maxHeartbeats 400000
namespace EV
open PySem PySem.Spec PyProof.Rows L2 RZ
variable [KS]

inductive Out where
  | next (ρ : Rho)
  | brk (ρ : Rho)
  | cont (ρ : Rho)
  | ret (d : PyData) (ρ : Rho)
def OP (pr : List Nat) (σ0 : L2.St) : AP := fun a => ∃ i ∈ pr, σ0[i]? = some (some (.ref a))
structure EnvS (pr : List Nat) (F : AP) (σ0 : L2.St) (H0 : Hp) (O0 : AP) (σ : L2.St) (H : Hp) (ρ : Rho) : Prop where
  env : Env F H σ ρ
  stp : Stp O0 H0 H
  prot : ∀ i ∈ pr, σ[i]? = σ0[i]? ∧ (ρ.map ownQ)[i]? = some true
  new : ∀ i a, OwnAt σ ρ i a → O0 a ∨ H0 a = none
def Post (pr : List Nat) (F : AP) (σ0 : L2.St) (H0 : Hp) (O0 : AP) (D : Ends) : Out → Prop
  | .next ρ' => ∀ σ' H', EnvS pr F σ0 H0 O0 σ' H' ρ' → D.nx σ' H'
  | .brk ρ' => ∀ σ' H', EnvS pr F σ0 H0 O0 σ' H' ρ' → D.bk σ' H'
  | .cont ρ' => ∀ σ' H', EnvS pr F σ0 H0 O0 σ' H' ρ' → D.ct σ' H'
  | .ret d ρ' => ∀ v σ' H', EnvS pr F σ0 H0 O0 σ' H' ρ' → Rp (fun a => F a ∨ OP pr σ0 a) H' v d → D.rt v H'
def Sv (pr : List Nat) (t : TS) (ρ : Rho) (o : Out) : Prop :=
  ∀ (F : AP) (σ0 : L2.St) (H0 : Hp) (O0 : AP) (σ : L2.St) (H : Hp) (D : Ends), EnvS pr F σ0 H0 O0 σ H ρ → Post pr F σ0 H0 O0 D o → t D σ H

section
variable {pr : List Nat} {F : AP} {σ0 : L2.St} {H0 : Hp} {O0 : AP} {σ σ' : L2.St} {H H' : Hp} {ρ ρ1 ρ2 ρ3 : Rho} {d e : PyData} {ds es : List PyData} {v : V} {a : Addr} {i j : Nat} {K : PySem.W.Frag}
theorem EnvS.step (E : EnvS pr F σ0 H0 O0 σ H ρ) (s : Stp (Oof σ ρ) H H') (E' : Env F H' σ ρ1) (so : SameOwn ρ ρ1) : EnvS pr F σ0 H0 O0 σ H' ρ1 where
  env := E'
  stp := fun a o h n => s a o (E.stp a o h n) fun ⟨i, z⟩ => by
    rcases E.new i a z with q | q
    · exact n q
    · rw [h] at q
      cases q
  prot := fun i hi => ⟨(E.prot i hi).1, by rw [← show ρ.map ownQ = ρ1.map ownQ from so]; exact (E.prot i hi).2⟩
  new := fun i a z => E.new i a ⟨by rw [show ρ.map ownQ = ρ1.map ownQ from so]; exact z.1, z.2⟩
theorem ownAt_set (h : OwnAt (σ.set i (some v)) (ρ.set i (.d d)) j a) : j ≠ i ∧ OwnAt σ ρ j a := by
  obtain ⟨h1, h2⟩ := h
  obtain ⟨ds, h1⟩ := own_get.mp h1
  by_cases e : i = j
  · subst e
    rw [List.getElem?_set] at h1
    simp at h1
  · rw [List.getElem?_set_ne e] at h1 h2
    exact ⟨Ne.symm e, own_get.mpr ⟨ds, h1⟩, h2⟩
theorem ownAt_set' (h : OwnAt σ ρ j a) (n : j ≠ i) {s : Sl} {x : Option V} : OwnAt (σ.set i x) (ρ.set i s) j a := by
  obtain ⟨h1, h2⟩ := h
  obtain ⟨ds, h1⟩ := own_get.mp h1
  exact ⟨own_get.mpr ⟨ds, by rw [List.getElem?_set_ne (Ne.symm n)]; exact h1⟩, by rw [List.getElem?_set_ne (Ne.symm n)]; exact h2⟩
theorem bof_set (h : Bof F (σ.set i (some v)) (ρ.set i (.d d)) a) : Bof F σ ρ a := h.elim .inl fun ⟨j, z⟩ => .inr ⟨j, (ownAt_set z).2⟩
theorem Env.set (E : Env F H σ ρ) (r : Rp (Bof F σ ρ) H v d) (hi : i < ρ.length) : Env F H (σ.set i (some v)) (ρ.set i (.d d)) where
  len := by rw [List.length_set, List.length_set]; exact E.len
  fr := E.fr
  dat := fun j e h => by
    by_cases z : i = j
    · subst z
      rw [List.getElem?_set_self hi] at h
      cases h
      exact ⟨v, by rw [List.getElem?_set_self (by rw [E.len]; exact hi)], r.to fun a o q n => ⟨q, fun z => n (bof_set z)⟩⟩
    · rw [List.getElem?_set_ne z] at h
      obtain ⟨u, e1, r1⟩ := E.dat j e h
      exact ⟨u, by rw [List.getElem?_set_ne z]; exact e1, r1.to fun a o q n => ⟨q, fun z => n (bof_set z)⟩⟩
  own := fun j e h => by
    by_cases z : i = j
    · subst z
      rw [List.getElem?_set_self hi] at h
      cases h
    · rw [List.getElem?_set_ne z] at h
      obtain ⟨b, vs, e1, n1, h1, r1⟩ := E.own j e h
      exact ⟨b, vs, by rw [List.getElem?_set_ne z]; exact e1, n1, h1, r1.to fun a o q n => ⟨q, fun z => n (bof_set z)⟩⟩
  sep := fun j k b h1 h2 => E.sep j k b (ownAt_set h1).2 (ownAt_set h2).2
theorem EnvS.set (E : EnvS pr F σ0 H0 O0 σ H ρ) (r : Rp (Bof F σ ρ) H v d) (hi : i < ρ.length) (hp : i ∉ pr) : EnvS pr F σ0 H0 O0 (σ.set i (some v)) H (ρ.set i (.d d)) where
  env := E.env.set r hi
  stp := E.stp
  prot := fun j hj => by
    have n : i ≠ j := fun z => hp (z ▸ hj)
    obtain ⟨h1, h2⟩ := E.prot j hj
    obtain ⟨ds, h2⟩ := own_get.mp h2
    exact ⟨by rw [List.getElem?_set_ne n]; exact h1, own_get.mpr ⟨ds, by rw [List.getElem?_set_ne n]; exact h2⟩⟩
  new := fun j b h => E.new j b (ownAt_set h).2
theorem ownAt_setO (h : OwnAt (σ.set i (some (.ref a))) (ρ.set i (.own ds)) j b) : (j = i ∧ b = a) ∨ (j ≠ i ∧ OwnAt σ ρ j b) := by
  obtain ⟨h1, h2⟩ := h
  obtain ⟨es, h1⟩ := own_get.mp h1
  by_cases e : i = j
  · subst e
    by_cases hl : i < σ.length
    · rw [List.getElem?_set_self hl] at h2
      cases h2
      exact .inl ⟨rfl, rfl⟩
    · rw [List.getElem?_eq_none (by rw [List.length_set]; omega)] at h2
      cases h2
  · rw [List.getElem?_set_ne e] at h1 h2
    exact .inr ⟨Ne.symm e, own_get.mpr ⟨es, h1⟩, h2⟩
theorem bof_setO {b : Addr} (h : Bof F (σ.set i (some (.ref a))) (ρ.set i (.own ds)) b) : Bof (fun c => F c ∨ c = a) σ ρ b := by
  rcases h with h | ⟨j, z⟩
  · exact .inl (.inl h)
  · rcases ownAt_setO z with ⟨_, rfl⟩ | ⟨_, z⟩
    · exact .inl (.inr rfl)
    · exact .inr ⟨j, z⟩
theorem Env.setO {vs : List V} (E : Env (fun c => F c ∨ c = a) H σ ρ) (nf : ¬ F a) (hH : H a = some (.lst vs)) (r : RpL (Bof (fun c => F c ∨ c = a) σ ρ) H vs ds) (hi : i < ρ.length) : Env F H (σ.set i (some (.ref a))) (ρ.set i (.own ds)) where
  len := by rw [List.length_set, List.length_set]; exact E.len
  fr := fun b hb => E.fr b (.inl hb)
  dat := fun j e h => by
    by_cases z : i = j
    · subst z
      rw [List.getElem?_set_self hi] at h
      cases h
    · rw [List.getElem?_set_ne z] at h
      obtain ⟨u, e1, r1⟩ := E.dat j e h
      exact ⟨u, by rw [List.getElem?_set_ne z]; exact e1, r1.to fun a o q n => ⟨q, fun z => n (bof_setO z)⟩⟩
  own := fun j e h => by
    by_cases z : i = j
    · subst z
      rw [List.getElem?_set_self hi] at h
      cases h
      exact ⟨a, vs, by rw [List.getElem?_set_self (by rw [E.len]; exact hi)], nf, hH, r.to fun a o q n => ⟨q, fun z => n (bof_setO z)⟩⟩
    · rw [List.getElem?_set_ne z] at h
      obtain ⟨b, vs, e1, n1, h1, r1⟩ := E.own j e h
      exact ⟨b, vs, by rw [List.getElem?_set_ne z]; exact e1, fun z => n1 (.inl z), h1, r1.to fun a o q n => ⟨q, fun z => n (bof_setO z)⟩⟩
  sep := fun j k b h1 h2 => by
    have no : ∀ m, ¬ OwnAt σ ρ m a := fun m z => by
      obtain ⟨es, z1⟩ := own_get.mp z.1
      obtain ⟨c, _, e1, n1, _⟩ := E.own m es z1
      rw [z.2] at e1
      cases e1
      exact n1 (.inr rfl)
    rcases ownAt_setO h1 with ⟨e1, e2⟩ | ⟨n1, h1⟩
    · rcases ownAt_setO h2 with ⟨e3, e4⟩ | ⟨n2, h2⟩
      · rw [e1, e3]
      · rw [e2] at h2
        exact absurd h2 (no k)
    · rcases ownAt_setO h2 with ⟨e3, e4⟩ | ⟨n2, h2⟩
      · rw [e4] at h1
        exact absurd h1 (no j)
      · exact E.sep j k b h1 h2
theorem EnvS.setO {vs : List V} {H1 : Hp} (E : EnvS pr F σ0 H0 O0 σ H ρ) (na : H a = none) (s : Stp (Oof σ ρ) H H1) (so : SameOwn ρ ρ1) (E1 : Env (fun c => F c ∨ c = a) H1 σ ρ1) (hH : H1 a = some (.lst vs)) (r : RpL (Bof (fun c => F c ∨ c = a) σ ρ) H1 vs ds)
    (hi : i < ρ1.length) (hp : i ∉ pr) : EnvS pr F σ0 H0 O0 (σ.set i (some (.ref a))) H1 (ρ1.set i (.own ds)) where
  env := E1.setO (fun z => E.env.fr a z na) hH (so.bof _ σ ▸ r) hi
  stp := (E.step s E1.unhide so).stp
  prot := fun j hj => by
    have n : i ≠ j := fun z => hp (z ▸ hj)
    obtain ⟨h1, h2⟩ := (E.step s E1.unhide so).prot j hj
    obtain ⟨ds, h2⟩ := own_get.mp h2
    exact ⟨by rw [List.getElem?_set_ne n]; exact h1, own_get.mpr ⟨ds, by rw [List.getElem?_set_ne n]; exact h2⟩⟩
  new := fun j b h => by
    rcases ownAt_setO h with ⟨_, rfl⟩ | ⟨_, h⟩
    · by_cases z : O0 b
      · exact .inl z
      · refine .inr ?_
        cases q : H0 b with
        | none => rfl
        | some o =>
          rw [E.stp b o q z] at na
          cases na
    · exact (E.step s E1.unhide so).new j b h
/-- a list of one's own turns -/
theorem Env.upd {vs : List V} (E : Env F H σ ρ) (ho : OwnAt σ ρ i a) (r : RpL (Bof F σ ρ) H vs ds) : Env F (upd H a (.lst vs)) σ (ρ.set i (.own ds)) := by
  obtain ⟨es, he⟩ := own_get.mp ho.1
  have hi : i < ρ.length := (List.getElem?_eq_some_iff.mp he).1
  have so : SameOwn ρ (ρ.set i (.own ds)) := by
    unfold SameOwn
    apply List.ext_getElem?
    intro k
    by_cases z : i = k
    · subst z
      rw [ho.1, List.getElem?_map, List.getElem?_set_self hi]
      rfl
    · rw [List.getElem?_map, List.getElem?_map, List.getElem?_set_ne z]
  have hB : Bof F σ ρ a := .inr ⟨i, ho⟩
  have up : ∀ b o, H b = some o → ¬ Bof F σ ρ b → L2.upd H a (.lst vs) b = some o ∧ ¬ Bof F σ ρ b := fun b o q n => ⟨by
    rw [upd_ne (fun z => n (by rw [z]; exact hB))]
    exact q, n⟩
  refine ⟨by rw [List.length_set]; exact E.len, fun b hb z => ?_, fun k e h => ?_, fun k e h => ?_, fun k l b h1 h2 => ?_⟩
  · by_cases q : b = a
    · subst q
      rw [upd_same] at z
      cases z
    · rw [upd_ne q] at z
      exact E.fr b hb z
  · rw [← so.bof F σ]
    by_cases z : i = k
    · subst z
      rw [List.getElem?_set_self hi] at h
      cases h
    · rw [List.getElem?_set_ne z] at h
      obtain ⟨u, e1, r1⟩ := E.dat k e h
      exact ⟨u, e1, r1.to up⟩
  · rw [← so.bof F σ]
    by_cases z : i = k
    · subst z
      rw [List.getElem?_set_self hi] at h
      cases h
      obtain ⟨c, _, e1, n1, _⟩ := E.own i es he
      rw [ho.2] at e1
      cases e1
      exact ⟨a, vs, ho.2, n1, upd_same, r.to up⟩
    · rw [List.getElem?_set_ne z] at h
      obtain ⟨b, ws, e1, n1, h1, r1⟩ := E.own k e h
      have hk : OwnAt σ ρ k b := ⟨own_get.mpr ⟨e, h⟩, e1⟩
      have hne : b ≠ a := fun q => z (E.sep i k a ho (q ▸ hk))
      exact ⟨b, ws, e1, n1, by rw [upd_ne hne]; exact h1, r1.to up⟩
  · refine E.sep k l b ⟨?_, h1.2⟩ ⟨?_, h2.2⟩
    · rw [show ρ.map ownQ = _ from so]
      exact h1.1
    · rw [show ρ.map ownQ = _ from so]
      exact h2.1
theorem sameOwn_set (ho : ρ[i]? = some (.own es)) : SameOwn ρ (ρ.set i (.own ds)) := by
  have hi : i < ρ.length := (List.getElem?_eq_some_iff.mp ho).1
  unfold SameOwn
  apply List.ext_getElem?
  intro k
  by_cases z : i = k
  · subst z
    rw [List.getElem?_map, List.getElem?_map, List.getElem?_set_self hi, ho]
    rfl
  · rw [List.getElem?_map, List.getElem?_map, List.getElem?_set_ne z]
theorem Env.owned (E : Env F H σ ρ) (ho : ρ[i]? = some (.own es)) : ∃ a vs, OwnAt σ ρ i a ∧ H a = some (.lst vs) ∧ RpL (Bof F σ ρ) H vs es := by
  obtain ⟨a, vs, e, n, h, r⟩ := E.own i es ho
  exact ⟨a, vs, ⟨own_get.mpr ⟨_, ho⟩, e⟩, h, r⟩
theorem stp_upd {o : HO} (ho : OwnAt σ ρ i a) : Stp (Oof σ ρ) H (upd H a o) := fun b x e n => by
  rw [upd_ne (fun z => n ⟨i, by rw [z]; exact ho⟩)]
  exact e
end

/-! ### statements -/
section
variable {pr : List Nat} {t ta te : TE} {tA : TA} {tt : TT} {s u : TS} {ρ ρ1 ρ2 ρ3 : Rho} {d e x y : PyData} {ds es : List PyData} {i j : Nat} {o : Out} {K : PySem.W.Frag} {b : Bool}
theorem sv_cons (h : Sv pr s ρ (.next ρ1)) (h2 : Sv pr u ρ1 o) : Sv pr (tSeq s u) ρ o := fun F σ0 H0 O0 σ H D E q => by
  refine h F σ0 H0 O0 σ H _ E fun σ' H' E' => h2 F σ0 H0 O0 σ' H' D E' q
theorem sv_stop (h : Sv pr s ρ o) (hn : ∀ ρ', o ≠ .next ρ') : Sv pr (tSeq s u) ρ o := fun F σ0 H0 O0 σ H D E q => by
  refine h F σ0 H0 O0 σ H _ E ?_
  cases o with
  | next ρ' => exact absurd rfl (hn ρ')
  | brk _ => exact q
  | cont _ => exact q
  | ret _ _ => exact q
theorem sv_next : Sv pr tNext ρ (.next ρ) := fun F σ0 H0 O0 σ H D E q => q σ H E
theorem sv_break : Sv pr tBreak ρ (.brk ρ) := fun F σ0 H0 O0 σ H D E q => q σ H E
theorem sv_cont : Sv pr tCont ρ (.cont ρ) := fun F σ0 H0 O0 σ H D E q => q σ H E
theorem sv_ret (h : Ev t ρ d ρ1) : Sv pr (tRet t) ρ (.ret d ρ1) := fun F σ0 H0 O0 σ H D E q => h.2 F σ H _ E.env fun v H' s E' r =>
  q v σ H' (E.step s E' h.1) (r.to fun a o e n => ⟨e, fun z => n (z.elim .inl fun ⟨i, hi, hz⟩ => .inr ⟨i, (E.prot i hi).2, by rw [(E.prot i hi).1]; exact hz⟩)⟩)
theorem sv_retN : Sv pr tRetN ρ (.ret .none ρ) := fun F σ0 H0 O0 σ H D E q => q _ σ H E .non
theorem sv_retO (ho : ρ[i]? = some (.own ds)) (hp : i ∉ pr) : Sv pr (tRet (tVar i)) ρ (.ret (.list ds) ρ) := fun F σ0 H0 O0 σ H D E q => by
  obtain ⟨a, vs, e1, n1, h1, r1⟩ := E.env.own i ds ho
  refine ⟨_, e1, q _ σ H E (.lst h1 ?_ (r1.to fun a o e n => ⟨e, fun z => n (z.elim .inl fun ⟨i, hi, hz⟩ => .inr ⟨i, (E.prot i hi).2, by rw [(E.prot i hi).1]; exact hz⟩)⟩))⟩
  rintro (z | ⟨k, hk, hz⟩)
  · exact n1 z
  · have := E.env.sep i k a ⟨own_get.mpr ⟨_, ho⟩, e1⟩ ⟨(E.prot k hk).2, by rw [(E.prot k hk).1]; exact hz⟩
    subst this
    exact hp hk
theorem sv_ifT (h : EvT tt ρ true ρ1) (h2 : Sv pr s ρ1 o) : Sv pr (tIfS tt s u) ρ o := fun F σ0 H0 O0 σ H D E q => h.2 F σ H _ E.env fun H' s' E' => iteT (h2 F σ0 H0 O0 σ H' D (E.step s' E' h.1) q)
theorem sv_ifF (h : EvT tt ρ false ρ1) (h2 : Sv pr u ρ1 o) : Sv pr (tIfS tt s u) ρ o := fun F σ0 H0 O0 σ H D E q => h.2 F σ H _ E.env fun H' s' E' => iteF (h2 F σ0 H0 O0 σ H' D (E.step s' E' h.1) q)
theorem sv_if (h : EvT tt ρ b ρ1) (h1 : b = true → Sv pr s ρ1 o) (h2 : b = false → Sv pr u ρ1 o) : Sv pr (tIfS tt s u) ρ o := by
  cases b with
  | true => exact sv_ifT h (h1 rfl)
  | false => exact sv_ifF h (h2 rfl)
theorem sv_set (h : Ev t ρ d ρ1) (hi : i < ρ1.length) (hp : i ∉ pr) : Sv pr (tAsg t (gName i)) ρ (.next (ρ1.set i (.d d))) := fun F σ0 H0 O0 σ H D E q => h.2 F σ H _ E.env fun v H' s E' r =>
  q _ H' ((E.step s E' h.1).set (h.1.bof F σ ▸ r) hi hp)
theorem sv_setO (h : EvF t ρ ds ρ1) (hi : i < ρ1.length) (hp : i ∉ pr) : Sv pr (tAsg t (gName i)) ρ (.next (ρ1.set i (.own ds))) := fun F σ0 H0 O0 σ H D E q => h.2 F σ H _ E.env fun a vs H' na s E' hH r =>
  q _ H' (E.setO na s h.1 E' hH r hi hp)
theorem sv_par (h : EvA tA ρ [x, y] ρ1) (hi : i < ρ1.length) (hj : j < ρ1.length) (hp : i ∉ pr) (hq : j ∉ pr) : Sv pr (tPar i j tA) ρ (.next ((ρ1.set i (.d x)).set j (.d y))) := fun F σ0 H0 O0 σ H D E q => h.2 F σ H _ E.env fun vs H' s E' r => by
  cases r with
  | cons r rr =>
    cases rr with
    | cons r' rr =>
      cases rr
      have E1 := (E.step s E' h.1).set (h.1.bof F σ ▸ r) hi hp
      exact ⟨_, _, rfl, q _ H' (E1.set ((h.1.bof F σ ▸ r').to fun a o q n => ⟨q, fun z => n (bof_set z)⟩) (by rw [List.length_set]; exact hj) hq)⟩
theorem sv_par3 {z : PyData} {k : Nat} (h : EvA tA ρ [x, y, z] ρ1) (hi : i < ρ1.length) (hj : j < ρ1.length) (hk : k < ρ1.length) (hp : i ∉ pr) (hq : j ∉ pr) (hr : k ∉ pr) : Sv pr (tPar3 i j k tA) ρ (.next (((ρ1.set i (.d x)).set j (.d y)).set k (.d z))) := fun F σ0 H0 O0 σ H D E q => h.2 F σ H _ E.env fun vs H' s E' r => by
  cases r with
  | cons r rr =>
    cases rr with
    | cons r' rr =>
      cases rr with
      | cons r'' rr =>
        cases rr
        have E1 := (E.step s E' h.1).set (h.1.bof F σ ▸ r) hi hp
        have E2 := E1.set ((h.1.bof F σ ▸ r').to fun a o q n => ⟨q, fun z => n (bof_set z)⟩) (by rw [List.length_set]; exact hj) hq
        exact ⟨_, _, _, rfl, q _ H' (E2.set ((h.1.bof F σ ▸ r'').to fun a o q n => ⟨q, fun z => n (bof_set (bof_set z))⟩) (by rw [List.length_set, List.length_set]; exact hk) hr)⟩
theorem sv_drop (h : Ev t ρ d ρ1) : Sv pr (tDrop t) ρ (.next ρ1) := fun F σ0 H0 O0 σ H D E q => h.2 F σ H _ E.env fun v H' s E' r => q σ H' (E.step s E' h.1)
theorem ev_append (h : Ev t ρ d ρ1) (ho : ρ1[i]? = some (.own ds)) (hl : ds.length < sizeLine) : Ev (tBM K "list" rAppend (tVar i) (tCons t tNil)) ρ .none (ρ1.set i (.own (ds ++ [d]))) := by
  refine ⟨h.1.trans (sameOwn_set ho), fun F σ H Q E q => ?_⟩
  have hk : (ρ.map ownQ)[i]? = some true := by
    rw [show ρ.map ownQ = ρ1.map ownQ from h.1]
    exact own_get.mpr ⟨_, ho⟩
  obtain ⟨d0, hk⟩ := own_get.mp hk
  obtain ⟨a0, vs0, e0, _, hH0, _⟩ := E.own i d0 hk
  refine ⟨.ref a0, e0, .inl ⟨rfl, _, SqL.of hH0⟩, h.2 F σ H _ E fun v H' s E' rv => ?_⟩
  obtain ⟨a, vs, hoa, hH, r⟩ := E'.owned ho
  have : a = a0 := by
    have z := hoa.2
    rw [e0] at z
    cases z
    rfl
  subst this
  refine ⟨a, vs, v, rfl, rfl, hH, by rw [r.length]; exact hl, q _ _ (s.trans ?_) (E'.upd hoa (r.append (.cons (h.1.bof F σ ▸ rv) .nil))) .non⟩
  rw [h.1.oof σ]
  exact stp_upd hoa
theorem sv_append (h : Ev t ρ d ρ1) (ho : ρ1[i]? = some (.own ds)) (hl : ds.length < sizeLine) : Sv pr (tDrop (tBM K "list" rAppend (tVar i) (tCons t tNil))) ρ (.next (ρ1.set i (.own (ds ++ [d])))) := sv_drop (ev_append h ho hl)
theorem sv_setL {tk : TE} {k : Int} (h : Ev t ρ d ρ1) (hk : Ev tk ρ1 (.int k) ρ2) (ho : ρ2[i]? = some (.own ds)) (hj : ixN ds.length k = some j) : Sv pr (tAsg t (gSub (tVar i) tk rSetL)) ρ (.next (ρ2.set i (.own (ds.set j d)))) := fun F σ0 H0 O0 σ H D E q => h.2 F σ H _ E.env fun v H1 s1 E1 rv => by
  have hq : (ρ1.map ownQ)[i]? = some true := by
    rw [show ρ1.map ownQ = ρ2.map ownQ from hk.1]
    exact own_get.mpr ⟨_, ho⟩
  obtain ⟨d0, hq⟩ := own_get.mp hq
  obtain ⟨a0, vs0, e0, _⟩ := E1.own i d0 hq
  refine ⟨.ref a0, e0, hk.2 F σ H1 _ E1 fun w H2 s2 E2 rw' => ?_⟩
  obtain ⟨a, vs, hoa, hH, r⟩ := E2.owned ho
  have : a = a0 := by
    have z := hoa.2
    rw [e0] at z
    cases z
    rfl
  subst this
  cases rw'
  have rv2 : Rp (Bof F σ ρ2) H2 v d := by
    rw [h.1.bof F σ] at rv
    have := rv.stp s2 oof_bof
    rw [hk.1.bof F σ] at this
    exact this
  refine ⟨a, vs, k, j, rfl, rfl, hH, by rw [r.length]; exact hj, q _ _ ?_⟩
  have E3 := (E.step s1 E1 h.1).step s2 E2 hk.1
  exact E3.step (stp_upd hoa) (E2.upd hoa (r.set rv2 j)) (sameOwn_set ho)
theorem sv_aug {f : Int → Int → Int} {m n : Int} (hx : ρ[i]? = some (.d (.int m))) (h : Ev t ρ (.int n) ρ1) (hi : i < ρ1.length) (hp : i ∉ pr) : Sv pr (tAug i t (ipI f)) ρ (.next (ρ1.set i (.d (.int (f m n))))) := fun F σ0 H0 O0 σ H D E q => by
  obtain ⟨v, ev, rv⟩ := E.env.dat i _ hx
  cases rv
  refine ⟨_, ev, h.2 F σ H _ E.env fun w H' s E' r => ?_⟩
  cases r
  exact ⟨m, n, rfl, rfl, q _ H' ((E.step s E' h.1).set (.int _) hi hp)⟩
/-! targets -/
def Tg (pr ts : List Nat) (g : TG) (d : PyData) (ρ ρ' : Rho) : Prop :=
  ∀ (F : AP) (σ0 : L2.St) (H0 : Hp) (O0 : AP) (σ : L2.St) (H : Hp) (v : V) (Q : L2.St → Hp → Prop), EnvS pr F σ0 H0 O0 σ H ρ → Rp (Bof F σ ρ) H v d →
    (∀ σ', EnvS pr F σ0 H0 O0 σ' H ρ' → (∀ a, Bof F σ' ρ' a → Bof F σ ρ a) → σ'.length = σ.length → (∀ j, j ∉ ts → σ'[j]? = σ[j]?) → Q σ' H) → g v σ H Q
def TgL (pr ts : List Nat) (g : TGs) (ds : List PyData) (ρ ρ' : Rho) : Prop :=
  ∀ (F : AP) (σ0 : L2.St) (H0 : Hp) (O0 : AP) (σ : L2.St) (H : Hp) (vs : List V) (Q : L2.St → Hp → Prop), EnvS pr F σ0 H0 O0 σ H ρ → RpL (Bof F σ ρ) H vs ds →
    (∀ σ', EnvS pr F σ0 H0 O0 σ' H ρ' → (∀ a, Bof F σ' ρ' a → Bof F σ ρ a) → σ'.length = σ.length → (∀ j, j ∉ ts → σ'[j]? = σ[j]?) → Q σ' H) → g vs σ H Q
theorem tg_name {ts : List Nat} (hi : i < ρ.length) (hp : i ∉ pr) (ht : i ∈ ts) : Tg pr ts (gName i) d ρ (ρ.set i (.d d)) := fun F σ0 H0 O0 σ H v Q E r q =>
  q _ (E.set r hi hp) (fun a z => bof_set z) (List.length_set) fun j hj => List.getElem?_set_ne fun z => hj (by rw [← z]; exact ht)
theorem tgs_nil {ts : List Nat} : TgL pr ts gNil [] ρ ρ := fun F σ0 H0 O0 σ H vs Q E r q => by
  cases r
  exact ⟨rfl, q σ E (fun _ z => z) rfl fun _ _ => rfl⟩
theorem tgs_cons {ts : List Nat} {g : TG} {gs : TGs} (h : Tg pr ts g d ρ ρ1) (h2 : TgL pr ts gs ds ρ1 ρ2) : TgL pr ts (gCons g gs) (d :: ds) ρ ρ2 := fun F σ0 H0 O0 σ H vs Q E r q => by
  cases r with
  | cons r rr =>
    refine ⟨_, _, rfl, h F σ0 H0 O0 σ H _ _ E r fun σ1 E1 b1 l1 t1 => h2 F σ0 H0 O0 σ1 H _ _ E1 (rr.to fun a o q n => ⟨q, fun z => n (b1 a z)⟩) fun σ2 E2 b2 l2 t2 => ?_⟩
    exact q σ2 E2 (fun a z => b1 a (b2 a z)) (l2.trans l1) fun j hj => (t2 j hj).trans (t1 j hj)
theorem tg_tup {ts : List Nat} {gs : TGs} {n : Nat} (h : TgL pr ts gs ds ρ ρ1) (hn : ds.length = n) : Tg pr ts (gTup K n gs) (.tuple ds) ρ ρ1 := fun F σ0 H0 O0 σ H v Q E r q => by
  cases r with
  | tup hd nb r => exact ⟨_, _, rfl, .of hd, by rw [r.length]; exact hn, h F σ0 H0 O0 σ H _ Q E r q⟩
theorem sv_asg {ts : List Nat} {g : TG} (h : Ev t ρ d ρ1) (hg : Tg pr ts g d ρ1 ρ2) : Sv pr (tAsg t g) ρ (.next ρ2) := fun F σ0 H0 O0 σ H D E q => h.2 F σ H _ E.env fun v H' s E' r =>
  hg F σ0 H0 O0 σ H' v _ (E.step s E' h.1) (h.1.bof F σ ▸ r) fun σ' E2 _ _ _ => q σ' H' E2
end
end EV

end
section
set_option Elab.async false
set_option linter.all false
set_option maxRecDepth 100000
set_option maxHeartbeats 400000
namespace EV
open PySem PySem.Spec PyProof.Rows L2 RZ
variable [KS]

section
variable {pr : List Nat} {F : AP} {σ0 : L2.St} {H0 : Hp} {O0 : AP} {σ σ1 σ2 : L2.St} {H H1 H2 : Hp} {ρ ρ1 ρ2 ρ3 : Rho} {d e : PyData} {ds es : List PyData} {v : V} {a : Addr} {i j : Nat} {K : PySem.W.Frag}
theorem EnvS.self (E : EnvS pr F σ0 H0 O0 σ H ρ) : EnvS pr F σ0 H (Oof σ ρ) σ H ρ := ⟨E.env, .refl, E.prot, fun i a z => .inl ⟨i, z⟩⟩
theorem EnvS.rebase (E1 : EnvS pr F σ0 H0 O0 σ1 H1 ρ1) (E2 : EnvS pr F σ0 H1 (Oof σ1 ρ1) σ2 H2 ρ2) : EnvS pr F σ0 H0 O0 σ2 H2 ρ2 where
  env := E2.env
  stp := fun a o h n => E2.stp a o (E1.stp a o h n) fun ⟨i, z⟩ => by
    rcases E1.new i a z with q | q
    · exact n q
    · rw [h] at q
      cases q
  prot := E2.prot
  new := fun i a z => by
    rcases E2.new i a z with ⟨j, q⟩ | q
    · exact E1.new j a q
    · by_cases hO : O0 a
      · exact .inl hO
      · refine .inr ?_
        cases r : H0 a with
        | none => rfl
        | some o =>
          rw [E1.stp a o r hO] at q
          cases q
/-- a loop's turns -/
inductive Lp (tg : PyData → Rho → Rho → Prop) (body : Rho → Out → Prop) : List PyData → Rho → Out → Prop
  | done {ρ : Rho} : Lp tg body [] ρ (.next ρ)
  | nx {d : PyData} {ds : List PyData} {ρ ρ1 ρ2 : Rho} {o : Out} : tg d ρ ρ1 → body ρ1 (.next ρ2) → Lp tg body ds ρ2 o → Lp tg body (d :: ds) ρ o
  | ct {d : PyData} {ds : List PyData} {ρ ρ1 ρ2 : Rho} {o : Out} : tg d ρ ρ1 → body ρ1 (.cont ρ2) → Lp tg body ds ρ2 o → Lp tg body (d :: ds) ρ o
  | bk {d : PyData} {ds : List PyData} {ρ ρ1 ρ2 : Rho} : tg d ρ ρ1 → body ρ1 (.brk ρ2) → Lp tg body (d :: ds) ρ (.next ρ2)
  | rt {d : PyData} {ds : List PyData} {ρ ρ1 ρ2 : Rho} {r : PyData} : tg d ρ ρ1 → body ρ1 (.ret r ρ2) → Lp tg body (d :: ds) ρ (.ret r ρ2)
theorem sv_for {ts : List Nat} {wi : TI} {g : TG} {tb : TS} {o : Out} (hi : EvI wi ρ ds ρ1) (hl : Lp (Tg pr ts g) (Sv pr tb) ds ρ1 o) : Sv pr (tFor wi g tb) ρ o := fun F σ0 H0 O0 σ H D E q => by
  refine hi.2 F σ H _ E.env fun J H1 s1 E1 hw => ?_
  have ES := E.step s1 E1 hi.1
  refine ⟨fun i m σ' H' => m = ds.length - i ∧ i ≤ ds.length ∧ ∃ ρi, EnvS pr F σ0 H1 (Oof σ ρ1) σ' H' ρi ∧ Lp (Tg pr ts g) (Sv pr tb) (ds.drop i) ρi o, ⟨_, rfl, Nat.zero_le _, ρ1, ES.self, hl⟩, ?_⟩
  rintro i m σ' H' ⟨rfl, hi', ρi, Ei, li⟩
  have hw' := hw H' (Bof F σ' ρi) (fun a o h n => ⟨Ei.stp a o h fun z => n (.inr (by rw [hi.1.oof σ]; exact z)), fun z => by
    rcases z with z | ⟨k, z⟩
    · exact n (.inl z)
    · rcases Ei.new k a z with q | q
      · exact n (.inr (by rw [hi.1.oof σ]; exact q))
      · rw [h] at q
        cases q⟩) (fun a h => Ei.env.bH h) i
  by_cases hlt : i < ds.length
  · refine .inr ⟨hw'.1 hlt, fun σ2 H2 => ∃ ρ2, EnvS pr F σ0 H1 (Oof σ ρ1) σ2 H2 ρ2 ∧ Lp (Tg pr ts g) (Sv pr tb) (ds.drop (i + 1)) ρ2 o, fun σ2 H2 ⟨ρ2, e2, l2⟩ => ⟨_, by omega, rfl, hlt, ρ2, e2, l2⟩, fun x H3 hy => ?_⟩
    obtain ⟨sm, hr⟩ := hw'.2.2 x H3 hy
    have hd : ds[i]? = some ds[i] := List.getElem?_eq_getElem hlt
    have rx := hr _ hd
    have Ei3 := Ei.step (Stp.same sm) (Ei.env.same sm) (SameOwn.refl _)
    rw [List.drop_eq_getElem_cons hlt] at li
    cases li with
    | nx ht hb hl => exact ht F σ0 H1 _ σ' H3 x _ Ei3 rx fun σ4 E4 _ _ _ => hb F σ0 H1 _ σ4 H3 _ E4 fun σ5 H5 E5 => ⟨_, E5, hl⟩
    | ct ht hb hl => exact ht F σ0 H1 _ σ' H3 x _ Ei3 rx fun σ4 E4 _ _ _ => hb F σ0 H1 _ σ4 H3 _ E4 fun σ5 H5 E5 => ⟨_, E5, hl⟩
    | bk ht hb => exact ht F σ0 H1 _ σ' H3 x _ Ei3 rx fun σ4 E4 _ _ _ => hb F σ0 H1 _ σ4 H3 _ E4 fun σ5 H5 E5 => q σ5 H5 (ES.rebase E5)
    | rt ht hb => exact ht F σ0 H1 _ σ' H3 x _ Ei3 rx fun σ4 E4 _ _ _ => hb F σ0 H1 _ σ4 H3 _ E4 fun v σ5 H5 E5 r5 => q v σ5 H5 (ES.rebase E5) r5
  · have : i = ds.length := by omega
    subst this
    rw [List.drop_length] at li
    cases li
    exact .inl ⟨hw'.2.1 (Nat.le_refl _), q σ' H' (ES.rebase Ei)⟩
/-- a while -/
inductive Wh (tst : Rho → Bool → Rho → Prop) (body : Rho → Out → Prop) : Nat → Rho → Out → Prop
  | stop {ρ ρ1 : Rho} {n : Nat} : tst ρ false ρ1 → Wh tst body n ρ (.next ρ1)
  | nx {ρ ρ1 ρ2 : Rho} {o : Out} {n : Nat} : tst ρ true ρ1 → body ρ1 (.next ρ2) → Wh tst body n ρ2 o → Wh tst body (n + 1) ρ o
  | ct {ρ ρ1 ρ2 : Rho} {o : Out} {n : Nat} : tst ρ true ρ1 → body ρ1 (.cont ρ2) → Wh tst body n ρ2 o → Wh tst body (n + 1) ρ o
  | bk {ρ ρ1 ρ2 : Rho} {n : Nat} : tst ρ true ρ1 → body ρ1 (.brk ρ2) → Wh tst body (n + 1) ρ (.next ρ2)
  | rt {ρ ρ1 ρ2 : Rho} {r : PyData} {n : Nat} : tst ρ true ρ1 → body ρ1 (.ret r ρ2) → Wh tst body (n + 1) ρ (.ret r ρ2)
theorem sv_while {c : TT} {tb : TS} {o : Out} {n : Nat} (hl : Wh (EvT c) (Sv pr tb) n ρ o) : Sv pr (tWhile c tb) ρ o := fun F σ0 H0 O0 σ H D E q => by
  refine ⟨fun m σ' H' => ∃ ρi, EnvS pr F σ0 H0 O0 σ' H' ρi ∧ Wh (EvT c) (Sv pr tb) m ρi o, ⟨n, ρ, E, hl⟩, ?_⟩
  rintro m σ' H' ⟨ρi, Ei, li⟩
  cases li with
  | stop h => exact h.2 F σ' H' _ Ei.env fun H2 s2 E2 => iteF (q σ' H2 (Ei.step s2 E2 h.1))
  | @nx _ ρ1 ρ2 _ k h hb hl => exact h.2 F σ' H' _ Ei.env fun H2 s2 E2 => iteT ⟨fun σ3 H3 => ∃ ρ3, EnvS pr F σ0 H0 O0 σ3 H3 ρ3 ∧ Wh (EvT c) (Sv pr tb) k ρ3 o, fun σ3 H3 z => ⟨k, Nat.lt_succ_self _, z⟩, hb F σ0 H0 O0 σ' H2 _ (Ei.step s2 E2 h.1) fun σ5 H5 E5 => ⟨_, E5, hl⟩⟩
  | @ct _ ρ1 ρ2 _ k h hb hl => exact h.2 F σ' H' _ Ei.env fun H2 s2 E2 => iteT ⟨fun σ3 H3 => ∃ ρ3, EnvS pr F σ0 H0 O0 σ3 H3 ρ3 ∧ Wh (EvT c) (Sv pr tb) k ρ3 o, fun σ3 H3 z => ⟨k, Nat.lt_succ_self _, z⟩, hb F σ0 H0 O0 σ' H2 _ (Ei.step s2 E2 h.1) fun σ5 H5 E5 => ⟨_, E5, hl⟩⟩
  | bk h hb => exact h.2 F σ' H' _ Ei.env fun H2 s2 E2 => iteT ⟨fun _ _ => False, fun _ _ z => z.elim, hb F σ0 H0 O0 σ' H2 _ (Ei.step s2 E2 h.1) fun σ5 H5 E5 => q σ5 H5 E5⟩
  | rt h hb => exact h.2 F σ' H' _ Ei.env fun H2 s2 E2 => iteT ⟨fun _ _ => False, fun _ _ z => z.elim, hb F σ0 H0 O0 σ' H2 _ (Ei.step s2 E2 h.1) fun v σ5 H5 E5 r5 => q v σ5 H5 E5 r5⟩

/-! ### comprehensions -/
def wipeR (ρ : Rho) : List Nat → Rho
  | [] => ρ
  | v :: vs => (wipeR ρ vs).set v .no
/-- what is one's own as in the second, all else as in the first -/
def mrg : Rho → Rho → Rho
  | .own _ :: r, b :: r' => b :: mrg r r'
  | a :: r, _ :: r' => a :: mrg r r'
  | r, _ => r
theorem mrg_get : ∀ {ρ ρ' : Rho} (i : Nat), ρ.length = ρ'.length → (mrg ρ ρ')[i]? = if (ρ.map ownQ)[i]? = some true then ρ'[i]? else ρ[i]?
  | [], [], i, _ => by simp [mrg]
  | .own x :: r, b :: r', 0, h => by simp [mrg, ownQ]
  | .no :: r, b :: r', 0, h => by simp [mrg, ownQ]
  | .d x :: r, b :: r', 0, h => by simp [mrg, ownQ]
  | .own x :: r, b :: r', i + 1, h => by
    have := mrg_get (ρ := r) (ρ' := r') i (by simpa using h)
    simpa [mrg] using this
  | .no :: r, b :: r', i + 1, h => by
    have := mrg_get (ρ := r) (ρ' := r') i (by simpa using h)
    simpa [mrg] using this
  | .d x :: r, b :: r', i + 1, h => by
    have := mrg_get (ρ := r) (ρ' := r') i (by simpa using h)
    simpa [mrg] using this
theorem mrg_own {ρ ρ' : Rho} (h : SameOwn ρ ρ') : SameOwn ρ (mrg ρ ρ') := by
  apply List.ext_getElem?
  intro i
  rw [List.getElem?_map, List.getElem?_map, mrg_get i h.len]
  by_cases z : (ρ.map ownQ)[i]? = some true
  · rw [if_pos z, ← List.getElem?_map, ← List.getElem?_map, show ρ.map ownQ = _ from h]
  · rw [if_neg z]
inductive Lc (vs : List Nat) (tg : PyData → Rho → Rho → Prop) (tst : Rho → Bool → Rho → Prop) (elt : Rho → PyData → Rho → Prop) : List PyData → Rho → List PyData → Rho → Prop
  | nil {ρ : Rho} : Lc vs tg tst elt [] ρ [] ρ
  | skip {d : PyData} {ds ys : List PyData} {ρ ρa ρb ρ' : Rho} : tg d (wipeR ρ vs) ρa → SameOwn (wipeR ρ vs) ρa → tst ρa false ρb → Lc vs tg tst elt ds (mrg ρ ρb) ys ρ' → Lc vs tg tst elt (d :: ds) ρ ys ρ'
  | keep {d y : PyData} {ds ys : List PyData} {ρ ρa ρb ρc ρ' : Rho} : tg d (wipeR ρ vs) ρa → SameOwn (wipeR ρ vs) ρa → tst ρa true ρb → elt ρb y ρc → Lc vs tg tst elt ds (mrg ρ ρc) ys ρ' → Lc vs tg tst elt (d :: ds) ρ (y :: ys) ρ'
theorem wipeR_length : ∀ vs : List Nat, (wipeR ρ vs).length = ρ.length
  | [] => rfl
  | v :: vs => by
    unfold wipeR
    rw [List.length_set, wipeR_length vs]
theorem wipe_get : ∀ (vs : List Nat) (i : Nat), i ∉ vs → (wipe σ vs)[i]? = σ[i]?
  | [], i, _ => rfl
  | v :: vs, i, h => by
    unfold wipe
    rw [List.getElem?_set_ne fun z => h (by rw [z]; exact List.mem_cons_self), wipe_get vs i fun z => h (List.mem_cons_of_mem _ z)]
theorem wipeR_get : ∀ (vs : List Nat) (i : Nat), i ∉ vs → (wipeR ρ vs)[i]? = ρ[i]?
  | [], i, _ => rfl
  | v :: vs, i, h => by
    unfold wipeR
    rw [List.getElem?_set_ne fun z => h (by rw [z]; exact List.mem_cons_self), wipeR_get vs i fun z => h (List.mem_cons_of_mem _ z)]
theorem wipeR_at : ∀ (vs : List Nat) (i : Nat), i ∈ vs → i < ρ.length → (wipeR ρ vs)[i]? = some .no
  | v :: vs, i, h, hl => by
    unfold wipeR
    by_cases z : v = i
    · subst z
      rw [List.getElem?_set_self (by rw [wipeR_length]; exact hl)]
    · rw [List.getElem?_set_ne z]
      exact wipeR_at vs i ((List.mem_cons.mp h).resolve_left fun q => z q.symm) hl
theorem wipe_at : ∀ (vs : List Nat) (i : Nat), i ∈ vs → i < σ.length → (wipe σ vs)[i]? = some none
  | v :: vs, i, h, hl => by
    unfold wipe
    by_cases z : v = i
    · subst z
      rw [List.getElem?_set_self (by rw [wipe_length]; exact hl)]
    · rw [List.getElem?_set_ne z]
      exact wipe_at vs i ((List.mem_cons.mp h).resolve_left fun q => z q.symm) hl
theorem wipe_eq {vs : List Nat} (hl : σ1.length = σ.length) (h : ∀ j, j ∉ vs → σ1[j]? = σ[j]?) : wipe σ1 vs = wipe σ vs := by
  apply List.ext_getElem?
  intro i
  by_cases z : i ∈ vs
  · by_cases hi : i < σ.length
    · rw [wipe_at vs i z hi, wipe_at vs i z (by rw [hl]; exact hi)]
    · rw [List.getElem?_eq_none (by rw [wipe_length]; omega), List.getElem?_eq_none (by rw [wipe_length]; omega)]
  · rw [wipe_get vs i z, wipe_get vs i z, h i z]
/-- the comprehension's own names are no lists of one's own -/
def NoOwn (ρ : Rho) (vs : List Nat) : Prop := ∀ i ∈ vs, (ρ.map ownQ)[i]? ≠ some true
theorem ownAt_wipe {vs : List Nat} (h : NoOwn ρ vs) : OwnAt (wipe σ vs) (wipeR ρ vs) i a ↔ OwnAt σ ρ i a := by
  by_cases z : i ∈ vs
  · constructor
    · rintro ⟨h1, h2⟩
      obtain ⟨es, h1⟩ := own_get.mp h1
      by_cases hl : i < ρ.length
      · rw [wipeR_at vs i z hl] at h1
        cases h1
      · rw [List.getElem?_eq_none (by rw [wipeR_length]; omega)] at h1
        cases h1
    · rintro ⟨h1, _⟩
      exact absurd h1 (h i z)
  · unfold OwnAt
    rw [wipe_get vs i z, List.getElem?_map, wipeR_get vs i z, List.getElem?_map]
theorem oof_wipe {vs : List Nat} (h : NoOwn ρ vs) : Oof (wipe σ vs) (wipeR ρ vs) = Oof σ ρ := by
  funext a
  exact propext ⟨fun ⟨i, z⟩ => ⟨i, (ownAt_wipe h).mp z⟩, fun ⟨i, z⟩ => ⟨i, (ownAt_wipe h).mpr z⟩⟩
theorem Env.wipe {vs : List Nat} (E : Env F H σ ρ) (h : NoOwn ρ vs) : Env F H (wipe σ vs) (wipeR ρ vs) where
  len := by rw [wipe_length, wipeR_length]; exact E.len
  fr := E.fr
  dat := fun i d hd => by
    unfold Bof
    rw [oof_wipe h]
    by_cases z : i ∈ vs
    · have hl := (List.getElem?_eq_some_iff.mp hd).1
      rw [wipeR_length] at hl
      rw [wipeR_at vs i z hl] at hd
      cases hd
    · rw [wipeR_get vs i z] at hd
      obtain ⟨v, e, r⟩ := E.dat i d hd
      exact ⟨v, by rw [wipe_get vs i z]; exact e, r⟩
  own := fun i d hd => by
    unfold Bof
    rw [oof_wipe h]
    by_cases z : i ∈ vs
    · have hl := (List.getElem?_eq_some_iff.mp hd).1
      rw [wipeR_length] at hl
      rw [wipeR_at vs i z hl] at hd
      cases hd
    · rw [wipeR_get vs i z] at hd
      obtain ⟨b, ws, e, n, hH, r⟩ := E.own i d hd
      exact ⟨b, ws, by rw [wipe_get vs i z]; exact e, n, hH, r⟩
  sep := fun i j a h1 h2 => E.sep i j a ((ownAt_wipe h).mp h1) ((ownAt_wipe h).mp h2)
/-- back from the block: own lists as the block has left them -/
theorem Env.back {vs : List Nat} (E : Env F H σ ρ) (h : NoOwn ρ vs) (s : Stp (Oof σ ρ) H H1) (hw : L2.wipe σ1 vs = L2.wipe σ vs) (E1 : Env F H1 σ1 ρ1) (so : SameOwn (wipeR ρ vs) ρ1) : Env F H1 σ (mrg ρ ρ1) ∧ SameOwn ρ (mrg ρ ρ1) := by
  have hl : ρ.length = ρ1.length := by rw [← so.len, wipeR_length]
  have gets : ∀ i, (ρ.map ownQ)[i]? = some true → i ∉ vs ∧ (ρ1.map ownQ)[i]? = some true ∧ σ1[i]? = σ[i]? := fun i hi => by
    have z : i ∉ vs := fun z => h i z hi
    refine ⟨z, ?_, ?_⟩
    · rw [← show (wipeR ρ vs).map ownQ = ρ1.map ownQ from so, List.getElem?_map, wipeR_get vs i z, ← List.getElem?_map]
      exact hi
    · rw [← wipe_get vs i z, hw, wipe_get vs i z]
  have so2 : SameOwn ρ (mrg ρ ρ1) := by
    apply List.ext_getElem?
    intro i
    rw [List.getElem?_map, List.getElem?_map, mrg_get i hl]
    by_cases z : (ρ.map ownQ)[i]? = some true
    · rw [if_pos z, ← List.getElem?_map, ← List.getElem?_map, (gets i z).2.1, z]
    · rw [if_neg z]
  have sub : ∀ a, Oof σ ρ a → Oof σ1 ρ1 a := fun a ⟨i, h1, h2⟩ => ⟨i, (gets i h1).2.1, by rw [(gets i h1).2.2]; exact h2⟩
  refine ⟨⟨by rw [← so2.len]; exact E.len, E1.fr, fun i d hd => ?_, fun i d hd => ?_, fun i j a h1 h2 => ?_⟩, so2⟩
  · rw [← so2.bof F σ]
    rw [mrg_get i hl] at hd
    by_cases z : (ρ.map ownQ)[i]? = some true
    · rw [if_pos z] at hd
      have := (gets i z).2.1
      rw [List.getElem?_map, hd] at this
      cases this
    · rw [if_neg z] at hd
      obtain ⟨v, e, r⟩ := E.dat i d hd
      exact ⟨v, e, r.stp s oof_bof⟩
  · rw [← so2.bof F σ]
    rw [mrg_get i hl] at hd
    by_cases z : (ρ.map ownQ)[i]? = some true
    · rw [if_pos z] at hd
      obtain ⟨b, ws, e, n, hH, r⟩ := E1.own i d hd
      exact ⟨b, ws, by rw [← (gets i z).2.2]; exact e, n, hH, r.to fun a o q n => ⟨q, fun y => n (y.elim .inl fun y => .inr (sub a y))⟩⟩
    · rw [if_neg z] at hd
      exact absurd (own_get.mpr ⟨d, hd⟩) z
  · exact E.sep i j a ⟨by rw [show ρ.map ownQ = _ from so2]; exact h1.1, h1.2⟩ ⟨by rw [show ρ.map ownQ = _ from so2]; exact h2.1, h2.2⟩
theorem NoOwn.same {vs : List Nat} (h : NoOwn ρ vs) (so : SameOwn ρ ρ1) : NoOwn ρ1 vs := fun i hi z => h i hi (by rw [show ρ.map ownQ = _ from so]; exact z)
theorem sameOwn_wipe {vs : List Nat} (h : NoOwn ρ vs) : ∀ i : Nat, ((wipeR ρ vs).map ownQ)[i]? = some true ↔ (ρ.map ownQ)[i]? = some true := fun i => by
  by_cases z : i ∈ vs
  · constructor
    · intro q
      obtain ⟨es, q⟩ := own_get.mp q
      have hl := (List.getElem?_eq_some_iff.mp q).1
      rw [wipeR_length] at hl
      rw [wipeR_at vs i z hl] at q
      cases q
    · intro q
      exact absurd q (h i z)
  · rw [List.getElem?_map, wipeR_get vs i z, List.getElem?_map]
theorem trk_env {pr : List Nat} (E : Env F H σ ρ) : EnvS [] F σ H (Oof σ ρ) σ H ρ := ⟨E, .refl, fun _ z => (nomatch z), fun i a z => .inl ⟨i, z⟩⟩
theorem ef_lc {wi : TI} {g : TG} {tt : TT} {te : TE} {vs : List Nat} {ys : List PyData} (hi : EvI wi ρ ds ρ1) (hl : Lc vs (Tg [] vs g) (EvT tt) (Ev te) ds ρ1 ys ρ2) (hn : NoOwn ρ1 vs) (hs : SameOwn ρ1 ρ2) (hz : ds.length ≤ sizeLine) : EvF (tLc wi g tt te vs) ρ ys ρ2 := by
  refine ⟨hi.1.trans hs, fun F σ H Q E q => ?_⟩
  refine hi.2 F σ H _ E fun J H1 s1 E1 hw D nD => ?_
  have nH : H D = none := by
    cases e : H D with
    | none => rfl
    | some o =>
      by_cases hO : Oof σ ρ D
      · exact absurd nD (E1.bH (hi.1.bof F σ ▸ Or.inr hO))
      · rw [s1 D o e hO] at nD
        cases nD
  have E2 := E1.hide (o := .lst []) nD
  refine ⟨fun i m H' => m = ds.length - i ∧ i ≤ ds.length ∧ ∃ ρi accV accD rest, SameOwn ρ1 ρi ∧ Env (fun b => F b ∨ b = D) H' σ ρi ∧ Stp (fun b => Oof σ ρ1 b ∨ b = D) (upd H1 D (.lst [])) H' ∧ H' D = some (.lst accV) ∧ accV.length ≤ i ∧ RpL (Bof (fun b => F b ∨ b = D) σ ρi) H' accV accD ∧
    Lc vs (Tg [] vs g) (EvT tt) (Ev te) (ds.drop i) ρi rest ρ2 ∧ accD ++ rest = ys, ⟨_, rfl, Nat.zero_le _, ρ1, [], [], ys, rfl, E2, .refl, upd_same, Nat.le_refl _, .nil, hl, rfl⟩, ?_⟩
  rintro i m H' ⟨rfl, hi', ρi, accV, accD, rest, soi, Ei, si, hD, hlen, ri, li, hy⟩
  have hni := hn.same soi
  have hw' := hw H' (Bof (fun b => F b ∨ b = D) σ ρi) (fun a o h n => by
    have nD' : a ≠ D := fun z => by
      subst z
      rw [nD] at h
      cases h
    have nO : ¬ Oof σ ρ1 a := fun z => n (.inr (by rw [hi.1.oof σ]; exact z))
    refine ⟨si a o (by rw [upd_ne nD']; exact h) (fun z => z.elim nO nD'), fun z => ?_⟩
    rcases z with (z | z) | z
    · exact n (.inl z)
    · exact nD' z
    · exact nO (by rw [soi.oof σ]; exact z)) (fun a h => Ei.bH h) i
  by_cases hlt : i < ds.length
  · refine .inr ⟨hw'.1 hlt, fun H2 => ∃ ρ' accV accD rest, SameOwn ρ1 ρ' ∧ Env (fun b => F b ∨ b = D) H2 σ ρ' ∧ Stp (fun b => Oof σ ρ1 b ∨ b = D) (upd H1 D (.lst [])) H2 ∧ H2 D = some (.lst accV) ∧ accV.length ≤ i + 1 ∧ RpL (Bof (fun b => F b ∨ b = D) σ ρ') H2 accV accD ∧
      Lc vs (Tg [] vs g) (EvT tt) (Ev te) (ds.drop (i + 1)) ρ' rest ρ2 ∧ accD ++ rest = ys, fun H2 ⟨ρ', av, ad, re, e1, e2, e3, e4, e5, e6, e7, e8⟩ => ⟨_, by omega, rfl, hlt, ρ', av, ad, re, e1, e2, e3, e4, e5, e6, e7, e8⟩, fun x H3 hyl => ?_⟩
    obtain ⟨sm, hr⟩ := hw'.2.2 x H3 hyl
    have rx := hr _ (List.getElem?_eq_getElem hlt)
    have E3 := Ei.same sm
    have E3w := E3.wipe hni
    have ES := trk_env (pr := []) E3w
    have rxw : Rp (Bof (fun b => F b ∨ b = D) (L2.wipe σ vs) (wipeR ρi vs)) H3 x ds[i] := by
      unfold Bof
      rw [oof_wipe hni]
      exact rx
    have hD3 : H3 D = some (.lst accV) := sm _ _ hD
    rw [List.drop_eq_getElem_cons hlt] at li
    -- what is the same behind each kind of turn
    have bk : ∀ {H4 : Hp} {σ4 : L2.St} {ρ4 : Rho}, Stp (Oof σ ρ1) H3 H4 → L2.wipe σ4 vs = L2.wipe σ vs → Env (fun b => F b ∨ b = D) H4 σ4 ρ4 → SameOwn (wipeR ρi vs) ρ4 →
        SameOwn ρ1 (mrg ρi ρ4) ∧ Env (fun b => F b ∨ b = D) H4 σ (mrg ρi ρ4) ∧ Stp (fun b => Oof σ ρ1 b ∨ b = D) (upd H1 D (.lst [])) H4 ∧ H4 D = some (.lst accV) ∧ RpL (Bof (fun b => F b ∨ b = D) σ (mrg ρi ρ4)) H4 accV accD := fun {H4 σ4 ρ4} s4 w4 E4 so4 => by
      obtain ⟨E5, so5⟩ := E3.back hni (by rw [← soi.oof σ]; exact s4) w4 E4 so4
      refine ⟨soi.trans so5, E5, (si.trans (.same sm)).trans fun a o h n => s4 a o h fun z => n (.inl z), s4 D _ hD3 fun z => ?_, ?_⟩
      · have : ¬ Bof F σ ρ1 D := E1.fresh nD
        exact this (.inr z)
      · rw [← so5.bof]
        exact (ri.stp (.same sm) (O := Oof σ ρi) oof_bof).stp (by rw [← soi.oof σ]; exact s4) oof_bof
    have oofa : ∀ {ρa : Rho} {σa : L2.St}, SameOwn (wipeR ρi vs) ρa → L2.wipe σa vs = L2.wipe σ vs → Oof σa ρa = Oof σ ρ1 := fun {ρa σa} so w => by
      rw [← so.oof, soi.oof σ]
      funext a
      refine propext ⟨fun ⟨k, h1, h2⟩ => ?_, fun ⟨k, h1, h2⟩ => ?_⟩
      · have h1' := (sameOwn_wipe hni k).mp h1
        have nk : k ∉ vs := fun z => hni k z h1'
        exact ⟨k, h1', by rw [← wipe_get vs k nk, ← w, wipe_get vs k nk]; exact h2⟩
      · have nk : k ∉ vs := fun z => hni k z h1
        exact ⟨k, (sameOwn_wipe hni k).mpr h1, by rw [← wipe_get vs k nk, w, wipe_get vs k nk]; exact h2⟩
    cases li with
    | @skip _ _ _ _ ρa ρb _ ht soa hb hl =>
      refine ht _ _ H3 _ _ H3 x _ ES rxw fun σa Ea _ la ta => ?_
      have wa : L2.wipe σa vs = L2.wipe σ vs := wipe_eq (la.trans (wipe_length _ _)) fun j hj => (ta j hj).trans (wipe_get vs j hj)
      refine ⟨wa, hb.2 _ σa H3 _ Ea.env fun H4 s4 E4 => iteF ?_⟩
      rw [oofa soa wa] at s4
      obtain ⟨e1, e2, e3, e4, e5⟩ := bk s4 wa E4 (soa.trans hb.1)
      exact ⟨_, accV, accD, rest, e1, e2, e3, e4, by omega, e5, hl, hy⟩
    | @keep _ y _ ys' _ ρa ρb ρc _ ht soa hb he hl =>
      refine ht _ _ H3 _ _ H3 x _ ES rxw fun σa Ea _ la ta => ?_
      have wa : L2.wipe σa vs = L2.wipe σ vs := wipe_eq (la.trans (wipe_length _ _)) fun j hj => (ta j hj).trans (wipe_get vs j hj)
      refine ⟨wa, hb.2 _ σa H3 _ Ea.env fun H4 s4 E4 => iteT (he.2 _ σa H4 _ E4 fun v H5 s5 E5 r5 => ?_)⟩
      rw [oofa soa wa] at s4
      rw [oofa (soa.trans hb.1) wa] at s5
      obtain ⟨e1, e2, e3, e4, e5⟩ := bk (s4.trans s5) wa E5 ((soa.trans hb.1).trans he.1)
      refine ⟨accV, e4, by omega, mrg ρi ρc, accV ++ [v], accD ++ [y], ys', e1, ?_, ?_, upd_same, by rw [List.length_append]; simp; omega, ?_, hl, by rw [List.append_assoc]; exact hy⟩
      · -- the hidden list turns
        have up : ∀ b o, H5 b = some o → ¬ Bof (fun b => F b ∨ b = D) σ (mrg ρi ρc) b → upd H5 D (.lst (accV ++ [v])) b = some o ∧ ¬ Bof (fun b => F b ∨ b = D) σ (mrg ρi ρc) b := fun b o h n => ⟨by
          rw [upd_ne (fun z => n (.inl (.inr z)))]
          exact h, n⟩
        refine ⟨e2.len, fun b hb z => ?_, fun k d hd => ?_, fun k d hd => ?_, e2.sep⟩
        · by_cases w : b = D
          · subst w
            rw [upd_same] at z
            cases z
          · rw [upd_ne w] at z
            exact e2.fr b hb z
        · obtain ⟨u, e, r⟩ := e2.dat k d hd
          exact ⟨u, e, r.to up⟩
        · obtain ⟨b, ws, e, n, h, r⟩ := e2.own k d hd
          exact ⟨b, ws, e, n, by rw [upd_ne (fun z => n (.inr z))]; exact h, r.to up⟩
      · exact e3.trans fun a o h n => by
          rw [upd_ne (fun z => n (.inr z))]
          exact h
      · have hb5 : Bof (fun b => F b ∨ b = D) σa ρb = Bof (fun b => F b ∨ b = D) σ (mrg ρi ρc) := by
          unfold Bof
          rw [oofa (soa.trans hb.1) wa, e1.oof σ]
        refine (e5.append (.cons (hb5 ▸ r5) .nil)).to fun b o h n => ⟨?_, n⟩
        rw [upd_ne (fun z => n (.inl (.inr z)))]
        exact h
  · have : i = ds.length := by omega
    subst this
    rw [List.drop_length] at li
    cases li
    rw [List.append_nil] at hy
    subst hy
    refine .inl ⟨hw'.2.1 (Nat.le_refl _), q D accV H' nH ?_ Ei hD ?_⟩
    · intro a o h n
      have h1 := s1 a o h n
      have nD' : a ≠ D := fun z => by
        subst z
        rw [nD] at h1
        cases h1
      exact si a o (by rw [upd_ne nD']; exact h1) fun z => z.elim (fun z => n (by rw [hi.1.oof σ]; exact z)) nD'
    · rw [(hi.1.trans soi).bof]
      exact ri
end
end EV

end
section
set_option Elab.async false
set_option linter.all false
set_option maxRecDepth 100000
set_option maxHeartbeats 400000
namespace EV
open PySem PySem.Spec PyProof.Rows L2 RZ
variable [KS]

/-- a def's promise: what it hands back of what it is given -/
def spG (G : Rho → PyData → Rho → Prop) : Sp := fun vs H Q _ => ∃ F ρ r ρ', Env F H (vs.map some) ρ ∧ G ρ r ρ' ∧
  ∀ v H', Stp (Oof (vs.map some) ρ) H H' → Env F H' (vs.map some) ρ' → Rp (Bof F (vs.map some) ρ) H' v r → Q v H'
section
variable {F : AP} {σ σ1 σ2 : L2.St} {H H1 H2 : Hp} {ρ ρ1 ρ2 ρ3 : Rho} {d e r : PyData} {ds es : List PyData} {v : V} {a : Addr} {i j : Nat} {K : PySem.W.Frag} {G : Rho → PyData → Rho → Prop} {E : XK} {tA : TA}
theorem ownAt_data {vs : List V} : ¬ OwnAt (vs.map some) (ds.map Sl.d) i a := fun h => by
  obtain ⟨es, h⟩ := own_get.mp h.1
  rw [List.getElem?_map] at h
  cases z : ds[i]? with
  | none => rw [z] at h; cases h
  | some x => rw [z] at h; cases h
theorem env_args {B : AP} {vs : List V} (fr : ∀ a, B a → H a ≠ none) (r : RpL B H vs ds) : Env B H (vs.map some) (ds.map Sl.d) where
  len := by rw [List.length_map, List.length_map]; exact r.length
  fr := fr
  dat := fun i d h => by
    rw [List.getElem?_map] at h
    cases z : ds[i]? with
    | none => rw [z] at h; cases h
    | some x =>
      rw [z] at h
      cases h
      obtain ⟨v, hv, rv⟩ := r.get z
      refine ⟨v, by rw [List.getElem?_map, hv]; rfl, rv.to fun a o q n => ⟨q, fun w => w.elim n fun ⟨k, w⟩ => ownAt_data w⟩⟩
  own := fun i d h => by
    rw [List.getElem?_map] at h
    cases z : ds[i]? with
    | none => rw [z] at h; cases h
    | some x => rw [z] at h; cases h
  sep := fun i j a h => absurd h ownAt_data
theorem bof_args {B : AP} {vs : List V} : Bof B (vs.map some) (ds.map Sl.d) = B := by
  funext a
  exact propext ⟨fun w => w.elim id fun ⟨k, w⟩ => absurd w ownAt_data, .inl⟩
theorem oof_args {vs : List V} (h : ¬ False) : Oof (vs.map some) (ds.map Sl.d) a → False := fun ⟨k, w⟩ => ownAt_data w
/-- a call that changes nothing -/
theorem ev_call (h : EvA tA ρ ds ρ1) (hg : G (ds.map .d) r (ds.map .d)) : Ev (tCall (spG G) [] E tA) ρ r ρ1 := ⟨h.1, fun F σ H Q Ev q => h.2 F σ H _ Ev fun vs H' s E' rs => by
  rw [h.1.bof F σ] at rs
  show spG G (vs ++ []) H' Q E
  rw [List.append_nil]
  refine ⟨Bof F σ ρ1, _, r, _, env_args (fun a z => E'.bH z) rs, hg, fun v H2 s2 E2 rv => ?_⟩
  have sm : Same H' H2 := fun a o e => s2 a o e fun z => oof_args (fun z => z) z
  rw [bof_args] at rv
  exact q v H2 (s.trans (.same sm)) (E'.same sm) (by rw [h.1.bof F σ]; exact rv)⟩
/-- arguments that are read only: lists of one's own, too -/
def EvX (t : TA) (ρ : Rho) (ds : List PyData) : Prop := ∀ (F : AP) (σ : L2.St) (H : Hp) (Q : List V → Hp → Prop), Env F H σ ρ →
    (∀ vs H', Stp (Oof σ ρ) H H' → Env F H' σ ρ → RpL (fun _ => False) H' vs ds → Q vs H') → t σ H Q
theorem ex_nil : EvX tNil ρ [] := fun F σ H Q E q => q _ H .refl E .nil
theorem ex_cons {t : TE} (h : Ev t ρ d ρ) (h2 : EvX tA ρ ds) : EvX (tCons t tA) ρ (d :: ds) := fun F σ H Q E q => h.2 F σ H _ E fun v H1 s1 E1 r1 => h2 F σ H1 _ E1 fun vs H2 s2 E2 r2 =>
  q _ H2 (s1.trans s2) E2 (.cons ((r1.stp s2 oof_bof).to fun a o q _ => ⟨q, fun z => z⟩) r2)
theorem ex_own (ho : ρ[i]? = some (.own es)) (h2 : EvX tA ρ ds) : EvX (tCons (tVar i) tA) ρ (.list es :: ds) := fun F σ H Q E q => by
  obtain ⟨a, vs, e, n, hH, r⟩ := E.own i es ho
  refine ⟨_, e, h2 F σ H _ E fun ws H2 s2 E2 r2 => q _ H2 s2 E2 (.cons ?_ r2)⟩
  obtain ⟨a', vs', e', n', hH', r'⟩ := E2.own i es ho
  rw [e] at e'
  cases e'
  exact .lst hH' (fun z => z) (r'.to fun a o q _ => ⟨q, fun z => z⟩)
def flatD : PyData → Bool
  | .list _ => false
  | .tuple _ => false
  | .dict _ => false
  | _ => true
theorem Rp.flat {B B' : AP} (h : Rp B H v d) (hf : flatD d = true) : Rp B' H1 v d := by
  cases h with
  | non => exact .non
  | bl b => exact .bl b
  | int i => exact .int i
  | str x => exact .str x
  | lst _ _ _ => cases hf
  | tup _ _ _ => cases hf
  | scr _ _ _ => cases hf
  | scrK _ _ => cases hf
theorem ev_callX (h : EvX tA ρ ds) (hg : G (ds.map .d) r (ds.map .d)) (hf : flatD r = true) : Ev (tCall (spG G) [] E tA) ρ r ρ := ⟨rfl, fun F σ H Q Ev q => h F σ H _ Ev fun vs H' s E' rs => by
  show spG G (vs ++ []) H' Q E
  rw [List.append_nil]
  refine ⟨fun _ => False, _, r, _, env_args (fun a z => z.elim) rs, hg, fun v H2 s2 E2 rv => ?_⟩
  have sm : Same H' H2 := fun a o e => s2 a o e fun z => oof_args (fun z => z) z
  exact q v H2 (s.trans (.same sm)) (E'.same sm) (rv.flat hf)⟩
/-- a call whose first argument is a list of one's own that it turns -/
theorem ownAt_call1 {vs : List V} {b : List PyData} {c : Addr} {k : Nat} (h : OwnAt ((V.ref a :: vs).map some) (Sl.own b :: ds.map Sl.d) k c) : k = 0 ∧ c = a := by
  cases k with
  | zero =>
    have := h.2
    simp at this
    exact ⟨rfl, this.symm⟩
  | succ k => exact absurd (⟨by simpa [OwnAt] using h.1, by simpa using h.2⟩ : OwnAt (vs.map some) (ds.map Sl.d) k c) ownAt_data
theorem bof_call1 {B : AP} {vs : List V} {b : List PyData} {c : Addr} : Bof B ((V.ref a :: vs).map some) (Sl.own b :: ds.map Sl.d) c ↔ B c ∨ c = a := by
  constructor
  · rintro (z | ⟨k, z⟩)
    · exact .inl z
    · exact .inr (ownAt_call1 z).2
  · rintro (z | z)
    · exact .inl z
    · exact .inr ⟨0, rfl, by rw [z]; rfl⟩
theorem ev_call1 {b b' : List PyData} (h : EvA tA ρ ds ρ1) (ho : ρ1[i]? = some (.own b)) (hg : G (.own b :: ds.map .d) r (.own b' :: ds.map .d)) : Ev (tCall (spG G) [] E (tCons (tVar i) tA)) ρ r (ρ1.set i (.own b')) := by
  refine ⟨h.1.trans (sameOwn_set ho), fun F σ H Q Ev q => ?_⟩
  have hk : (ρ.map ownQ)[i]? = some true := by
    rw [show ρ.map ownQ = ρ1.map ownQ from h.1]
    exact own_get.mpr ⟨_, ho⟩
  obtain ⟨d0, hk⟩ := own_get.mp hk
  obtain ⟨a0, vs0, e0, _⟩ := Ev.own i d0 hk
  refine ⟨.ref a0, e0, h.2 F σ H _ Ev fun vs H' s E' rs => ?_⟩
  obtain ⟨a, ws, hoa, hH, rw'⟩ := E'.owned ho
  have : a = a0 := by
    have z := hoa.2
    rw [e0] at z
    cases z
    rfl
  subst this
  rw [h.1.bof F σ] at rs
  show spG G ((.ref a :: vs) ++ []) H' Q E
  rw [List.append_nil]
  have hB : ∀ c, (Bof F σ ρ1 c ∧ c ≠ a) ∨ c = a ↔ Bof F σ ρ1 c := fun c => ⟨fun z => z.elim (·.1) fun z => by rw [z]; exact .inr ⟨i, hoa⟩, fun z => (Classical.em (c = a)).elim .inr fun n => .inl ⟨z, n⟩⟩
  have cnv : ∀ (b : List PyData) c, Bof (fun c => Bof F σ ρ1 c ∧ c ≠ a) ((V.ref a :: vs).map some) (Sl.own b :: ds.map Sl.d) c ↔ Bof F σ ρ1 c := fun b c => bof_call1.trans (hB c)
  refine ⟨fun c => Bof F σ ρ1 c ∧ c ≠ a, .own b :: ds.map .d, r, _, ⟨?_, fun c z => E'.bH z.1, fun k d hd => ?_, fun k d hd => ?_, fun k l c h1 h2 => by rw [(ownAt_call1 h1).1, (ownAt_call1 h2).1]⟩, hg, fun v H2 s2 E2 rv => ?_⟩
  · simp [rs.length]
  · cases k with
    | zero => cases hd
    | succ k =>
      rw [List.getElem?_cons_succ, List.getElem?_map] at hd
      cases z : ds[k]? with
      | none => rw [z] at hd; cases hd
      | some x =>
        rw [z] at hd
        cases hd
        obtain ⟨v, hv, rv⟩ := rs.get z
        exact ⟨v, by rw [List.map_cons, List.getElem?_cons_succ, List.getElem?_map, hv]; rfl, rv.to fun c o q n => ⟨q, fun w => n ((cnv b c).mp w)⟩⟩
  · cases k with
    | zero =>
      cases hd
      exact ⟨a, ws, rfl, fun z => z.2 rfl, hH, rw'.to fun c o q n => ⟨q, fun w => n ((cnv b c).mp w)⟩⟩
    | succ k =>
      rw [List.getElem?_cons_succ, List.getElem?_map] at hd
      cases z : ds[k]? with
      | none => rw [z] at hd; cases hd
      | some x => rw [z] at hd; cases hd
  · obtain ⟨a', us, e', n', hH2, r2⟩ := E2.own 0 b' rfl
    have : a = a' := by
      have z : some (some (V.ref a)) = some (some (V.ref a')) := e'
      cases z
      rfl
    subst this
    have so := sameOwn_set (ds := b') ho
    have sa : ∀ c o, H' c = some o → c ≠ a → H2 c = some o := fun c o e n => s2 c o e fun ⟨k, z⟩ => n (ownAt_call1 z).2
    have up : ∀ c o, H' c = some o → ¬ Bof F σ ρ1 c → H2 c = some o ∧ ¬ Bof F σ ρ1 c := fun c o e n => ⟨sa c o e fun z => n ((hB c).mp (.inr z)), n⟩
    refine q v H2 (s.trans ?_) ⟨by rw [List.length_set]; exact E'.len, fun c hc z => ?_, fun k d hd => ?_, fun k d hd => ?_, fun k l c h1 h2 => ?_⟩ ?_
    · rw [h.1.oof σ]
      exact fun c o e n => sa c o e fun z => n ⟨i, by rw [z]; exact hoa⟩
    · cases w : H' c with
      | none => exact E'.fr c hc w
      | some o =>
        by_cases wa : c = a
        · subst wa
          rw [hH2] at z
          cases z
        · rw [sa c o w wa] at z
          cases z
    · rw [← so.bof F σ]
      by_cases z : i = k
      · subst z
        rw [List.getElem?_set_self (List.getElem?_eq_some_iff.mp ho).1] at hd
        cases hd
      · rw [List.getElem?_set_ne z] at hd
        obtain ⟨u, e, ru⟩ := E'.dat k d hd
        exact ⟨u, e, ru.to up⟩
    · rw [← so.bof F σ]
      by_cases z : i = k
      · subst z
        rw [List.getElem?_set_self (List.getElem?_eq_some_iff.mp ho).1] at hd
        cases hd
        obtain ⟨a2, _, e2, n2, _⟩ := E'.own i b ho
        rw [hoa.2] at e2
        cases e2
        exact ⟨a, us, hoa.2, n2, hH2, r2.to fun c o q n => ⟨q, fun w => n ((cnv b' c).mpr w)⟩⟩
      · rw [List.getElem?_set_ne z] at hd
        obtain ⟨c, xs, e, n, hc, ru⟩ := E'.own k d hd
        refine ⟨c, xs, e, n, sa c _ hc fun w => z ?_, ru.to up⟩
        subst w
        exact E'.sep i k c hoa ⟨own_get.mpr ⟨_, hd⟩, e⟩
    · refine E'.sep k l c ⟨?_, h1.2⟩ ⟨?_, h2.2⟩
      · rw [show ρ1.map ownQ = _ from so]; exact h1.1
      · rw [show ρ1.map ownQ = _ from so]; exact h2.1
    · rw [h.1.bof F σ]
      exact rv.to fun c o q n => ⟨q, fun w => n ((cnv b c).mpr w)⟩

/-! ### a def -/
theorem start_get {N : List Str} {vs : List V} (i : Nat) : (L2.start N vs)[i]? = if i < vs.length then (vs.map some)[i]? else if i < vs.length + (N.length - vs.length) then some none else none := by
  unfold L2.start
  by_cases h : i < vs.length
  · rw [if_pos h, List.getElem?_append_left (by simpa using h)]
  · rw [if_neg h, List.getElem?_append_right (by simpa using h), List.getElem?_replicate]
    simp
    by_cases h2 : i < vs.length + (N.length - vs.length)
    · rw [if_pos h2, if_pos (by omega)]
    · rw [if_neg h2, if_neg (by omega)]
def ext (ρ : Rho) (n : Nat) : Rho := ρ ++ List.replicate (n - ρ.length) Sl.no
def prOf (ρ : Rho) : List Nat := (List.range ρ.length).filter fun i => (ρ.map ownQ)[i]? == some true
theorem ext_own {n : Nat} : ((ext ρ n).map ownQ)[i]? = some true ↔ (ρ.map ownQ)[i]? = some true := by
  unfold ext
  rw [List.map_append]
  by_cases h : i < ρ.length
  · rw [List.getElem?_append_left (by simpa using h)]
  · rw [List.getElem?_append_right (by simpa using h)]
    constructor
    · intro z
      rw [List.getElem?_map, List.getElem?_replicate] at z
      split at z <;> cases z
    · intro z
      rw [List.getElem?_eq_none (by simpa using h)] at z
      cases z
/-- the promise from the body: outs: the own lists as they lie at the end -/
theorem fn_end {t : TS} {N : List Str} {vs : List V} {Q : VK} (hsp : spG G vs H Q E) (hl : ∀ ρ r ρ', G ρ r ρ' → ρ.length ≤ N.length)
    (h : ∀ ρ r ρ', G ρ r ρ' → ∃ ρe, Sv (prOf ρ) t (ext ρ N.length) (.ret r ρe) ∧ ρ'.length = ρ.length ∧ ∀ i, i < ρ.length → ρ'[i]? = if (ρ.map ownQ)[i]? = some true then ρe[i]? else ρ[i]?) :
    t { nx := fun _ H' => Q .non H', rt := Q } (L2.start N vs) H := by
  obtain ⟨F, ρ, r, ρ', E0, hG, q⟩ := hsp
  obtain ⟨ρe, hs, len, hr⟩ := h ρ r ρ' hG
  have hlN := hl ρ r ρ' hG
  have hv : vs.length = ρ.length := by
    have := E0.len
    simpa using this
  have prI : ∀ i, i ∈ prOf ρ ↔ (ρ.map ownQ)[i]? = some true := fun i => by
    unfold prOf
    rw [List.mem_filter, List.mem_range]
    constructor
    · intro z
      simpa using z.2
    · intro z
      refine ⟨?_, by simpa using z⟩
      have := (List.getElem?_eq_some_iff.mp z).1
      simpa using this
  have sg : ∀ i, i < ρ.length → (L2.start N vs)[i]? = (vs.map some)[i]? := fun i hi => by
    rw [start_get, if_pos (by omega)]
  have oa : ∀ i a, OwnAt (L2.start N vs) (ext ρ N.length) i a ↔ OwnAt (vs.map some) ρ i a := fun i a => by
    unfold OwnAt
    rw [ext_own]
    constructor
    · rintro ⟨h1, h2⟩
      have hi : i < ρ.length := by
        have := (List.getElem?_eq_some_iff.mp h1).1
        simpa using this
      exact ⟨h1, by rw [← sg i hi]; exact h2⟩
    · rintro ⟨h1, h2⟩
      have hi : i < ρ.length := by
        have := (List.getElem?_eq_some_iff.mp h1).1
        simpa using this
      exact ⟨h1, by rw [sg i hi]; exact h2⟩
  have oo : Oof (L2.start N vs) (ext ρ N.length) = Oof (vs.map some) ρ := by
    funext a
    exact propext ⟨fun ⟨i, z⟩ => ⟨i, (oa i a).mp z⟩, fun ⟨i, z⟩ => ⟨i, (oa i a).mpr z⟩⟩
  have ex : ∀ (i : Nat) s, (ext ρ N.length)[i]? = some s → s ≠ .no → i < ρ.length ∧ ρ[i]? = some s := fun i s e n => by
    unfold ext at e
    by_cases hi : i < ρ.length
    · rw [List.getElem?_append_left hi] at e
      exact ⟨hi, e⟩
    · rw [List.getElem?_append_right (by omega), List.getElem?_replicate] at e
      split at e
      · cases e
        exact absurd rfl n
      · cases e
  have E1 : Env F H (L2.start N vs) (ext ρ N.length) := by
    refine ⟨?_, E0.fr, fun i d hd => ?_, fun i d hd => ?_, fun i j a h1 h2 => E0.sep i j a ((oa i a).mp h1) ((oa j a).mp h2)⟩
    · unfold L2.start ext
      rw [List.length_append, List.length_append, List.length_map, List.length_replicate, List.length_replicate, hv]
    · obtain ⟨hi, hd⟩ := ex i _ hd (fun z => by cases z)
      obtain ⟨v, e, rv⟩ := E0.dat i d hd
      exact ⟨v, by rw [sg i hi]; exact e, by unfold Bof; rw [oo]; exact rv⟩
    · obtain ⟨hi, hd⟩ := ex i _ hd (fun z => by cases z)
      obtain ⟨b, ws, e, n, hH, rv⟩ := E0.own i d hd
      exact ⟨b, ws, by rw [sg i hi]; exact e, n, hH, by unfold Bof; rw [oo]; exact rv⟩
  have ES : EnvS (prOf ρ) F (L2.start N vs) H (Oof (vs.map some) ρ) (L2.start N vs) H (ext ρ N.length) := ⟨E1, .refl, fun i hi => ⟨rfl, ext_own.mpr ((prI i).mp hi)⟩, fun i a z => .inl ⟨i, (oa i a).mp z⟩⟩
  refine hs F _ H _ _ H _ ES fun v σ' H' ES' rv => ?_
  have fin : ∀ i, (ρ.map ownQ)[i]? = some true → i < ρ.length ∧ σ'[i]? = (vs.map some)[i]? ∧ (ρe.map ownQ)[i]? = some true := fun i hi => by
    have hl : i < ρ.length := by
      have := (List.getElem?_eq_some_iff.mp hi).1
      simpa using this
    obtain ⟨h1, h2⟩ := ES'.prot i ((prI i).mpr hi)
    exact ⟨hl, h1.trans (sg i hl), h2⟩
  have so : SameOwn ρ ρ' := by
    apply List.ext_getElem?
    intro i
    by_cases hi : i < ρ.length
    · rw [List.getElem?_map (f := ownQ) (l := ρ'), hr i hi]
      by_cases z : (ρ.map ownQ)[i]? = some true
      · rw [if_pos z, z, ← List.getElem?_map]
        exact (fin i z).2.2.symm
      · rw [if_neg z, List.getElem?_map]
    · rw [List.getElem?_eq_none (by simpa using hi), List.getElem?_eq_none (by simp; omega)]
  refine q v H' ES'.stp ⟨by rw [← so.len]; exact E0.len, ES'.env.fr, fun i d hd => ?_, fun i d hd => ?_, fun i j a h1 h2 => ?_⟩ (rv.to fun a o e n => ⟨e, fun z => n (z.elim .inl fun ⟨i, h1, h2⟩ => .inr ⟨i, (prI i).mpr h1, by rw [sg i (fin i h1).1]; exact h2⟩)⟩)
  · have hi : i < ρ.length := by rw [← len]; exact (List.getElem?_eq_some_iff.mp hd).1
    rw [← so.bof]
    rw [hr i hi] at hd
    by_cases z : (ρ.map ownQ)[i]? = some true
    · rw [if_pos z] at hd
      have := (fin i z).2.2
      rw [List.getElem?_map, hd] at this
      cases this
    · rw [if_neg z] at hd
      obtain ⟨v, e, rv⟩ := E0.dat i d hd
      exact ⟨v, e, rv.stp ES'.stp oof_bof⟩
  · have hi : i < ρ.length := by rw [← len]; exact (List.getElem?_eq_some_iff.mp hd).1
    rw [← so.bof]
    rw [hr i hi] at hd
    by_cases z : (ρ.map ownQ)[i]? = some true
    · rw [if_pos z] at hd
      obtain ⟨b, ws, e, n, hH, ru⟩ := ES'.env.own i d hd
      refine ⟨b, ws, by rw [← (fin i z).2.1]; exact e, n, hH, ru.to fun a o q n => ⟨q, fun w => n (w.elim .inl fun ⟨k, w1, w2⟩ => .inr ⟨k, (fin k w1).2.2, by rw [(fin k w1).2.1]; exact w2⟩)⟩⟩
    · rw [if_neg z] at hd
      exact absurd (own_get.mpr ⟨d, hd⟩) z
  · refine E0.sep i j a ⟨?_, h1.2⟩ ⟨?_, h2.2⟩
    · rw [show ρ.map ownQ = _ from so]; exact h1.1
    · rw [show ρ.map ownQ = _ from so]; exact h2.1
/-- .. where nothing that is handed in turns -/
def gF (P : List PyData → PyData → Prop) : Rho → PyData → Rho → Prop := fun ρ r ρ' => ∃ ds, ρ = ds.map .d ∧ P ds r ∧ ρ' = ρ
theorem prOf_data : prOf (ds.map Sl.d) = [] := by
  unfold prOf
  rw [List.filter_eq_nil_iff]
  intro i _ z
  have z : ((ds.map Sl.d).map ownQ)[i]? = some true := by simpa using z
  obtain ⟨es, z⟩ := own_get.mp z
  rw [List.getElem?_map] at z
  cases w : ds[i]? with
  | none => rw [w] at z; cases z
  | some x => rw [w] at z; cases z
theorem fn_pure {P : List PyData → PyData → Prop} {t : TS} {N : List Str} {vs : List V} {Q : VK} (hsp : spG (gF P) vs H Q E) (hl : ∀ ds r, P ds r → ds.length ≤ N.length)
    (h : ∀ ds r, P ds r → ∃ ρe, Sv [] t (ds.map .d ++ List.replicate (N.length - ds.length) .no) (.ret r ρe)) : t { nx := fun _ H' => Q .non H', rt := Q } (L2.start N vs) H := by
  refine fn_end hsp (fun ρ r ρ' ⟨ds, e, p, _⟩ => by rw [e, List.length_map]; exact hl ds r p) fun ρ r ρ' ⟨ds, e, p, e'⟩ => ?_
  subst e' e
  obtain ⟨ρe, hs⟩ := h ds r p
  refine ⟨ρe, ?_, rfl, fun i hi => ?_⟩
  · rw [prOf_data]
    unfold ext
    rw [List.length_map]
    exact hs
  · rw [if_neg]
    intro z
    obtain ⟨es, z⟩ := own_get.mp z
    rw [List.getElem?_map] at z
    cases w : ds[i]? with
    | none => rw [w] at z; cases z
    | some x => rw [w] at z; cases z
theorem spG_len {vs : List V} {Q : VK} (h : spG G vs H Q E) {n : Nat} (hl : ∀ ρ r ρ', G ρ r ρ' → ρ.length = n) : vs.length = n := by
  obtain ⟨F, ρ, r, ρ', E0, hG, _⟩ := h
  have := E0.len
  rw [List.length_map] at this
  rw [this]
  exact hl ρ r ρ' hG
/-- .. where the first one turns -/
def gB (P : List PyData → List PyData → PyData → List PyData → Prop) : Rho → PyData → Rho → Prop := fun ρ r ρ' => ∃ b ds b', ρ = .own b :: ds.map .d ∧ P b ds r b' ∧ ρ' = .own b' :: ds.map .d
theorem fn_box {P : List PyData → List PyData → PyData → List PyData → Prop} {t : TS} {N : List Str} {vs : List V} {Q : VK} (hsp : spG (gB P) vs H Q E) (hl : ∀ b ds r b', P b ds r b' → ds.length + 1 ≤ N.length)
    (h : ∀ b ds r b', P b ds r b' → ∃ ρe, Sv [0] t (.own b :: (ds.map .d ++ List.replicate (N.length - (ds.length + 1)) .no)) (.ret r (.own b' :: ρe))) : t { nx := fun _ H' => Q .non H', rt := Q } (L2.start N vs) H := by
  refine fn_end hsp (fun ρ r ρ' ⟨b, ds, b', e, p, _⟩ => by rw [e, List.length_cons, List.length_map]; exact hl b ds r b' p) fun ρ r ρ' ⟨b, ds, b', e, p, e'⟩ => ?_
  subst e' e
  obtain ⟨ρe, hs⟩ := h b ds r b' p
  have nd : ∀ i : Nat, ((ds.map Sl.d).map ownQ)[i]? ≠ some true := fun i z => by
    obtain ⟨es, z⟩ := own_get.mp z
    rw [List.getElem?_map] at z
    cases w : ds[i]? with
    | none => rw [w] at z; cases z
    | some x => rw [w] at z; cases z
  refine ⟨.own b' :: ρe, ?_, rfl, fun i hi => ?_⟩
  · have : prOf (.own b :: ds.map Sl.d) = [0] := by
      unfold prOf
      rw [List.length_cons, List.range_succ_eq_map, List.filter_cons]
      rw [if_pos (by rfl)]
      refine congrArg (0 :: ·) ?_
      rw [List.filter_eq_nil_iff]
      intro i hi z
      obtain ⟨k, _, rfl⟩ := List.mem_map.mp hi
      have z : ((ds.map Sl.d).map ownQ)[k]? = some true := by simpa using z
      exact nd k z
    rw [this]
    unfold ext
    rw [List.length_cons, List.length_map]
    exact hs
  · cases i with
    | zero => rfl
    | succ i =>
      rw [if_neg]
      · rfl
      · intro z
        exact nd i (by simpa using z)
end
end EV

end
section
set_option Elab.async false
set_option linter.all false
set_option maxRecDepth 100000
set_option maxHeartbeats 400000
/-! tuple[::-1] -/
namespace HT
open PySem PySem.Spec PyProof.Rows L2
section
variable {prog : Program} {w : World} {A : Around} {E : Value → Shared → Prop} {s : Shared}
theorem places_rev (n : Nat) : Builtin.Slice.slicePlaces ((n : Int) - 1) (-1) (-1) = n := by
  unfold Builtin.Slice.slicePlaces
  have h1 : ¬ ((-1 : Int) > 0) := by omega
  rw [if_neg h1]
  split
  · have e : (-(-1 : Int)) = 1 := by omega
    rw [e, Int.ediv_one]
    omega
  · omega
theorem fm_congr {α β : Type} {f g : α → Option β} : ∀ {l : List α}, (∀ a ∈ l, f a = g a) → l.filterMap f = l.filterMap g
  | [], _ => rfl
  | a :: l, h => by
    rw [List.filterMap_cons, List.filterMap_cons, h a List.mem_cons_self, fm_congr fun b hb => h b (List.mem_cons_of_mem _ hb)]
theorem pick_rev (xs : Array Value) : ((List.range xs.size).filterMap fun (m : Nat) => xs[((xs.size : Int) - 1 + (m : Int) * (-1)).toNat]?).toArray = xs.toList.reverse.toArray := by
  have h : ((List.range xs.size).filterMap fun (m : Nat) => xs[((xs.size : Int) - 1 + (m : Int) * (-1)).toNat]?) = xs.toList.reverse := by
    have e1 : ((List.range xs.size).filterMap fun (m : Nat) => xs[((xs.size : Int) - 1 + (m : Int) * (-1)).toNat]?) = ((List.range xs.size).map fun k => xs.size - 1 - k).filterMap (xs[·]?) := by
      rw [List.filterMap_map]
      refine fm_congr fun m hm => ?_
      have hm := List.mem_range.mp hm
      have : ((xs.size : Int) - 1 + (m : Int) * (-1)).toNat = xs.size - 1 - m := by omega
      rw [this]
      rfl
    rw [e1, PySem.W.krv_range, List.filterMap_reverse, PySem.W.krv_all]
  rw [h]
theorem sliceApplied_rev {sl : Addr} {vl vu vs : Value} {n : Nat} {Q : Int × Int × Nat → Shared → Prop} (hs : s.heap.IsSliceOf sl vl vu vs) (pl : IsPart vl none) (pu : IsPart vu none) (ps : IsPart vs (some (-1)))
    (h : Q ((n : Int) - 1, -1, n) s) : wpAny (model prog w) A (Builtin.Slice.sliceApplied (.ref sl) (pure (n : Int))) Q E s := by
  obtain ⟨os, hos, hcs, hds⟩ := id hs
  unfold Builtin.Slice.sliceApplied Builtin.Slice.sliceFields
  refine wpAny_bind (wpAny_bind (wpAny_field hos hds (x := vl) rfl (wpAny_bind (wpAny_field hos hds (x := vu) rfl (wpAny_bind (wpAny_field hos hds (x := vs) rfl (wpAny_pure ?_)))))))
  refine wpAny_bind (slicePart_ ps ?_)
  show wpAny _ _ (if ((-1 : Int) == 0) = true then _ else _) _ _ s
  rw [if_neg (by decide)]
  refine wpAny_bind (slicePart_ pl (wpAny_bind (slicePart_ pu (wpAny_bind (wpAny_pure ?_)))))
  show wpAny _ _ (pure ((n : Int) - 1, (-1 : Int), Builtin.Slice.slicePlaces ((n : Int) - 1) (-1) (-1))) _ _ s
  rw [places_rev]
  exact wpAny_pure h
theorem getItem_tuple_rev {t sl : Addr} {items : Array Value} {vl vu vs : Value} {Q : Value → Shared → Prop} (ht : IsTup s.heap t items) (hs : s.heap.IsSliceOf sl vl vu vs) (pl : IsPart vl none) (pu : IsPart vu none) (ps : IsPart vs (some (-1)))
    (h : Q (.ref s.heap.objs.size) { s with heap := s.heap.push { cls := .type "tuple", data := .seq items.toList.reverse.toArray } })
    (hsz : items.size ≤ sizeLine) : wpAny (model prog w) A (getItem (.ref t) (.ref sl)) Q E s := by
  have htake : sizeOk (.seq items.toList.reverse.toArray) := by
    show items.toList.reverse.toArray.size ≤ sizeLine
    rw [List.size_toArray, List.length_reverse, Array.length_toList]
    omega
  obtain ⟨os, hos, hcs, hds⟩ := id hs
  have hTs : s.TypeIs (.ref sl) "slice" := ⟨os, hos, hcs⟩
  unfold getItem
  try with_reducible refine wpAny_holding ?_
  first | refine wpAny_bind (wpAny_pure ?_) | skip
  refine wpAny_bind (wpAny_sequenceKey ht.typeIs (by decide) ?_)
  refine wpAny_bind (wpAny_callSpecial?_slot (name := Str.ofString "__getitem__") ht.typeIs PyProof.Rows.slot_tuple_getitem
    (wpAny_call_entry PyProof.Rows.slot_tuple_getitem ht.typeIs entry_tuple_getitem ?_ (args_tuple_getitem _ _)))
  show wpAny _ _ (Builtin.Tuple.tupleItemsOf (.ref t) >>= _) _ _ s
  refine wpAny_bind (tupleItemsOf_ ht ?_)
  refine wpAny_bind (wpAny_typeOf hTs ?_)
  rw [if_pos (by decide)]
  refine wpAny_bind (sliceApplied_rev hs pl pu ps ?_)
  have hno : ¬ ((((items.size : Int) - 1) == 0 && (-1 : Int) == 1 && items.size == items.size) = true) := by
    intro q
    rw [Bool.and_eq_true, Bool.and_eq_true] at q
    have := q.1.2
    cases this
  show wpAny _ _ (if (((items.size : Int) - 1) == 0 && (-1 : Int) == 1 && items.size == items.size) = true then _ else _) _ _ s
  rw [if_neg hno, pick_rev]
  first
    | exact wpAny_bind (m := Builtin.Tuple.tupleExact _) (wpAny_newObj_type (wpAny_pure ⟨_, rfl, wpAny_pure h⟩) htake)
    | exact wpAny_bind (m := Builtin.Tuple.tupleExact _) (wpAny_newObj_type (wpAny_bind (wpAny_pure (wpAny_pure ⟨_, rfl, wpAny_pure h⟩))) htake)
    | exact wpAny_bind (wpAny_bind (m := Builtin.Tuple.tupleExact _) (wpAny_newObj_type (wpAny_pure (wpAny_pure ⟨_, rfl, wpAny_pure h⟩)) htake))
    | exact wpAny_bind (wpAny_bind (m := Builtin.Tuple.tupleExact _) (wpAny_newObj_type (wpAny_pure ⟨_, rfl, wpAny_pure h⟩) htake))
end
end HT
namespace EV
open PySem PySem.Spec PyProof.Rows L2 RZ
variable [KS]
def tRevT (K : PySem.W.Frag) (te : TE) : TE := fun σ H Q => te σ H fun x H1 => ∃ a xs, x = .ref a ∧ SqT K H1 a xs ∧ ∀ p, H1 p = none → Q (.ref p) (upd H1 p (.tup xs.reverse))
section
variable {X : Cx}
theorem pe_revT {e : Expr} {te : TE} {k : Nat} {p1 p2 p3 pos : Pos} (he : PE X e te) : PE X (.Subscript e (.Slice none none (some (.UnaryOp .USub (.Constant (.int 1) k p1) p2)) p3) pos) (tRevT X.K te) := by
  refine ⟨fun pins s σ H Q I h => ?_⟩
  refine Subscript_ (thn (he.run pins s σ H _ I h) fun v s1 ⟨x, H1, I1, r1, q1⟩ => ?_)
  obtain ⟨a, xs, ex, hx, q⟩ := q1
  subst ex
  cases r1
  have hst : PO X (some (.UnaryOp .USub (.Constant (.int 1) k p1) p2)) (tPart (tUn (rU fun i => .int (-i)) (tC (.int 1)))) := po_some (pe_un un_neg pe_int)
  refine wpAny_Slice (thn (po_none.run pins s1 σ H1 (fun o H2 => o = none ∧ H2 = H1) I1 ⟨rfl, rfl⟩) fun vl s2 ⟨l, H2, I2, pl, el, e2⟩ => ?_)
  subst el e2
  refine thn (po_none.run pins s2 σ H2 (fun o H3 => o = none ∧ H3 = H2) I2 ⟨rfl, rfl⟩) fun vu s3 ⟨u, H3, I3, pu, eu, e3⟩ => ?_
  subst eu e3
  refine thn (hst.run pins s3 σ H3 (fun o H4 => o = some (-1) ∧ H4 = H3) I3 ⟨1, rfl, -1, rfl, rfl, rfl⟩) fun vs s4 ⟨o, H4, I4, ps, eo, e4⟩ => ?_
  subst eo e4
  have I5 : Inv X pins σ H4 { s4 with heap := s4.heap.push { cls := .type "slice", data := .fields #[vl, vu, vs] } } := I4.kept (t' := s4.toks) fun b ob q => Heap.get?_push_of_some _ q
  obtain ⟨its, r, ht, hz⟩ := I5.tuple hx
  have hlen := r.length
  show wpAny (model X.prog X.w) X.A (subscriptTail e (.Slice none none (some (.UnaryOp .USub (.Constant (.int 1) k p1) p2)) p3) (.ref a) (.ref s4.heap.objs.size)) (EP X pins σ Q) X.xe { s4 with heap := s4.heap.push { cls := .type "slice", data := .fields #[vl, vu, vs] } }
  refine tail_any (ops := [.ref a, .ref s4.heap.objs.size]) ht.typeIs (PyProof.Rows.slot_tuple_getitem.lookup) ?_ (by with_unfolding_all rfl)
  refine HT.getItem_tuple_rev ht (Heap.IsSliceOf.new _ vl vu vs) pl pu ps ?_ (by rw [List.size_toArray]; omega)
  refine ⟨.ref _, _, I5.laid (t' := s4.toks) (o := .tup xs.reverse) (fun b ob q => Heap.get?_push_of_some _ q) (Nat.le_refl _) ?_, rfl, q _ (I5.hok.fresh (Nat.le_refl _))⟩
  exact ⟨by rw [List.length_reverse]; exact hz, _, r.reverse, IsTup.new _ _⟩
theorem op_fdivP : OpR X (binaryOp .FloorDiv) (rI CDivP fun i j => .int (i / j)) := opI fun i j _ _ _ _ _ hc q => by
  have h1 : (0 : Int) < j := hc.1
  exact floordiv_int (by omega) (by rw [Int.fdiv_eq_ediv_of_nonneg i (by omega)]; exact q) (.inl hc.2)
theorem divp_lt {i j : Int} (h : 0 < j) (hb : j.natAbs < 2 ^ 9000) : CDivP i j := ⟨h, PyProof.noPylong_of_log2 (PySem.Flt.log2_lt_of (by decide) hb)⟩
end
section
variable {ρ ρ1 : Rho} {ds : List PyData} {t : TE} {K : PySem.W.Frag}
theorem ev_revT (h : Ev t ρ (.tuple ds) ρ1) : Ev (tRevT K t) ρ (.tuple ds.reverse) ρ1 := ⟨h.1, fun F σ H Q E q => h.2 F σ H _ E fun v H' s E' r => by
  cases r with
  | tup hd n r => exact ⟨_, _, rfl, .of hd, fun p np => q _ _ (s.trans (.same (same_upd np))) (E'.same (same_upd np)) (.tup upd_same (by rw [h.1.bof]; exact E'.fresh np) (r.reverse.to fun b o e n => ⟨same_upd np b o e, n⟩))⟩⟩
end

/-! ### the defs of a text -/
/-- where a def stands behind the top -/
def TopF (K : PySem.W.Frag) (mg : Str → Option Value) (x : Str) (st : Stmt) : Prop := ∃ f fd, mg x = some (.ref f) ∧ Fun K x x st f fd
/-- a def that can be called -/
def Cal (P : Program) (w : World) (K : PySem.W.Frag) (mg : Str → Option Value) (base : Heap) (k : Nat) (x : Str) (ps : List Str) (G : Rho → PyData → Rho → Prop) : Prop :=
  ∃ f fd, mg x = some (.ref f) ∧ PySem.W.keepIn K (.ref f) = true ∧ Binds K fd ps [] ∧ FnOk P w K mg base CX0 k f fd ps (spG G)
section
variable {P : Program} {w : World} {K : PySem.W.Frag} {mg : Str → Option Value} {base : Heap} {k : Nat} {x : Str} {st : Stmt} {N ps : List Str}
theorem pe_cal {X : Cx} {G : Rho → PyData → Rho → Prop} {p pos : Pos} {e : Expr} {es : List Expr} {t : TA} (C : Cal X.prog X.w X.K X.mg X.base k x ps G) (hr : Room k X.A) (hg : Gl X x) (ha : PA X (e :: es) t) (hdb : (x == ("__debug__" : Str)) = false := by decide)
    (he : starEach (e :: es) X.env = (false, eval e X.env) :: starEach es X.env := by rfl) (hpl : (backTo pos (starEach es X.env)).any (·.1) = false := by rfl) : PE X (.Call (.Name x p) (e :: es) [] pos) (tCall (spG G) [] E0 t) := by
  obtain ⟨f, fd, hm, hk, hb, F⟩ := C
  exact pe_call F hr hg hm hk hb .nil pass0 ha hdb he hpl
theorem cal_any {G : Rho → PyData → Rho → Prop} (T : TopF K mg x st)
    (hb : ∀ (kV doc pm : Value) (an : Option Addr) (cdv ct : Value) (us : List Value), us.length = ps.length → bindArgs (PySem.W.fnOf x x (defArgs st) (defBody st) (defScope st) .none kV doc pm an cdv ct) ⟨us, []⟩ = pure (ps.zip us))
    (S : FnScope N ps (defScope st)) (len : ∀ ρ r ρ', G ρ r ρ' → ρ.length = ps.length)
    (h : ∀ (f : Addr) (cdv : Value) (A : Around) (outer : List PySem.Env) (s : Shared) (H : Hp) (E : XK), Room k (A.deeper (envOfC x (defScope st) s.heap.objs.size f cdv)) → ∃ t : TS, PSs (cxOf CX0 P w K mg base N x (defScope st) f cdv A outer s H E).nox (defBody st) t ∧
      ∀ (vs : List V) (H : Hp) (Q : VK) (E : XK), spG G vs H Q E → t { nx := fun _ H' => Q .non H', rt := Q } (L2.start N vs) H) : Cal P w K mg base (k + 1) x ps G := by
  obtain ⟨f, fd, hm, F⟩ := T
  exact ⟨f, fd, hm, F.kp, F.binds hb, F.ok S (fun vs H Q E q => spG_len q len) fun cdv A outer s H vs Q E hr hs => by
    obtain ⟨t, ht, hq⟩ := h f cdv A outer s H E hr
    exact ⟨t, ht, hq vs H Q E hs⟩⟩
theorem cal_pure {Pr : List PyData → PyData → Prop} (T : TopF K mg x st)
    (hb : ∀ (kV doc pm : Value) (an : Option Addr) (cdv ct : Value) (us : List Value), us.length = ps.length → bindArgs (PySem.W.fnOf x x (defArgs st) (defBody st) (defScope st) .none kV doc pm an cdv ct) ⟨us, []⟩ = pure (ps.zip us))
    (S : FnScope N ps (defScope st)) (len : ∀ ds r, Pr ds r → ds.length = ps.length)
    (h : ∀ (f : Addr) (cdv : Value) (A : Around) (outer : List PySem.Env) (s : Shared) (H : Hp) (E : XK), Room k (A.deeper (envOfC x (defScope st) s.heap.objs.size f cdv)) → ∃ t : TS, PSs (cxOf CX0 P w K mg base N x (defScope st) f cdv A outer s H E).nox (defBody st) t ∧
      ∀ ds r, Pr ds r → ∃ ρe, Sv [] t (ds.map .d ++ List.replicate (N.length - ds.length) .no) (.ret r ρe)) : Cal P w K mg base (k + 1) x ps (gF Pr) := by
  have hN : ps.length ≤ N.length := by
    rw [← S.pre, List.length_take]
    omega
  exact cal_any T hb S (fun ρ r ρ' ⟨ds, e, p, _⟩ => by rw [e, List.length_map]; exact len ds r p) fun f cdv A outer s H E hr => by
    obtain ⟨t, ht, hq⟩ := h f cdv A outer s H E hr
    exact ⟨t, ht, fun vs H Q E hs => fn_pure hs (fun ds r p => by rw [len ds r p]; exact hN) hq⟩
theorem cal_box {Pr : List PyData → List PyData → PyData → List PyData → Prop} (T : TopF K mg x st)
    (hb : ∀ (kV doc pm : Value) (an : Option Addr) (cdv ct : Value) (us : List Value), us.length = ps.length → bindArgs (PySem.W.fnOf x x (defArgs st) (defBody st) (defScope st) .none kV doc pm an cdv ct) ⟨us, []⟩ = pure (ps.zip us))
    (S : FnScope N ps (defScope st)) (len : ∀ b ds r b', Pr b ds r b' → ds.length + 1 = ps.length)
    (h : ∀ (f : Addr) (cdv : Value) (A : Around) (outer : List PySem.Env) (s : Shared) (H : Hp) (E : XK), Room k (A.deeper (envOfC x (defScope st) s.heap.objs.size f cdv)) → ∃ t : TS, PSs (cxOf CX0 P w K mg base N x (defScope st) f cdv A outer s H E).nox (defBody st) t ∧
      ∀ b ds r b', Pr b ds r b' → ∃ ρe, Sv [0] t (.own b :: (ds.map .d ++ List.replicate (N.length - (ds.length + 1)) .no)) (.ret r (.own b' :: ρe))) : Cal P w K mg base (k + 1) x ps (gB Pr) := by
  have hN : ps.length ≤ N.length := by
    rw [← S.pre, List.length_take]
    omega
  exact cal_any T hb S (fun ρ r ρ' ⟨b, ds, b', e, p, _⟩ => by rw [e, List.length_cons, List.length_map]; exact len b ds r b' p) fun f cdv A outer s H E hr => by
    obtain ⟨t, ht, hq⟩ := h f cdv A outer s H E hr
    exact ⟨t, ht, fun vs H Q E hs => fn_box hs (fun b ds r b' p => by rw [len b ds r b' p]; exact hN) hq⟩
theorem topF_mk {h : Heap} {f : Addr} {oc : Value} {od an : Option Addr} {osl : Array (Option Value)} {kV doc pm cdv ct : Value} (X : K.In h) (G : h.Ns mainGlobals mg) (a : PySem.W.nsIn K mainGlobals x = some (some (.ref f)))
    (l : K.lookup f = some ⟨oc, od, .func (PySem.W.fnOf x x (defArgs st) (defBody st) (defScope st) .none kV doc pm an cdv ct), osl⟩) (c : PySem.W.codeIn K cdv x = true) (kp : PySem.W.keepIn K (.ref f) = true) : TopF K mg x st :=
  ⟨f, _, PySem.W.mg_of X G a, fun_mk l c kp⟩
end
/-! ### forgetting -/
inductive Wk : Rho → Rho → Prop
  | nil : Wk [] []
  | same {s : Sl} {ρ ρ' : Rho} : Wk ρ ρ' → Wk (s :: ρ) (s :: ρ')
  | drop {d : PyData} {ρ ρ' : Rho} : Wk ρ ρ' → Wk (.d d :: ρ) (.no :: ρ')
theorem Wk.refl : ∀ (ρ : Rho), Wk ρ ρ
  | [] => .nil
  | s :: ρ => .same (Wk.refl ρ)
theorem Wk.get : ∀ {ρ ρ' : Rho}, Wk ρ ρ' → ∀ {i : Nat} {s : Sl}, ρ'[i]? = some s → ρ[i]? = some s ∨ (s = .no ∧ ∃ d, ρ[i]? = some (.d d))
  | _, _, .nil, i, s, h => by simp at h
  | _, _, .same w, 0, s, h => .inl h
  | _, _, .same w, i + 1, s, h => Wk.get w (i := i) (by simpa using h)
  | _, _, .drop w, 0, s, h => by
    simp at h
    exact .inr ⟨h.symm, _, rfl⟩
  | _, _, .drop w, i + 1, s, h => Wk.get w (i := i) (by simpa using h)
theorem Wk.own : ∀ {ρ ρ' : Rho}, Wk ρ ρ' → SameOwn ρ ρ'
  | _, _, .nil => rfl
  | _, _, .same w => congrArg (_ :: ·) (Wk.own w)
  | _, _, .drop w => congrArg (false :: ·) (Wk.own w)
section
variable {F : AP} {H : Hp} {σ : L2.St} {ρ ρ' : Rho} {pr : List Nat} {σ0 : L2.St} {H0 : Hp} {O0 : AP} {t : TS} {o : Out}
theorem Env.wk (E : Env F H σ ρ) (w : Wk ρ ρ') : Env F H σ ρ' where
  len := by rw [← w.own.len]; exact E.len
  fr := E.fr
  dat := fun i d h => by
    rw [← w.own.bof]
    rcases w.get h with q | ⟨q, _⟩
    · exact E.dat i d q
    · cases q
  own := fun i d h => by
    rw [← w.own.bof]
    rcases w.get h with q | ⟨q, _⟩
    · exact E.own i d q
    · cases q
  sep := fun i j a h1 h2 => E.sep i j a ⟨by rw [show ρ.map ownQ = _ from w.own]; exact h1.1, h1.2⟩ ⟨by rw [show ρ.map ownQ = _ from w.own]; exact h2.1, h2.2⟩
theorem EnvS.wk (E : EnvS pr F σ0 H0 O0 σ H ρ) (w : Wk ρ ρ') : EnvS pr F σ0 H0 O0 σ H ρ' := E.step .refl (E.env.wk w) w.own
/-- less is known ahead -/
theorem sv_pre (w : Wk ρ ρ') (h : Sv pr t ρ' o) : Sv pr t ρ o := fun F σ0 H0 O0 σ H D E q => h F σ0 H0 O0 σ H D (E.wk w) q
/-- less is asked behind -/
theorem sv_post (h : Sv pr t ρ (.next ρ')) {ρ2 : Rho} (w : Wk ρ' ρ2) : Sv pr t ρ (.next ρ2) := fun F σ0 H0 O0 σ H D E q => h F σ0 H0 O0 σ H D E fun σ' H' E' => q σ' H' (E'.wk w)
end
end EV
namespace EV
open PySem PySem.Spec PyProof.Rows L2 RZ
variable [KS]
theorem et_eq {t : TT} {ρ ρ' : Rho} {b c : Bool} (h : EvT t ρ b ρ') (e : b = c) : EvT t ρ c ρ' := e ▸ h
theorem ev_eq {t : TE} {ρ ρ' : Rho} {b c : PyData} (h : Ev t ρ b ρ') (e : b = c) : Ev t ρ c ρ' := e ▸ h
theorem ef_eq {t : TE} {ρ ρ' : Rho} {b c : List PyData} (h : EvF t ρ b ρ') (e : b = c) : EvF t ρ c ρ' := e ▸ h
end EV
namespace EV
open PySem PySem.Spec PyProof.Rows L2 RZ
variable [KS]
theorem small_le {n : Nat} (h : n ≤ 1000) : n ≤ sizeLine := Nat.le_of_lt (L2.small1000 h)
section
variable {ρ ρ1 : Rho} {ds : List PyData} {t : TE} {K : PySem.W.Frag} {d : PyData} {i : Int}
theorem eo_neg {i : Int} : EvO (tPart (tUn (rU fun i => .int (-i)) (tC (.int i)))) ρ (some (-i)) := fun F σ H Q E q => ⟨i, rfl, -i, rfl, q H (Same.refl H) E⟩
theorem eo_ev {i : Int} (h : Ev t ρ (.int i) ρ) (hp : ρ.map ownQ = ρ.map fun _ => false) : EvO (tPart t) ρ (some i) := fun F σ H Q E q => h.2 F σ H _ E fun v H' s E' r => by
  cases r
  refine ⟨i, rfl, q H' (fun a o e => s a o e fun ⟨k, z, _⟩ => ?_) E'⟩
  rw [hp, List.getElem?_map] at z
  cases q : ρ[k]? with
  | none => rw [q] at z; cases z
  | some x => rw [q] at z; cases z
theorem ev_sumF {α : Type} {f : α → Int} {xs : List α} (h : EvR t ρ false (xs.map fun x => .int (f x)) ρ1) : Ev (tCB (rSum K) (tCons t tNil)) ρ (.int (xs.map f).sum) ρ1 :=
  ev_sum (ns := xs.map f) (by rw [List.map_map]; exact h)
/-- items by a map -/
theorem lc_map {α : Type} {vs : List Nat} {tg : PyData → Rho → Rho → Prop} {tst : Rho → Bool → Rho → Prop} {elt : Rho → PyData → Rho → Prop} {f g : α → PyData} : ∀ {xs : List α},
    (∀ x ∈ xs, ∃ ρa ρb ρc, tg (f x) (wipeR ρ vs) ρa ∧ SameOwn (wipeR ρ vs) ρa ∧ tst ρa true ρb ∧ elt ρb (g x) ρc ∧ mrg ρ ρc = ρ) → Lc vs tg tst elt (xs.map f) ρ (xs.map g) ρ
  | [], _ => .nil
  | x :: xs, h => by
    obtain ⟨ρa, ρb, ρc, h1, h2, h3, h4, h5⟩ := h x List.mem_cons_self
    have ih := lc_map (xs := xs) fun y hy => h y (List.mem_cons_of_mem _ hy)
    exact .keep h1 h2 h3 h4 (by rw [h5]; exact ih)
theorem lc_filter {α : Type} {vs : List Nat} {tg : PyData → Rho → Rho → Prop} {tst : Rho → Bool → Rho → Prop} {elt : Rho → PyData → Rho → Prop} {f g : α → PyData} {p : α → Bool} : ∀ {xs : List α},
    (∀ x ∈ xs, ∃ ρa ρb, tg (f x) (wipeR ρ vs) ρa ∧ SameOwn (wipeR ρ vs) ρa ∧ tst ρa (p x) ρb ∧ mrg ρ ρb = ρ ∧ (p x = true → ∃ ρc, elt ρb (g x) ρc ∧ mrg ρ ρc = ρ)) → Lc vs tg tst elt (xs.map f) ρ ((xs.filter p).map g) ρ
  | [], _ => .nil
  | x :: xs, h => by
    obtain ⟨ρa, ρb, h1, h2, h3, h4, h5⟩ := h x List.mem_cons_self
    have ih := lc_filter (xs := xs) fun y hy => h y (List.mem_cons_of_mem _ hy)
    rw [List.map_cons, List.filter_cons]
    by_cases hp : p x = true
    · rw [if_pos hp, List.map_cons]
      obtain ⟨ρc, h6, h7⟩ := h5 hp
      exact .keep h1 h2 (hp ▸ h3) h6 (by rw [h7]; exact ih)
    · rw [if_neg hp]
      have hp : p x = false := by simpa using hp
      exact .skip h1 h2 (hp ▸ h3) (by rw [h4]; exact ih)
theorem et_yes : EvT tYes ρ true ρ := ⟨rfl, fun F σ H Q E q => q H .refl E⟩
/-- a test of a comprehension: pts_one hands on the test's own reading -/
theorem at_nat {α : Type} {xs : List α} {f : α → PyData} {k : Nat} (z : α) (h : k < xs.length) : atI (xs.map f) (k : Int) = some (f (xs.getD k z)) := by
  refine atI_nat ?_
  rw [List.getElem?_map, List.getElem?_eq_getElem h, List.getD_eq_getElem?_getD, List.getElem?_eq_getElem h]
  rfl
theorem at_int {α : Type} {xs : List α} {f : α → PyData} {k : Int} (z : α) (h0 : 0 ≤ k) (h : k < xs.length) : atI (xs.map f) k = some (f (xs.getD k.toNat z)) := by
  have := at_nat (xs := xs) (f := f) (k := k.toNat) z (by omega)
  rwa [Int.toNat_of_nonneg h0] at this
theorem at_lastM {α : Type} {xs : List α} {f : α → PyData} (z : α) (h : xs ≠ []) : atI (xs.map f) (-1) = some (f (xs.getLastD z)) := by
  have e : xs.map f = xs.dropLast.map f ++ [f (xs.getLast h)] := by
    rw [← List.map_singleton, ← List.map_append, List.dropLast_concat_getLast]
  rw [e, atI_last, List.getLastD_eq_getLast?, List.getLast?_eq_getLast h]
  rfl
theorem enumD_map {α : Type} {xs : List α} {f : α → PyData} : enumD (xs.map f) = xs.zipIdx.map fun p => .tuple [.int (p.2 : Nat), f p.1] := by
  unfold enumD
  rw [List.zipIdx_map, List.map_map]
  rfl
theorem zipD_map {α β : Type} {xs : List α} {ys : List β} {f : α → PyData} {g : β → PyData} : zipD (xs.map f) (ys.map g) = (xs.zip ys).map fun p => .tuple [f p.1, g p.2] := by
  unfold zipD
  rw [List.zip_map, List.map_map]
  rfl
theorem no_own {ρ : Rho} {vs : List Nat} (h : (vs.all fun i => decide ((ρ.map ownQ)[i]? ≠ some true)) = true) : NoOwn ρ vs := fun i hi => of_decide_eq_true (List.all_eq_true.mp h i hi)
end
end EV

end
section
set_option Elab.async false
set_option linter.all false
set_option maxRecDepth 100000
set_option maxHeartbeats 400000
namespace EV
open PySem PySem.Spec PyProof.Rows L2 RZ
variable [KS]
section
variable {α β : Type} {tg : PyData → Rho → Rho → Prop} {body : Rho → Out → Prop} {f : α → PyData} {ρ : Rho}
/-- a loop that folds -/
theorem lp_fold {R : β → Rho} {step : β → α → β} {J : β → Prop} : ∀ {xs : List α} {b : β}, J b → (∀ b x, x ∈ xs → J b → J (step b x) ∧ ∃ ρ1, tg (f x) (R b) ρ1 ∧ body ρ1 (.next (R (step b x)))) →
    J (xs.foldl step b) ∧ Lp tg body (xs.map f) (R b) (.next (R (xs.foldl step b)))
  | [], b, hj, _ => ⟨hj, .done⟩
  | x :: xs, b, hj, h => by
    obtain ⟨h1, ρ1, h2, h3⟩ := h b x List.mem_cons_self hj
    obtain ⟨h4, h5⟩ := lp_fold (xs := xs) h1 fun b y hy => h b y (List.mem_cons_of_mem _ hy)
    exact ⟨h4, .nx h2 h3 h5⟩
/-- by the items' places -/
theorem lp_nat {ds : List PyData} {R : Nat → Rho} {o : Out} (h : ∀ i d, ds[i]? = some d → ∃ ρ1, tg d (R i) ρ1 ∧ body ρ1 (.next (R (i + 1)))) : Lp tg body ds (R 0) (.next (R ds.length)) := by
  have go : ∀ (k : Nat) (es : List PyData), (∀ i d, es[i]? = some d → ∃ ρ1, tg d (R (k + i)) ρ1 ∧ body ρ1 (.next (R (k + i + 1)))) → Lp tg body es (R k) (.next (R (k + es.length))) := fun k es => by
    induction es generalizing k with
    | nil => exact fun _ => .done
    | cons e es ih =>
      intro h
      obtain ⟨ρ1, h1, h2⟩ := h 0 e rfl
      refine .nx h1 h2 ?_
      have := ih (k + 1) fun i d hd => by
        have := h (i + 1) d (by simpa using hd)
        rwa [show k + (i + 1) = k + 1 + i by omega] at this
      rwa [show k + 1 + es.length = k + (e :: es).length by rw [List.length_cons]; omega] at this
  have := go 0 ds fun i d hd => by
    rw [Nat.zero_add]
    exact h i d hd
  rwa [Nat.zero_add] at this
/-- a loop that leaves at the first of some kind -/
theorem lp_find {p : α → Bool} {rt : α → PyData} : ∀ {xs : List α}, (∀ x ∈ xs, p x = false → ∃ ρ1, tg (f x) ρ ρ1 ∧ body ρ1 (.next ρ)) → (∀ x ∈ xs, p x = true → ∃ ρ1 ρe, tg (f x) ρ ρ1 ∧ body ρ1 (.ret (rt x) ρe)) →
    (xs.find? p = none → Lp tg body (xs.map f) ρ (.next ρ)) ∧ ∀ x, xs.find? p = some x → ∃ ρe, Lp tg body (xs.map f) ρ (.ret (rt x) ρe)
  | [], _, _ => ⟨fun _ => .done, fun x h => by cases h⟩
  | x :: xs, h1, h2 => by
    obtain ⟨i1, i2⟩ := lp_find (xs := xs) (fun y hy => h1 y (List.mem_cons_of_mem _ hy)) fun y hy => h2 y (List.mem_cons_of_mem _ hy)
    by_cases hp : p x = true
    · obtain ⟨ρ1, ρe, a, b⟩ := h2 x List.mem_cons_self hp
      refine ⟨fun h => ?_, fun y h => ?_⟩
      · rw [List.find?_cons_of_pos hp] at h
        cases h
      · rw [List.find?_cons_of_pos hp] at h
        cases h
        exact ⟨ρe, .rt a b⟩
    · have hp' : p x = false := by simpa using hp
      obtain ⟨ρ1, a, b⟩ := h1 x List.mem_cons_self hp'
      refine ⟨fun h => ?_, fun y h => ?_⟩
      · rw [List.find?_cons_of_neg hp] at h
        exact .nx a b (i1 h)
      · rw [List.find?_cons_of_neg hp] at h
        obtain ⟨ρe, q⟩ := i2 y h
        exact ⟨ρe, .nx a b q⟩
/-- what such a comprehension gives -/
def outs {α β : Type} (g : β → α → PyData) (step : β → α → β) : β → List α → List PyData
  | _, [] => []
  | b, x :: xs => g b x :: outs g step (step b x) xs
/-- a comprehension whose element turns something -/
theorem lc_fold {vs : List Nat} {tst : Rho → Bool → Rho → Prop} {elt : Rho → PyData → Rho → Prop} {R : β → Rho} {step : β → α → β} {g : β → α → PyData} {J : β → Prop} : ∀ {xs : List α} {b : β}, J b →
    (∀ b x, x ∈ xs → J b → J (step b x) ∧ ∃ ρa ρb ρc, tg (f x) (wipeR (R b) vs) ρa ∧ SameOwn (wipeR (R b) vs) ρa ∧ tst ρa true ρb ∧ elt ρb (g b x) ρc ∧ mrg (R b) ρc = R (step b x)) →
    J (xs.foldl step b) ∧ Lc vs tg tst elt (xs.map f) (R b) (outs g step b xs) (R (xs.foldl step b))
  | [], b, hj, _ => ⟨hj, .nil⟩
  | x :: xs, b, hj, h => by
    obtain ⟨h1, ρa, ρb, ρc, h2, h3, h4, h5, h6⟩ := h b x List.mem_cons_self hj
    obtain ⟨h7, h8⟩ := lc_fold (xs := xs) h1 fun b y hy => h b y (List.mem_cons_of_mem _ hy)
    exact ⟨h7, .keep h2 h3 h4 h5 (by rw [h6]; exact h8)⟩
end
theorem mulx {i j : Int} {a b : Nat} (ha : i.natAbs < 2 ^ a) (hb : j.natAbs < 2 ^ b) (h : a + b ≤ 134217728 := by decide) : CMulX i j := mulx_ok ha hb h
theorem mul_lt {i j : Int} {a b : Nat} (ha : i.natAbs < 2 ^ a) (hb : j.natAbs < 2 ^ b) : (i * j).natAbs < 2 ^ (a + b) := by
  rw [Int.natAbs_mul, Nat.pow_add]
  exact Nat.mul_lt_mul'' ha hb
theorem pow_lt {n a b : Nat} (h : n < 2 ^ a) (hab : a ≤ b) : n < 2 ^ b := Nat.lt_of_lt_of_le h (Nat.pow_le_pow_right (by decide) hab)
end EV
namespace EV
open PySem PySem.Spec PyProof.Rows L2 RZ
variable [KS]
theorem sv_nx {pr : List Nat} {t : TS} {ρ ρ1 ρ2 : Rho} (h : Sv pr t ρ (.next ρ1)) (e : ρ1 = ρ2) : Sv pr t ρ (.next ρ2) := e ▸ h
theorem sv_ct {pr : List Nat} {t : TS} {ρ ρ1 ρ2 : Rho} (h : Sv pr t ρ (.cont ρ1)) (e : ρ1 = ρ2) : Sv pr t ρ (.cont ρ2) := e ▸ h
theorem sv_rt {pr : List Nat} {t : TS} {ρ ρ1 : Rho} {d e : PyData} (h : Sv pr t ρ (.ret d ρ1)) (q : d = e) : Sv pr t ρ (.ret e ρ1) := q ▸ h
end EV
namespace EV
open PySem PySem.Spec PyProof.Rows L2 RZ
variable [KS]
section
variable {ρ ρ1 : Rho} {t : TE} {tA : TA} {K : PySem.W.Frag} {α β : Type} {xs : List α} {ys : List β} {f : α → PyData} {g : β → PyData}
theorem ei_enumm (h : Ev t ρ (.list (xs.map f)) ρ1) : EvI (iEnum K (tCons t tNil)) ρ (xs.zipIdx.map fun p => .tuple [.int (p.2 : Nat), f p.1]) ρ1 := enumD_map (f := f) ▸ ei_enum h
theorem ei_zipTm (h : EvA tA ρ [.tuple (xs.map f), .tuple (ys.map g)] ρ1) : EvI (iZipA K tA) ρ ((xs.zip ys).map fun p => .tuple [f p.1, g p.2]) ρ1 := zipD_map (f := f) (g := g) ▸ ei_zipT h
theorem ei_zipLm (h : EvA tA ρ [.list (xs.map f), .list (ys.map g)] ρ1) : EvI (iZipA K tA) ρ ((xs.zip ys).map fun p => .tuple [f p.1, g p.2]) ρ1 := zipD_map (f := f) (g := g) ▸ ei_zipL h
end
/-! ends of lists -/
theorem cut_two {xs : List PyData} {a b : PyData} : cutD (xs ++ [a, b]) none (some (-2)) = xs := by
  unfold cutD
  rw [HT.sIx_none]
  have e : HT.sIx (xs ++ [a, b]).length (xs ++ [a, b]).length (some (-2)) = xs.length := by
    show (if (-2 : Int) < 0 then ((-2 : Int) + ((xs ++ [a, b]).length : Int)).toNat else min (-2 : Int).toNat (xs ++ [a, b]).length) = xs.length
    rw [if_pos (by decide), List.length_append]
    simp only [List.length_cons, List.length_nil]
    omega
  rw [e, List.drop_zero, Nat.sub_zero, List.take_left]
theorem cut_one {xs : List PyData} : cutD xs none (some (-1)) = xs.dropLast := by
  unfold cutD
  rw [HT.sIx_none]
  have e : HT.sIx xs.length xs.length (some (-1)) = xs.length - 1 := by
    show (if (-1 : Int) < 0 then ((-1 : Int) + (xs.length : Int)).toNat else min (-1 : Int).toNat xs.length) = xs.length - 1
    rw [if_pos (by decide)]
    omega
  rw [e, List.drop_zero, Nat.sub_zero, List.dropLast_eq_take]
theorem at_last2 {α : Type} {xs : List α} {a b : α} : atI (xs ++ [a, b]) (-2) = some a := by
  unfold atI ixN
  rw [if_neg (by decide), List.length_append]
  simp only [List.length_cons, List.length_nil]
  rw [if_pos (by omega)]
  show (xs ++ [a, b])[(-2 + ((xs.length + (0 + 1 + 1) : Nat) : Int)).toNat]? = some a
  have : (-2 + ((xs.length + (0 + 1 + 1) : Nat) : Int)).toNat = xs.length := by omega
  rw [this, List.getElem?_append_right (Nat.le_refl _), Nat.sub_self]
  rfl
theorem at_last1 {α : Type} {xs : List α} {a b : α} : atI (xs ++ [a, b]) (-1) = some b := by
  have := atI_last (xs ++ [a]) b
  rwa [List.append_assoc] at this
end EV

end
section
set_option Elab.async false
set_option linter.all false
set_option maxRecDepth 100000
set_option maxHeartbeats 400000
/-! the rules with the written part by its name -/
namespace EV
open PySem PySem.Spec PyProof.Rows L2 RZ
variable [KS]
section
variable {X : Cx} {K : PySem.W.Frag}
theorem ixK (hK : X.K = K) : IxR X (rIx K) := by subst hK; exact ix_seq
theorem addK (hK : X.K = K) : OpR X (binaryOp .Add) (rAddU K) := by subst hK; exact op_addU
theorem eqK (hK : X.K = K) (hu : X.A.units + 64 < cLine) : OpR X (compareOp .Eq) (rEqU K) := by subst hK; exact op_eqU hu
theorem neK (hK : X.K = K) (hu : X.A.units + 64 < cLine) : OpR X (compareOp .NotEq) (rNeU K) := by subst hK; exact op_neU hu
theorem lenK (hK : X.K = K) : CallR X (.builtin "len") (fun xs H Q => ∃ p ys, xs = [.ref p] ∧ (SqL K H p ys ∨ SqT K H p ys) ∧ Q (.int ys.length) H) := by subst hK; exact call_len_seq
theorem tupleK (hK : X.K = K) : CallR X (.type "tuple") (fun xs H Q => ∃ p ys, xs = [.ref p] ∧ ((SqL K H p ys ∧ ∀ l, H l = none → Q (.ref l) (upd H l (.tup ys))) ∨ (SqT K H p ys ∧ Q (.ref p) H))) := by subst hK; exact call_tuple_of
theorem sumK (hK : X.K = K) (hc : X.calm = true) : CallR X (.builtin "sum") (rSum K) := by subst hK; exact cr_sum hc
theorem isiK (hK : X.K = K) : CallR X (.builtin "isinstance") (rIsi K) := by subst hK; exact call_isi
theorem slK (hK : X.K = K) : SlR X (rSlL K) := by subst hK; exact sl_list
theorem pe_appK (hK : X.K = K) {o e : Expr} {to te : TE} {apos cpos : Pos} (ho : PE X o to) (ha : PE X e te) 
    (hbase : attributeBase o "append" X.env (eval o X.env) = eval o X.env := by rfl)
    (hfew : ((backTo cpos (starEach [e] X.env)).all (fun x => !x.1) && (backToKw cpos (keywordEach [] X.env)).all (fun x => x.1.isSome)
      && decide ([e].length + ([] : List Keyword).length + (if ([] : List Keyword).isEmpty then 0 else 1) < 30)) = true := by rfl)
    (hline : (apos.endLine == cpos.line) = true := by rfl) (hs : starEach [e] X.env = (false, eval e X.env) :: starEach [] X.env := by rfl) (hplain : (backTo cpos (starEach [] X.env)).any (·.1) = false := by rfl) :
    PE X (.Call (.Attribute o "append" apos) [e] [] cpos) (tBM K "list" rAppend to (tCons te tNil)) := by
  subst hK
  exact pe_bm PySem.F.plainAttrs_list PySem.F.slot_list_append PySem.F.type_list_append mt_append ho (pa_cons ha pa_nil hs) hbase hfew hline hs hplain
theorem pg_tupK (hK : X.K = K) {es : List Expr} {k : Nat} {pos : Pos} {t : TGs} {n : Nat} (hc : X.calm = true) (h : PGs X es t) (hn : (assignEach es X.env).length = n := by rfl) (hst : (assignEach es X.env).findIdx? (·.1) = none := by rfl) : PG X (.Tuple es k pos) (gTup K n t) := by
  subst hK
  exact pg_tup hc h hn hst
theorem pi_seqK (hK : X.K = K) {tg l : Expr} {tl : TE} (hl : PE X l tl) : PI X tg l (iSeq K tl) := by subst hK; exact pi_seq hl
theorem pi_enumK (hK : X.K = K) {e : Expr} {te : TE} {p pos tpos : Pos} {elts : List Expr} {kk : Nat} (hg : Gl X "enumerate") (hm : X.mg "enumerate" = none) (ha : PE X e te) (ha' : starEach [e] X.env = (false, eval e X.env) :: starEach [] X.env := by rfl) (hs : starEach [e] X.env = [(false, eval e X.env)] := by rfl) :
    PI X (.Tuple elts kk tpos) (.Call (.Name "enumerate" p) [e] [] pos) (iEnum K (tCons te tNil)) := by
  subst hK
  exact pi_enum hg hm (pa_cons ha pa_nil ha') hs
theorem pi_zipK (hK : X.K = K) {e e2 : Expr} {ta : TA} {p pos tpos : Pos} {elts : List Expr} {kk : Nat} (hg : Gl X "zip") (hm : X.mg "zip" = none) (ha : PA X [e, e2] ta)
    (hs : starEach [e, e2] X.env = (false, eval e X.env) :: starEach [e2] X.env := by rfl) (hpl : (backTo pos (starEach [e2] X.env)).any (·.1) = false := by rfl) :
    PI X (.Tuple elts kk tpos) (.Call (.Name "zip" p) [e, e2] [] pos) (iZipA K ta) := by
  subst hK
  exact pi_zipA hg hm ha hs hpl
theorem revK (hK : X.K = K) {e : Expr} {te : TE} {k : Nat} {p1 p2 p3 pos : Pos} (he : PE X e te) : PE X (.Subscript e (.Slice none none (some (.UnaryOp .USub (.Constant (.int 1) k p1) p2)) p3) pos) (tRevT K te) := by
  subst hK
  exact pe_revT he
theorem calK {P : Program} {w : World} {mg : Str → Option Value} {base : Heap} {k : Nat} {x : Str} {ps : List Str} {G : Rho → PyData → Rho → Prop} {p pos : Pos} {e : Expr} {es : List Expr} {t : TA} (C : Cal P w K mg base k x ps G) (hP : X.prog = P) (hw : X.w = w) (hK : X.K = K) (hm : X.mg = mg) (hb : X.base = base) (hr : Room k X.A) (hg : Gl X x) (ha : PA X (e :: es) t) (hdb : (x == ("__debug__" : Str)) = false := by decide)
    (he : starEach (e :: es) X.env = (false, eval e X.env) :: starEach es X.env := by rfl) (hpl : (backTo pos (starEach es X.env)).any (·.1) = false := by rfl) : PE X (.Call (.Name x p) (e :: es) [] pos) (tCall (spG G) [] E0 t) := by
  subst hP hw hK hm hb
  exact pe_cal C hr hg ha hdb he hpl
end
end EV

end
section
set_option Elab.async false
set_option linter.all false
set_option maxRecDepth 100000
set_option maxHeartbeats 400000
/-! several names at once, new lists of one's own among them -/
namespace EV
open PySem PySem.Spec PyProof.Rows L2 RZ
variable [KS]
inductive RpS (B : AP) (H : Hp) : AP → List V → List Sl → Prop
  | nil : RpS B H (fun _ => False) [] []
  | d {N : AP} {v : V} {vs : List V} {d : PyData} {ss : List Sl} : Rp B H v d → RpS B H N vs ss → RpS B H N (v :: vs) (.d d :: ss)
  | o {N : AP} {a : Addr} {ws vs : List V} {ds : List PyData} {ss : List Sl} : H a = some (.lst ws) → RpL B H ws ds → ¬ N a → RpS B H N vs ss → RpS B H (fun b => N b ∨ b = a) (.ref a :: vs) (.own ds :: ss)
theorem RpS.to {B B' : AP} {H : Hp} (f : ∀ a o, H a = some o → ¬ B a → ¬ B' a) : ∀ {N : AP} {vs : List V} {ss : List Sl}, RpS B H N vs ss → RpS B' H N vs ss
  | _, _, _, .nil => .nil
  | _, _, _, .d r t => .d (r.to fun a o q n => ⟨q, f a o q n⟩) (RpS.to f t)
  | _, _, _, .o h r n t => .o h (r.to fun a o q n => ⟨q, f a o q n⟩) n (RpS.to f t)
theorem RpS.length {B : AP} {H : Hp} : ∀ {N : AP} {vs : List V} {ss : List Sl}, RpS B H N vs ss → vs.length = ss.length
  | _, _, _, .nil => rfl
  | _, _, _, .d _ t => congrArg (· + 1) (RpS.length t)
  | _, _, _, .o _ _ _ t => congrArg (· + 1) (RpS.length t)
def EvN (t : TA) (ρ : Rho) (ss : List Sl) (ρ' : Rho) : Prop :=
  SameOwn ρ ρ' ∧ ∀ (F : AP) (σ : L2.St) (H : Hp) (Q : List V → Hp → Prop), Env F H σ ρ →
    (∀ vs N H', (∀ a, N a → H a = none) → Stp (Oof σ ρ) H H' → Env (fun b => F b ∨ N b) H' σ ρ' → RpS (Bof (fun b => F b ∨ N b) σ ρ) H' N vs ss → Q vs H') → t σ H Q
theorem Env.congrF {F F' : AP} {H : Hp} {σ : L2.St} {ρ : Rho} (E : Env F H σ ρ) (e : ∀ a, F a ↔ F' a) : Env F' H σ ρ := by
  have : F = F' := funext fun a => propext (e a)
  subst this
  exact E
section
variable {pr : List Nat} {F : AP} {σ0 : L2.St} {H0 : Hp} {O0 : AP} {σ : L2.St} {H : Hp} {ρ ρ1 ρ2 : Rho} {t : TE} {tA : TA} {d : PyData} {ds : List PyData} {ss : List Sl} {i j : Nat} {K : PySem.W.Frag}
theorem en_nil : EvN tNil ρ [] ρ := ⟨rfl, fun F σ H Q E q => q _ (fun _ => False) H (fun _ z => z.elim) .refl (E.congrF fun a => ⟨.inl, fun z => z.elim id False.elim⟩) .nil⟩
theorem en_d (h : Ev t ρ d ρ1) (h2 : EvN tA ρ1 ss ρ2) : EvN (tCons t tA) ρ (.d d :: ss) ρ2 := by
  refine ⟨h.1.trans h2.1, fun F σ H Q E q => h.2 F σ H _ E fun v H1 s1 E1 r1 => h2.2 F σ H1 _ E1 fun vs N H2 nN s2 E2 r2 => ?_⟩
  rw [← h.1.oof σ] at s2
  rw [← h.1.bof _ σ] at r2
  have nH : ∀ a, N a → H a = none := fun a z => by
    cases e : H a with
    | none => rfl
    | some o =>
      by_cases hO : Oof σ ρ a
      · exact absurd (nN a z) (E1.bH (h.1.bof F σ ▸ Or.inr hO))
      · have := nN a z
        rw [s1 a o e hO] at this
        cases this
  refine q _ N H2 nH (s1.trans s2) E2 (.d (r1.to fun a o e n => ⟨s2 a o e fun z => n (.inr z), fun z => ?_⟩) r2)
  rcases z with (z | z) | z
  · exact n (.inl z)
  · rw [nN a z] at e
    cases e
  · exact n (.inr z)
theorem en_o (h : EvF t ρ ds ρ1) (h2 : EvN tA ρ1 ss ρ2) : EvN (tCons t tA) ρ (.own ds :: ss) ρ2 := by
  refine ⟨h.1.trans h2.1, fun F σ H Q E q => h.2 F σ H _ E fun a ws H1 na s1 E1 hH r1 => h2.2 _ σ H1 _ E1 fun vs N H2 nN s2 E2 r2 => ?_⟩
  rw [← h.1.oof σ] at s2
  rw [← h.1.bof _ σ] at r2
  have nO : ¬ Oof σ ρ a := fun z => E.bH (.inr z) na
  have nH : ∀ a, N a → H a = none := fun a z => by
    cases e : H a with
    | none => rfl
    | some o =>
      by_cases hO : Oof σ ρ a
      · exact absurd (nN a z) (E1.bH (h.1.bof _ σ ▸ Or.inr hO))
      · have := nN a z
        rw [s1 a o e hO] at this
        cases this
  have naN : ¬ N a := fun z => by
    rw [nN a z] at hH
    cases hH
  have fe : ∀ b, ((F b ∨ b = a) ∨ N b) ↔ (F b ∨ (N b ∨ b = a)) := fun b => ⟨fun z => z.elim (fun z => z.elim .inl fun z => .inr (.inr z)) fun z => .inr (.inl z), fun z => z.elim (fun z => .inl (.inl z)) fun z => z.elim .inr fun z => .inl (.inr z)⟩
  have be : Bof (fun b => (F b ∨ b = a) ∨ N b) σ ρ = Bof (fun b => F b ∨ (N b ∨ b = a)) σ ρ := by
    rw [show (fun b => (F b ∨ b = a) ∨ N b) = (fun b => F b ∨ (N b ∨ b = a)) from funext fun b => propext (fe b)]
  refine q _ (fun b => N b ∨ b = a) H2 (fun b z => z.elim (nH b) fun z => by rw [z]; exact na) (s1.trans s2) (E2.congrF fe) (.o (s2 a _ hH nO) ?_ naN (be ▸ r2))
  rw [← be]
  refine r1.to fun b o e n => ⟨s2 b o e fun z => n (.inr z), fun z => ?_⟩
  rcases z with (z | z) | z
  · exact n (.inl z)
  · rw [nN b z] at e
    cases e
  · exact n (.inr z)
def setAll : Rho → List Nat → List Sl → Rho
  | ρ, i :: is, s :: ss => setAll (ρ.set i s) is ss
  | ρ, _, _ => ρ
def setAllV : L2.St → List Nat → List V → L2.St
  | σ, i :: is, v :: vs => setAllV (σ.set i (some v)) is vs
  | σ, _, _ => σ
theorem EnvS.setO' {F' : AP} {a : Addr} {vs : List V} (E : EnvS pr F' σ0 H0 O0 σ H ρ) (fe : ∀ b, F' b ↔ (F b ∨ b = a)) (nf : ¬ F a) (hH : H a = some (.lst vs)) (r : RpL (Bof F' σ ρ) H vs ds) (h0 : O0 a ∨ H0 a = none) (hi : i < ρ.length) (hp : i ∉ pr) :
    EnvS pr F σ0 H0 O0 (σ.set i (some (.ref a))) H (ρ.set i (.own ds)) := by
  have : F' = fun b => F b ∨ b = a := funext fun b => propext (fe b)
  subst this
  exact {
    env := E.env.setO nf hH r hi
    stp := E.stp
    prot := fun j hj => by
      have n : i ≠ j := fun z => hp (z ▸ hj)
      obtain ⟨h1, h2⟩ := E.prot j hj
      obtain ⟨ds, h2⟩ := own_get.mp h2
      exact ⟨by rw [List.getElem?_set_ne n]; exact h1, own_get.mpr ⟨ds, by rw [List.getElem?_set_ne n]; exact h2⟩⟩
    new := fun j b h => by
      rcases ownAt_setO h with ⟨_, rfl⟩ | ⟨_, h⟩
      · exact h0
      · exact E.new j b h }
theorem Env.unhideN {N : AP} (E : Env (fun b => F b ∨ N b) H σ ρ) : Env F H σ ρ where
  len := E.len
  fr := fun b hb => E.fr b (.inl hb)
  dat := fun i d hd => by
    obtain ⟨v, e, r⟩ := E.dat i d hd
    exact ⟨v, e, r.to fun b o q n => ⟨q, fun z => n (z.elim (fun z => .inl (.inl z)) .inr)⟩⟩
  own := fun i d hd => by
    obtain ⟨b, vs, e, n, q, r⟩ := E.own i d hd
    exact ⟨b, vs, e, fun z => n (.inl z), q, r.to fun b o q n => ⟨q, fun z => n (z.elim (fun z => .inl (.inl z)) .inr)⟩⟩
  sep := E.sep
theorem RpS.same {B : AP} {H H2 : Hp} (sm : Same H H2) : ∀ {N : AP} {vs : List V} {ss : List Sl}, RpS B H N vs ss → RpS B H2 N vs ss
  | _, _, _, .nil => .nil
  | _, _, _, .d r t => .d (r.to fun a o q n => ⟨sm a o q, n⟩) (RpS.same sm t)
  | _, _, _, .o h r n t => .o (sm _ _ h) (r.to fun a o q n => ⟨sm a o q, n⟩) n (RpS.same sm t)
theorem asgN : ∀ {is : List Nat} {ss : List Sl} {vs : List V} {N : AP} {σ : L2.St} {ρ : Rho}, EnvS pr (fun b => F b ∨ N b) σ0 H0 O0 σ H ρ → RpS (Bof (fun b => F b ∨ N b) σ ρ) H N vs ss → (∀ a, N a → ¬ F a ∧ (O0 a ∨ H0 a = none)) →
    is.length = ss.length → (∀ i ∈ is, i < ρ.length ∧ i ∉ pr) → EnvS pr F σ0 H0 O0 (setAllV σ is vs) H (setAll ρ is ss)
  | [], ss, vs, N, σ, ρ, E, r, hN, hl, hi => by
    generalize hB : Bof (fun b => F b ∨ N b) σ ρ = B at r
    cases r with
    | nil => exact ⟨E.env.unhideN, E.stp, E.prot, E.new⟩
    | d _ _ => simp at hl
    | o _ _ _ _ => simp at hl
  | i :: is, ss, vs, N, σ, ρ, E, r, hN, hl, hi => by
    generalize hB : Bof (fun b => F b ∨ N b) σ ρ = B at r
    cases r with
    | nil => simp at hl
    | d r t =>
      subst hB
      have E1 := E.set r (hi i List.mem_cons_self).1 (hi i List.mem_cons_self).2
      exact asgN (is := is) E1 (t.to fun a o q n z => n (bof_set z)) hN (by simpa using hl) fun k hk => by
        rw [List.length_set]
        exact hi k (List.mem_cons_of_mem _ hk)
    | @o N a ws vs ds ss hH r na t =>
      subst hB
      have hz := hN a (.inr rfl)
      have E1 := E.setO' (F := fun b => F b ∨ N b) (fun b => ⟨fun z => z.elim (fun z => .inl (.inl z)) fun z => z.elim (fun z => .inl (.inr z)) .inr, fun z => z.elim (fun z => z.elim .inl fun z => .inr (.inl z)) fun z => .inr (.inr z)⟩) (fun z => z.elim hz.1 na) hH r hz.2 (hi i List.mem_cons_self).1 (hi i List.mem_cons_self).2
      refine asgN (is := is) E1 (t.to fun b o q n z => n ?_) (fun b z => hN b (.inl z)) (by simpa using hl) fun k hk => by
        rw [List.length_set]
        exact hi k (List.mem_cons_of_mem _ hk)
      have := bof_setO z
      rcases this with (z | z) | z
      · exact .inl (z.elim .inl fun z => .inr (.inl z))
      · exact .inl (.inr (.inr z))
      · exact .inr z
def gNs : List Nat → TGs
  | [] => gNil
  | i :: is => gCons (gName i) (gNs is)
theorem gNs_run : ∀ {is : List Nat} {vs : List V} {σ : L2.St} {Q : L2.St → Hp → Prop}, is.length = vs.length → Q (setAllV σ is vs) H → gNs is vs σ H Q
  | [], [], σ, Q, _, q => ⟨rfl, q⟩
  | i :: is, v :: vs, σ, Q, hl, q => ⟨v, vs, rfl, gNs_run (is := is) (by simpa using hl) q⟩
theorem evN_core (h : EvN tA ρ ss ρ1) (E : EnvS pr F σ0 H0 O0 σ H ρ) {is : List Nat} (hl : is.length = ss.length) (hi : ∀ i ∈ is, i < ρ1.length ∧ i ∉ pr) {Q : List V → Hp → Prop}
    (q : ∀ vs H', vs.length = ss.length → (∀ H2, Same H' H2 → EnvS pr F σ0 H0 O0 (setAllV σ is vs) H2 (setAll ρ1 is ss)) → Q vs H') : tA σ H Q := h.2 F σ H _ E.env fun vs N H' nN s E' r => by
  refine q vs H' r.length fun H2 sm => ?_
  have E1 := E.step s E'.unhideN h.1
  have E2 : EnvS pr (fun b => F b ∨ N b) σ0 H0 O0 σ H2 ρ1 := ⟨E'.same sm, fun a o e n => sm a o (E1.stp a o e n), E1.prot, E1.new⟩
  refine asgN E2 ((h.1.bof _ σ ▸ r).same sm) (fun a z => ⟨fun y => E.env.fr a y (nN a z), ?_⟩) hl hi
  by_cases hO : O0 a
  · exact .inl hO
  · refine .inr ?_
    cases e : H0 a with
    | none => rfl
    | some o =>
      have := nN a z
      rw [E.stp a o e hO] at this
      cases this
theorem all_ok {is : List Nat} (h : (is.all fun i => decide (i < ρ1.length ∧ i ∉ pr)) = true) : ∀ i ∈ is, i < ρ1.length ∧ i ∉ pr := fun i hi => of_decide_eq_true (List.all_eq_true.mp h i hi)
theorem sv_asgN {n : Nat} {is : List Nat} (h : EvN tA ρ ss ρ1) (hn : ss.length = n) (hl : is.length = ss.length) (hi : (is.all fun i => decide (i < ρ1.length ∧ i ∉ pr)) = true) (hz : ss.length ≤ sizeLine) : Sv pr (tAsg (tTup tA) (gTup K n (gNs is))) ρ (.next (setAll ρ1 is ss)) := fun F σ0 H0 O0 σ H D E q => by
  refine evN_core h E hl (all_ok hi) fun vs H' hv k => ⟨by rw [hv]; exact hz, fun p np => ⟨p, vs, rfl, .of upd_same, hv.trans hn, gNs_run (hl.trans hv.symm) (q _ _ (k _ (same_upd np)))⟩⟩
theorem sv_parN (h : EvN tA ρ ss ρ1) (hl : 2 = ss.length) (hi : ([i, j].all fun i => decide (i < ρ1.length ∧ i ∉ pr)) = true) : Sv pr (tPar i j tA) ρ (.next (setAll ρ1 [i, j] ss)) := fun F σ0 H0 O0 σ H D E q => by
  refine evN_core (is := [i, j]) h E hl (all_ok hi) fun vs H' hv k => ?_
  match vs, hv.trans hl.symm with
  | [v, w], _ => exact ⟨v, w, rfl, q _ _ (k H' (Same.refl _))⟩
theorem sv_parN3 {k : Nat} (h : EvN tA ρ ss ρ1) (hl : 3 = ss.length) (hi : ([i, j, k].all fun i => decide (i < ρ1.length ∧ i ∉ pr)) = true) : Sv pr (tPar3 i j k tA) ρ (.next (setAll ρ1 [i, j, k] ss)) := fun F σ0 H0 O0 σ H D E q => by
  refine evN_core (is := [i, j, k]) h E hl (all_ok hi) fun vs H' hv g => ?_
  match vs, hv.trans hl.symm with
  | [u, v, w], _ => exact ⟨u, v, w, rfl, q _ _ (g H' (Same.refl _))⟩
end
end EV
namespace EV
open PySem PySem.Spec PyProof.Rows L2 RZ
variable [KS]
theorem lp_natN {tg : PyData → Rho → Rho → Prop} {body : Rho → Out → Prop} {ds : List PyData} {R : Nat → Rho} {n : Nat} (hl : ds.length = n) (h : ∀ i d, i < n → ds[i]? = some d → ∃ ρ1, tg d (R i) ρ1 ∧ body ρ1 (.next (R (i + 1)))) : Lp tg body ds (R 0) (.next (R n)) := by
  subst hl
  exact lp_nat (o := .next []) fun i d hd => h i d (List.getElem?_eq_some_iff.mp hd).1 hd
theorem map_get {α : Type} {f : α → PyData} {xs : List α} {i : Nat} {d : PyData} (h : (xs.map f)[i]? = some d) : ∃ x, xs[i]? = some x ∧ d = f x := by
  rw [List.getElem?_map] at h
  cases e : xs[i]? with
  | none => rw [e] at h; cases h
  | some x =>
    rw [e] at h
    exact ⟨x, rfl, (Option.some.inj h).symm⟩
/-- over range(lo, lo + n) -/
theorem lp_rng {tg : PyData → Rho → Rho → Prop} {body : Rho → Out → Prop} {R : Nat → Rho} {lo : Int} {n : Nat} (h : ∀ i, i < n → ∃ ρ1, tg (.int (lo + (i : Int))) (R i) ρ1 ∧ body ρ1 (.next (R (i + 1)))) : Lp tg body (rngD lo n) (R 0) (.next (R n)) :=
  lp_natN (by unfold rngD; simp) fun i d hi hd => by
    obtain ⟨x, hx, rfl⟩ := map_get (f := fun (i : Nat) => PyData.int (lo + (i : Int))) hd
    rw [List.getElem?_range hi] at hx
    cases hx
    exact h i hi
end EV
namespace EV
open PySem PySem.Spec PyProof.Rows L2 RZ
variable [KS]
/-! ends that hand back, whatever lies behind -/
section
variable {pr : List Nat} {s u : TS} {ρ ρ1 : Rho} {r : PyData} {ds : List PyData} {c : TT} {b : Bool}
theorem xr {t : TS} (h : Sv pr t ρ (.ret r ρ1)) : ∃ ρe, Sv pr t ρ (.ret r ρe) := ⟨_, h⟩
theorem xr_cons (h : Sv pr s ρ (.next ρ1)) (h2 : ∃ ρe, Sv pr u ρ1 (.ret r ρe)) : ∃ ρe, Sv pr (tSeq s u) ρ (.ret r ρe) := h2.elim fun ρe h2 => ⟨ρe, sv_cons h h2⟩
theorem xr_stop (h : ∃ ρe, Sv pr s ρ (.ret r ρe)) : ∃ ρe, Sv pr (tSeq s u) ρ (.ret r ρe) := h.elim fun ρe h => ⟨ρe, sv_stop h fun _ z => by cases z⟩
theorem xr_for {ts : List Nat} {wi : TI} {g : TG} {tb : TS} (hi : EvI wi ρ ds ρ1) (hl : ∃ ρe, Lp (Tg pr ts g) (Sv pr tb) ds ρ1 (.ret r ρe)) : ∃ ρe, Sv pr (tFor wi g tb) ρ (.ret r ρe) := hl.elim fun ρe hl => ⟨ρe, sv_for hi hl⟩
theorem xr_ifT (h : EvT c ρ true ρ1) (h2 : ∃ ρe, Sv pr s ρ1 (.ret r ρe)) : ∃ ρe, Sv pr (tIfS c s u) ρ (.ret r ρe) := h2.elim fun ρe h2 => ⟨ρe, sv_ifT h h2⟩
theorem xr_ifF (h : EvT c ρ false ρ1) (h2 : ∃ ρe, Sv pr u ρ1 (.ret r ρe)) : ∃ ρe, Sv pr (tIfS c s u) ρ (.ret r ρe) := h2.elim fun ρe h2 => ⟨ρe, sv_ifF h h2⟩
theorem xr_while {tb : TS} {n : Nat} (hl : ∃ ρe, Wh (EvT c) (Sv pr tb) n ρ (.ret r ρe)) : ∃ ρe, Sv pr (tWhile c tb) ρ (.ret r ρe) := hl.elim fun ρe hl => ⟨ρe, sv_while hl⟩
theorem xr_rt {t : TS} {d : PyData} (h : ∃ ρe, Sv pr t ρ (.ret d ρe)) (e : d = r) : ∃ ρe, Sv pr t ρ (.ret r ρe) := e ▸ h
end
end EV
namespace EV
open PySem PySem.Spec PyProof.Rows L2 RZ
variable [KS]
theorem sv_postC {pr : List Nat} {t : TS} {ρ ρ' ρ2 : Rho} (h : Sv pr t ρ (.cont ρ')) (w : Wk ρ' ρ2) : Sv pr t ρ (.cont ρ2) := fun F σ0 H0 O0 σ H D E q => h F σ0 H0 O0 σ H D E fun σ' H' E' => q σ' H' (E'.wk w)
theorem lp_natC {tg : PyData → Rho → Rho → Prop} {body : Rho → Out → Prop} {ds : List PyData} {R : Nat → Rho} {n : Nat} (hl : ds.length = n) (h : ∀ i d, i < n → ds[i]? = some d → ∃ ρ1, tg d (R i) ρ1 ∧ (body ρ1 (.next (R (i + 1))) ∨ body ρ1 (.cont (R (i + 1))))) : Lp tg body ds (R 0) (.next (R n)) := by
  subst hl
  have go : ∀ (k : Nat) (es : List PyData), (∀ i d, es[i]? = some d → ∃ ρ1, tg d (R (k + i)) ρ1 ∧ (body ρ1 (.next (R (k + i + 1))) ∨ body ρ1 (.cont (R (k + i + 1))))) → Lp tg body es (R k) (.next (R (k + es.length))) := fun k es => by
    induction es generalizing k with
    | nil => exact fun _ => .done
    | cons e es ih =>
      intro h
      obtain ⟨ρ1, h1, h2⟩ := h 0 e rfl
      have := ih (k + 1) fun i d hd => by
        have := h (i + 1) d (by simpa using hd)
        rwa [show k + (i + 1) = k + 1 + i by omega] at this
      rw [show k + 1 + es.length = k + (e :: es).length by rw [List.length_cons]; omega] at this
      rcases h2 with h2 | h2
      · exact .nx h1 h2 this
      · exact .ct h1 h2 this
  have := go 0 ds fun i d hd => by
    rw [Nat.zero_add]
    exact h i d (List.getElem?_eq_some_iff.mp hd).1 hd
  rwa [Nat.zero_add] at this
theorem enum_get {α : Type} {f : α → PyData} {xs : List α} {i : Nat} {d : PyData} (z : α) (h : (xs.zipIdx.map fun q => PyData.tuple [.int (q.2 : Nat), f q.1])[i]? = some d) : i < xs.length ∧ d = .tuple [.int (i : Nat), f (xs.getD i z)] := by
  rw [List.getElem?_map, List.getElem?_zipIdx] at h
  cases e : xs[i]? with
  | none => rw [e] at h; cases h
  | some x =>
    rw [e] at h
    refine ⟨(List.getElem?_eq_some_iff.mp e).1, ?_⟩
    rw [List.getD_eq_getElem?_getD, e]
    simp only [Option.map_some, Option.some.injEq] at h
    rw [← h]
    simp
def optD : Option Nat → PyData
  | none => .none
  | some k => .int (k : Nat)
end EV
namespace EV
open PySem PySem.Spec PyProof.Rows L2 RZ
variable [KS]
section
variable {ρ ρ1 ρ2 : Rho} {ta tb : TE} {tA : TA} {K : PySem.W.Frag} {α : Type} [Inhabited α] {xs : List α} {f : α → PyData} {k : Nat} {j : Int}
theorem ev_ixLn (h : Ev ta ρ (.list (xs.map f)) ρ1) (h2 : Ev tb ρ1 (.int (k : Nat)) ρ2) (hk : k < xs.length) : Ev (tOp (rIx K) ta tb) ρ (f (xs.getD k default)) ρ2 := ev_ixL h h2 (at_nat default hk)
theorem ev_ixTn (h : Ev ta ρ (.tuple (xs.map f)) ρ1) (h2 : Ev tb ρ1 (.int (k : Nat)) ρ2) (hk : k < xs.length) : Ev (tOp (rIx K) ta tb) ρ (f (xs.getD k default)) ρ2 := ev_ixT h h2 (at_nat default hk)
theorem ev_ixLi (h : Ev ta ρ (.list (xs.map f)) ρ1) (h2 : Ev tb ρ1 (.int j) ρ2) (hk : 0 ≤ j ∧ j < xs.length) : Ev (tOp (rIx K) ta tb) ρ (f (xs.getD j.toNat default)) ρ2 := ev_ixL h h2 (at_int default hk.1 hk.2)
theorem ev_ixTi (h : Ev ta ρ (.tuple (xs.map f)) ρ1) (h2 : Ev tb ρ1 (.int j) ρ2) (hk : 0 ≤ j ∧ j < xs.length) : Ev (tOp (rIx K) ta tb) ρ (f (xs.getD j.toNat default)) ρ2 := ev_ixT h h2 (at_int default hk.1 hk.2)
theorem ev_ixLl (h : Ev ta ρ (.list (xs.map f)) ρ1) (h2 : Ev tb ρ1 (.int (-1)) ρ2) (hk : xs ≠ []) : Ev (tOp (rIx K) ta tb) ρ (f (xs.getLastD default)) ρ2 := ev_ixL h h2 (at_lastM default hk)
theorem ev_ixTl (h : Ev ta ρ (.tuple (xs.map f)) ρ1) (h2 : Ev tb ρ1 (.int (-1)) ρ2) (hk : xs ≠ []) : Ev (tOp (rIx K) ta tb) ρ (f (xs.getLastD default)) ρ2 := ev_ixT h h2 (at_lastM default hk)
theorem ev_ixOn {i : Nat} (h2 : Ev tb ρ (.int (k : Nat)) ρ2) (ho : ρ2[i]? = some (.own (xs.map f))) (hk : k < xs.length) : Ev (tOp (rIx K) (tVar i) tb) ρ (f (xs.getD k default)) ρ2 := ev_ixO h2 ho (at_nat default hk)
end
def rngN (n : Nat) : List PyData := (List.range n).map fun i => .int (i : Nat)
theorem rngN_eq (n : Nat) : rngD 0 n = rngN n := by
  unfold rngD rngN
  congr 1
  funext i
  rw [Int.zero_add]
theorem ei_rangeN {ρ ρ1 : Rho} {tA : TA} {n : Nat} (h : EvA tA ρ [.int (n : Nat)] ρ1) (hn : n < 2 ^ 62) : EvI (iRng1 tA) ρ ((List.range n).map fun i => PyData.int (i : Nat)) ρ1 := by
  have := ei_range1 h ⟨by omega, by omega⟩
  rw [rngN_eq] at this
  exact this
end EV
namespace EV
open PySem PySem.Spec PyProof.Rows L2 RZ
variable [KS]
section
variable {pr : List Nat} {ρ : Rho} {t : TE} {tA : TA} {d : PyData} {ds es : List PyData} {i : Nat}
/-- arguments of what is handed back: lists of one's own are let go -/
def EvY (pr : List Nat) (t : TA) (ρ : Rho) (ds : List PyData) : Prop := ∀ (F : AP) (σ0 : L2.St) (H0 : Hp) (O0 : AP) (σ : L2.St) (H : Hp) (Q : List V → Hp → Prop), EnvS pr F σ0 H0 O0 σ H ρ →
    (∀ vs H', Stp (Oof σ ρ) H H' → Env F H' σ ρ → RpL (fun a => F a ∨ OP pr σ0 a) H' vs ds → Q vs H') → t σ H Q
theorem ey_nil : EvY pr tNil ρ [] := fun F σ0 H0 O0 σ H Q E q => q _ H .refl E.env .nil
theorem op_oof {F : AP} {σ0 : L2.St} {H0 : Hp} {O0 : AP} {σ : L2.St} {H : Hp} (E : EnvS pr F σ0 H0 O0 σ H ρ) : ∀ a, OP pr σ0 a → Oof σ ρ a := fun a ⟨i, hi, hz⟩ => ⟨i, (E.prot i hi).2, by rw [(E.prot i hi).1]; exact hz⟩
theorem ey_cons (h : Ev t ρ d ρ) (h2 : EvY pr tA ρ ds) : EvY pr (tCons t tA) ρ (d :: ds) := fun F σ0 H0 O0 σ H Q E q => h.2 F σ H _ E.env fun v H1 s1 E1 r1 => h2 F σ0 H0 O0 σ H1 _ (E.step s1 E1 (SameOwn.refl _)) fun vs H2 s2 E2 r2 =>
  q _ H2 (s1.trans s2) E2 (.cons ((r1.stp s2 oof_bof).to fun a o q n => ⟨q, fun z => n (z.elim .inl fun z => .inr (op_oof E a z))⟩) r2)
theorem ey_own (ho : ρ[i]? = some (.own es)) (hp : i ∉ pr) (h2 : EvY pr tA ρ ds) : EvY pr (tCons (tVar i) tA) ρ (.list es :: ds) := fun F σ0 H0 O0 σ H Q E q => by
  obtain ⟨a, vs, e, n, hH, r⟩ := E.env.own i es ho
  refine ⟨_, e, h2 F σ0 H0 O0 σ H _ E fun ws H2 s2 E2 r2 => q _ H2 s2 E2 (.cons ?_ r2)⟩
  obtain ⟨a', vs', e', n', hH', r'⟩ := E2.own i es ho
  rw [e] at e'
  cases e'
  refine .lst hH' ?_ (r'.to fun a o q n => ⟨q, fun z => n (z.elim .inl fun z => .inr (op_oof E a z))⟩)
  rintro (z | ⟨k, hk, hz⟩)
  · exact n z
  · have := E.env.sep i k a ⟨own_get.mpr ⟨_, ho⟩, e⟩ ⟨(E.prot k hk).2, by rw [(E.prot k hk).1]; exact hz⟩
    subst this
    exact hp hk
theorem sv_retT (h : EvY pr tA ρ ds) (hz : ds.length ≤ sizeLine) : Sv pr (tRet (tTup tA)) ρ (.ret (.tuple ds) ρ) := fun F σ0 H0 O0 σ H D E q => h F σ0 H0 O0 σ H _ E fun vs H' s E' r => by
  refine ⟨by rw [r.length]; exact hz, fun p np => q _ σ _ (E.step (s.trans (.same (same_upd np))) (E'.same (same_upd np)) (SameOwn.refl _)) (.tup upd_same ?_ (r.to fun b o q n => ⟨same_upd np b o q, n⟩))⟩
  rintro (z | z)
  · exact E'.fr p z np
  · exact E'.bH (.inr (op_oof E p z)) np
end
end EV
namespace EV
open PySem PySem.Spec PyProof.Rows L2 RZ
variable [KS]
theorem sv_setLn {pr : List Nat} {t tk : TE} {ρ ρ1 ρ2 : Rho} {d : PyData} {ds : List PyData} {i k : Nat} (h : Ev t ρ d ρ1) (hk : Ev tk ρ1 (.int (k : Nat)) ρ2) (ho : ρ2[i]? = some (.own ds)) (hl : k < ds.length) : Sv pr (tAsg t (gSub (tVar i) tk rSetL)) ρ (.next (ρ2.set i (.own (ds.set k d)))) :=
  sv_setL h hk ho (by
    unfold ixN
    rw [if_pos (by omega), if_pos (by omega), Int.toNat_natCast])
end EV
namespace EV
open PySem PySem.Spec PyProof.Rows L2 RZ
variable [KS]
theorem ev_lenM {ρ ρ1 : Rho} {ta : TE} {K : PySem.W.Frag} {α : Type} {xs : List α} {f : α → PyData} {tp : Bool} (h : EvR ta ρ tp (xs.map f) ρ1) : Ev (tCB (fun xs H Q => ∃ p ys, xs = [.ref p] ∧ (SqL K H p ys ∨ SqT K H p ys) ∧ Q (.int ys.length) H) (tCons ta tNil)) ρ (.int (xs.length : Nat)) ρ1 := by
  have := ev_len (K := K) h
  rwa [List.length_map] at this
theorem ev_addN {ρ ρ1 ρ2 : Rho} {ta tb : TE} {K : PySem.W.Frag} {i j : Nat} (h : Ev ta ρ (.int (i : Nat)) ρ1) (h2 : Ev tb ρ1 (.int (j : Nat)) ρ2) : Ev (tOp (rAddU K) ta tb) ρ (.int ((i + j : Nat) : Int)) ρ2 := by
  rw [Int.natCast_add]
  exact ev_add h h2
theorem sv_setLi {pr : List Nat} {t tk : TE} {ρ ρ1 ρ2 : Rho} {d : PyData} {ds : List PyData} {i : Nat} {k : Int} (h : Ev t ρ d ρ1) (hk : Ev tk ρ1 (.int k) ρ2) (ho : ρ2[i]? = some (.own ds)) (hl : 0 ≤ k ∧ k < ds.length) : Sv pr (tAsg t (gSub (tVar i) tk rSetL)) ρ (.next (ρ2.set i (.own (ds.set k.toNat d)))) :=
  sv_setL h hk ho (by
    unfold ixN
    rw [if_pos hl.1, if_pos hl.2])
end EV

end
section
set_option Elab.async false
set_option linter.all false
set_option maxRecDepth 100000
set_option maxHeartbeats 400000
/-! a def that hands back a new list -/
namespace EV
open PySem PySem.Spec PyProof.Rows L2 RZ
variable [KS]
def spF (Pr : List PyData → List PyData → Prop) : Sp := fun vs H Q _ => ∃ B ds xs, (∀ a, B a → H a ≠ none) ∧ RpL B H vs ds ∧ Pr ds xs ∧
  ∀ a ws H', H a = none → Same H H' → H' a = some (.lst ws) → RpL (fun b => B b ∨ b = a) H' ws xs → Q (.ref a) H'
section
variable {F : AP} {σ : L2.St} {H H1 : Hp} {ρ ρ1 : Rho} {ds xs : List PyData} {a : Addr} {E : XK} {tA : TA} {Pr : List PyData → List PyData → Prop}
theorem Env.hideS (E : Env F H σ ρ) (h : H a = none) (sm : Same H H1) (h1 : H1 a ≠ none) : Env (fun b => F b ∨ b = a) H1 σ ρ where
  len := E.len
  fr := fun b hb z => by
    rcases hb with hb | hb
    · cases e : H b with
      | none => exact E.fr b hb e
      | some o =>
        rw [sm b o e] at z
        cases z
    · rw [hb] at z
      exact h1 z
  dat := fun i d hd => by
    obtain ⟨v, e, r⟩ := E.dat i d hd
    refine ⟨v, e, r.to fun b o q n => ⟨sm b o q, ?_⟩⟩
    rintro ((z | z) | z)
    · exact n (.inl z)
    · subst z
      rw [h] at q
      cases q
    · exact n (.inr z)
  own := fun i d hd => by
    obtain ⟨b, vs, e, n, q, r⟩ := E.own i d hd
    refine ⟨b, vs, e, ?_, sm b _ q, r.to fun b o q n => ⟨sm b o q, ?_⟩⟩
    · rintro (z | z)
      · exact n z
      · subst z
        rw [h] at q
        cases q
    · rintro ((z | z) | z)
      · exact n (.inl z)
      · subst z
        rw [h] at q
        cases q
      · exact n (.inr z)
  sep := E.sep
theorem ef_call (h : EvA tA ρ ds ρ1) (hp : Pr ds xs) : EvF (tCall (spF Pr) [] E tA) ρ xs ρ1 := ⟨h.1, fun F σ H Q Ev q => h.2 F σ H _ Ev fun vs H' s E' rs => by
  rw [h.1.bof F σ] at rs
  show spF Pr (vs ++ []) H' Q E
  rw [List.append_nil]
  refine ⟨Bof F σ ρ1, ds, xs, fun a z => E'.bH z, rs, hp, fun a ws H2 na sm hH r => q a ws H2 ?_ (s.trans (.same sm)) (E'.hideS na sm (by rw [hH]; exact fun z => nomatch z)) hH (r.to fun b o q n => ⟨q, fun z => n ?_⟩)⟩
  · cases e : H a with
    | none => rfl
    | some o =>
      by_cases hO : Oof σ ρ a
      · exact absurd na (E'.bH (h.1.bof F σ ▸ Or.inr hO))
      · rw [s a o e hO] at na
        cases na
  · rcases z with (z | z) | z
    · exact .inl (.inl z)
    · exact .inr z
    · exact .inl (.inr (by rw [← h.1.oof σ]; exact z))⟩
/-- the body's end -/
def SvE (t : TS) (ρ : Rho) (xs : List PyData) : Prop := ∀ (F : AP) (σ0 : L2.St) (H0 : Hp) (σ : L2.St) (H : Hp) (D : Ends), EnvS [] F σ0 H0 (fun _ => False) σ H ρ →
  (∀ a ws H', H0 a = none → Same H0 H' → H' a = some (.lst ws) → RpL (fun b => F b ∨ b = a) H' ws xs → D.rt (.ref a) H') → t D σ H
theorem se_cons {s u : TS} (h : Sv [] s ρ (.next ρ1)) (h2 : SvE u ρ1 xs) : SvE (tSeq s u) ρ xs := fun F σ0 H0 σ H D E q => h F σ0 H0 _ σ H _ E fun σ' H' E' => h2 F σ0 H0 σ' H' D E' q
theorem se_ret {t : TE} (h : EvF t ρ xs ρ1) : SvE (tRet t) ρ xs := fun F σ0 H0 σ H D E q => h.2 F σ H _ E.env fun a vs H' na s E' hH r => by
  have h0 : ∀ b o, H0 b = some o → H b = some o := fun b o e => E.stp b o e fun z => z
  refine q a vs H' ?_ (fun b o e => s b o (h0 b o e) fun ⟨i, z⟩ => ?_) hH (r.to fun b o q n => ⟨q, fun z => n (.inl z)⟩)
  · cases e : H0 a with
    | none => rfl
    | some o =>
      rw [h0 a o e] at na
      cases na
  · rcases E.new i b z with w | w
    · exact w
    · rw [w] at e
      cases e
theorem fn_fresh {t : TS} {N : List Str} {vs : List V} {Q : VK} (hsp : spF Pr vs H Q E) (hl : ∀ ds xs, Pr ds xs → ds.length ≤ N.length)
    (h : ∀ ds xs, Pr ds xs → SvE t (ds.map .d ++ List.replicate (N.length - ds.length) .no) xs) : t { nx := fun _ H' => Q .non H', rt := Q } (L2.start N vs) H := by
  obtain ⟨B, ds, xs, fr, r, hP, q⟩ := hsp
  have E0 := env_args fr r
  have hv := r.length
  have hln := hl ds xs hP
  have sg : ∀ i, i < ds.length → (L2.start N vs)[i]? = (vs.map some)[i]? := fun i hi => by
    rw [start_get, if_pos (by omega)]
  have ex : ∀ (i : Nat) s, (ds.map Sl.d ++ List.replicate (N.length - ds.length) Sl.no)[i]? = some s → s ≠ .no → i < ds.length ∧ (ds.map Sl.d)[i]? = some s := fun i s e n => by
    by_cases hi : i < ds.length
    · rw [List.getElem?_append_left (by simpa using hi)] at e
      exact ⟨hi, e⟩
    · rw [List.getElem?_append_right (by simpa using hi), List.getElem?_replicate] at e
      split at e
      · cases e
        exact absurd rfl n
      · cases e
  have no : ∀ i a, ¬ OwnAt (L2.start N vs) (ds.map Sl.d ++ List.replicate (N.length - ds.length) Sl.no) i a := fun i a z => by
    obtain ⟨es, z1⟩ := own_get.mp z.1
    obtain ⟨_, z2⟩ := ex i _ z1 fun w => by cases w
    rw [List.getElem?_map] at z2
    cases w : ds[i]? with
    | none => rw [w] at z2; cases z2
    | some x => rw [w] at z2; cases z2
  have E1 : Env B H (L2.start N vs) (ds.map Sl.d ++ List.replicate (N.length - ds.length) Sl.no) := by
    refine ⟨?_, fr, fun i d hd => ?_, fun i d hd => ?_, fun i j a h1 h2 => absurd h1 (no i a)⟩
    · unfold L2.start
      rw [List.length_append, List.length_append, List.length_map, List.length_map, List.length_replicate, List.length_replicate, hv]
    · obtain ⟨hi, hd⟩ := ex i _ hd (fun z => by cases z)
      obtain ⟨v, e, rv⟩ := E0.dat i d hd
      rw [bof_args] at rv
      exact ⟨v, by rw [sg i hi]; exact e, rv.to fun b o q n => ⟨q, fun z => n (z.elim id fun ⟨i, z⟩ => absurd z (no i b))⟩⟩
    · obtain ⟨hi, hd⟩ := ex i _ hd (fun z => by cases z)
      rw [List.getElem?_map] at hd
      cases w : ds[i]? with
      | none => rw [w] at hd; cases hd
      | some x => rw [w] at hd; cases hd
  exact h ds xs hP B (L2.start N vs) H _ H _ ⟨E1, .refl, fun _ z => (nomatch z), fun i a z => absurd z (no i a)⟩ fun a ws H' na sm hH rw' => q a ws H' na sm hH rw'
end
def CalF (P : Program) (w : World) (K : PySem.W.Frag) (mg : Str → Option Value) (base : Heap) (k : Nat) (x : Str) (ps : List Str) (Pr : List PyData → List PyData → Prop) : Prop :=
  ∃ f fd, mg x = some (.ref f) ∧ PySem.W.keepIn K (.ref f) = true ∧ Binds K fd ps [] ∧ FnOk P w K mg base CX0 k f fd ps (spF Pr)
section
variable {P : Program} {w : World} {K : PySem.W.Frag} {mg : Str → Option Value} {base : Heap} {k : Nat} {x : Str} {st : Stmt} {N ps : List Str} {Pr : List PyData → List PyData → Prop}
theorem calFK {X : Cx} {p pos : Pos} {e : Expr} {es : List Expr} {t : TA} (C : CalF P w K mg base k x ps Pr) (hP : X.prog = P) (hw : X.w = w) (hK : X.K = K) (hm : X.mg = mg) (hb : X.base = base) (hr : Room k X.A) (hg : Gl X x) (ha : PA X (e :: es) t) (hdb : (x == ("__debug__" : Str)) = false := by decide)
    (he : starEach (e :: es) X.env = (false, eval e X.env) :: starEach es X.env := by rfl) (hpl : (backTo pos (starEach es X.env)).any (·.1) = false := by rfl) : PE X (.Call (.Name x p) (e :: es) [] pos) (tCall (spF Pr) [] E0 t) := by
  subst hP hw hK hm hb
  obtain ⟨f, fd, hm, hk, hb, F⟩ := C
  exact pe_call F hr hg hm hk hb .nil pass0 ha hdb he hpl
theorem cal_fresh (T : TopF K mg x st)
    (hb : ∀ (kV doc pm : Value) (an : Option Addr) (cdv ct : Value) (us : List Value), us.length = ps.length → bindArgs (PySem.W.fnOf x x (defArgs st) (defBody st) (defScope st) .none kV doc pm an cdv ct) ⟨us, []⟩ = pure (ps.zip us))
    (S : FnScope N ps (defScope st)) (len : ∀ ds r, Pr ds r → ds.length = ps.length)
    (h : ∀ (f : Addr) (cdv : Value) (A : Around) (outer : List PySem.Env) (s : Shared) (H : Hp) (E : XK), Room k (A.deeper (envOfC x (defScope st) s.heap.objs.size f cdv)) → ∃ t : TS, PSs (cxOf CX0 P w K mg base N x (defScope st) f cdv A outer s H E).nox (defBody st) t ∧
      ∀ ds xs, Pr ds xs → SvE t (ds.map .d ++ List.replicate (N.length - ds.length) .no) xs) : CalF P w K mg base (k + 1) x ps Pr := by
  have hN : ps.length ≤ N.length := by
    rw [← S.pre, List.length_take]
    omega
  obtain ⟨f, fd, hm, F⟩ := T
  exact ⟨f, fd, hm, F.kp, F.binds hb, F.ok S (fun vs H Q E ⟨B, ds, xs, _, r, hP, _⟩ => by rw [r.length]; exact len ds xs hP) fun cdv A outer s H vs Q E hr hs => by
    obtain ⟨t, ht, hq⟩ := h f cdv A outer s H E hr
    exact ⟨t, ht, fn_fresh hs (fun ds r p => by rw [len ds r p]; exact hN) hq⟩⟩
end
section
variable {P : Program} {w : World} {K : PySem.W.Frag} {mg : Str → Option Value} {base : Heap} {k : Nat} {x : Str} {st : Stmt} {N ps : List Str}
/-- the law's own promise -/
theorem fn_law {Pr : List PyData → PyData → Prop} {f0 : Addr} {fd : FuncData} (F : Fun K x x st f0 fd)
    (S : FnScope N ps (defScope st)) (len : ∀ ds r, Pr ds r → ds.length = ps.length)
    (h : ∀ (f : Addr) (cdv : Value) (A : Around) (outer : List PySem.Env) (s : Shared) (H : Hp) (E : XK), Room k (A.deeper (envOfC x (defScope st) s.heap.objs.size f cdv)) → ∃ t : TS, PSs (cxOf CX0 P w K mg base N x (defScope st) f cdv A outer s H E).nox (defBody st) t ∧
      ∀ ds r, Pr ds r → ∃ ρe, Sv [] t (ds.map .d ++ List.replicate (N.length - ds.length) .no) (.ret r ρe)) : FnOk P w K mg base CX0 (k + 1) f0 fd ps (spG (gF Pr)) := by
  have hN : ps.length ≤ N.length := by
    rw [← S.pre, List.length_take]
    omega
  exact F.ok S (fun vs H Q E q => spG_len q fun ρ r ρ' ⟨ds, e, p, _⟩ => by rw [e, List.length_map]; exact len ds r p) fun cdv A outer s H vs Q E hr hs => by
    obtain ⟨t, ht, hq⟩ := h f0 cdv A outer s H E hr
    exact ⟨t, ht, fn_pure hs (fun ds r p => by rw [len ds r p]; exact hN) hq⟩
end
theorem rpl_ints {B : AP} {H : Hp} : ∀ ns : List Int, RpL B H (ns.map V.int) (ns.map PyData.int)
  | [] => .nil
  | n :: ns => .cons (.int n) (rpl_ints ns)
theorem rp_script {H : Hp} {a : Addr} {ns : List Int} (hO : Only H) (hS : SqL KS.K H a (ns.map V.int)) : Rp (fun _ => False) H (.ref a) (.dict [(.list (ns.map .int), .none)]) := by
  rcases hS with (h | ⟨o, h⟩) | h
  · rcases hO a with z | ⟨o, xs, z⟩
    · rw [z] at h; cases h
    · rw [z] at h; cases h
  · exact .scr h (fun z => z) (rpl_ints ns)
  · exact .scrK h (rpl_ints ns)
theorem sp_script {Pr : List PyData → PyData → Prop} {H : Hp} {a : Addr} {ns : List Int} {E : XK} (hO : Only H) (hS : SqL KS.K H a (ns.map V.int)) (hP : Pr [.dict [(.list (ns.map .int), .none)]] (.bool true)) :
    spG (gF Pr) [.ref a] H (fun v _ => v = .bl true) E := by
  refine ⟨fun _ => False, _, .bool true, _, env_args (fun a z => z.elim) (.cons (rp_script hO hS) .nil), ⟨_, rfl, hP, rfl⟩, fun v H' _ _ r => ?_⟩
  cases r
  rfl
end EV

end
section
set_option Elab.async false
set_option linter.all false
set_option maxRecDepth 100000
set_option maxHeartbeats 400000
namespace FR
open PySem PySem.Spec PyProof.Rows L2 RZ EV
def dF (q : Rat) : PyData := .tuple [.int q.num, .int (q.den : Int)]
theorem gcd_dvd_parts (n : Int) (d : Nat) (hd : d ≠ 0) : (mkRat n d).num = n / ((Int.gcd n d : Nat) : Int) ∧ (((mkRat n d).den : Nat) : Int) = (d : Int) / ((Int.gcd n d : Nat) : Int) := by
  rw [Rat.num_mkRat, Rat.den_mkRat, if_neg hd, if_neg hd, Nat.gcd_comm]
  refine ⟨rfl, ?_⟩
  rw [Int.natCast_ediv]
  rfl
theorem dF_mk (n : Int) (d : Nat) (hd : d ≠ 0) : dF (mkRat n d) = .tuple [.int (n / ((Int.gcd n d : Nat) : Int)), .int ((d : Int) / ((Int.gcd n d : Nat) : Int))] := by
  unfold dF
  rw [(gcd_dvd_parts n d hd).1, (gcd_dvd_parts n d hd).2]
theorem gcd_pos (n : Int) {d : Int} (hd : 0 < d) : 0 < ((Int.gcd n d : Nat) : Int) := by
  have := Int.gcd_pos_of_ne_zero_right n (Int.ne_of_gt hd)
  omega
theorem gcd_le (n : Int) {d : Int} (hd : 0 < d) : Int.gcd n d ≤ d.natAbs := Nat.le_of_dvd (by omega) (Int.gcd_dvd_natAbs_right n d)
/-- the least common denominator -/
def lcmL (qs : List Rat) : Nat := qs.foldl (fun u q => Nat.lcm u q.den) 1
theorem lcm_step (u d : Nat) (hd : d ≠ 0) : Nat.lcm u d = u * (mkRat (u : Int) d).den := by
  rw [Rat.den_mkRat, if_neg hd, Nat.lcm, Int.natAbs_natCast, Nat.gcd_comm d u, Nat.mul_div_assoc _ (Nat.gcd_dvd_right u d)]
theorem foldl_lcm {M : Nat} : ∀ {qs : List Rat} {u : Nat}, (∀ q ∈ qs, q.den ∣ M) → u ∣ M → 0 < u → (qs.foldl (fun u q => Nat.lcm u q.den) u) ∣ M ∧ 0 < qs.foldl (fun u q => Nat.lcm u q.den) u ∧ u ∣ qs.foldl (fun u q => Nat.lcm u q.den) u ∧ ∀ q ∈ qs, q.den ∣ qs.foldl (fun u q => Nat.lcm u q.den) u
  | [], u, _, hu, h0 => ⟨hu, h0, Nat.dvd_refl u, fun q hq => by cases hq⟩
  | p :: qs, u, h, hu, h0 => by
    obtain ⟨h1, h2, h3, h4⟩ := foldl_lcm (qs := qs) (u := Nat.lcm u p.den) (fun q hq => h q (List.mem_cons_of_mem _ hq)) (Nat.lcm_dvd hu (h p List.mem_cons_self)) (Nat.lcm_pos h0 p.den_pos)
    refine ⟨h1, h2, Nat.dvd_trans (Nat.dvd_lcm_left _ _) h3, fun q hq => ?_⟩
    rcases List.mem_cons.mp hq with e | hq
    · rw [e]
      exact Nat.dvd_trans (Nat.dvd_lcm_right _ _) h3
    · exact h4 q hq
theorem lcmL_dvd {M : Nat} {qs : List Rat} (h : ∀ q ∈ qs, q.den ∣ M) : lcmL qs ∣ M := (foldl_lcm h (Nat.one_dvd M) Nat.one_pos).1
theorem lcmL_pos (qs : List Rat) : 0 < lcmL qs := (foldl_lcm (M := 0) (fun q _ => Nat.dvd_zero _) (Nat.dvd_zero _) Nat.one_pos).2.1
theorem dvd_lcmL {qs : List Rat} {q : Rat} (h : q ∈ qs) : q.den ∣ lcmL qs := (foldl_lcm (M := 0) (fun q _ => Nat.dvd_zero _) (Nat.dvd_zero _) Nat.one_pos).2.2.2 q h
end FR
namespace FR
open PySem PySem.Spec PyProof.Rows L2 RZ EV
structure WC where
  g : List Int
  ri : Int
  lt : Int
  un : Int
structure Col where
  g : List Rat
  ri : Rat
  lt : Rat
def dR (r : List Int) : PyData := .list (r.map .int)
def dT (T : List (List Int)) : PyData := .list (T.map dR)
def dWC (c : WC) : PyData := .tuple [dR c.g, .int c.ri, .int c.lt, .int c.un]
def dCol (c : Col) : PyData := .tuple [.tuple (c.g.map dF), dF c.ri, dF c.lt]
def Col.all (c : Col) : List Rat := c.g ++ [c.ri, c.lt]
def Col.un (c : Col) : Nat := lcmL c.all
def whole (u : Nat) (q : Rat) : Int := q.num * ((u : Int) / (q.den : Int))
def Col.wc (c : Col) : WC := ⟨c.g.map (whole c.un), whole c.un c.ri, whole c.un c.lt, c.un⟩
/-- what is asked of some fractions: not too great, over a common denominator -/
structure Fit (qs : List Rat) (M : Nat) (B : Nat) : Prop where
  dv : ∀ q ∈ qs, q.den ∣ M
  pos : 0 < M
  lt : M < 2 ^ B
  num : ∀ q ∈ qs, q.num.natAbs < 2 ^ B
theorem Fit.den {qs : List Rat} {M B : Nat} (h : Fit qs M B) {q : Rat} (hq : q ∈ qs) : q.den < 2 ^ B := Nat.lt_of_le_of_lt (Nat.le_of_dvd h.pos (h.dv q hq)) h.lt
theorem Fit.lcm {qs : List Rat} {M B : Nat} (h : Fit qs M B) : lcmL qs < 2 ^ B := Nat.lt_of_le_of_lt (Nat.le_of_dvd h.pos (lcmL_dvd h.dv)) h.lt
theorem div_lt {u d B : Nat} (h : u < 2 ^ B) : ((u : Int) / (d : Int)).natAbs < 2 ^ B := by
  rw [← Int.natCast_ediv, Int.natAbs_natCast]
  exact Nat.lt_of_le_of_lt (Nat.div_le_self u d) h
theorem whole_lt {u B C : Nat} {q : Rat} (hq : q.num.natAbs < 2 ^ C) (hu : u < 2 ^ B) : (whole u q).natAbs < 2 ^ (C + B) := mul_lt hq (div_lt hu)
end FR

end
section
set_option Elab.async false
set_option linter.all false
set_option maxRecDepth 100000
set_option maxHeartbeats 400000
namespace FR
open PySem PySem.Spec PyProof.Rows L2 RZ EV
abbrev Tab := List (List Int)
def ent (T : Tab) (i j : Nat) : Int := (T.getD i []).getD j 0
def idl (many i : Nat) : List Int := (List.range (many - 1)).map fun (j : Nat) => if (1 + (j : Int)) = 1 + (i : Int) then 1 else 0
def row1 (cs : List WC) (many i : Nat) : List Int := (cs.map fun c => c.g.getD 0 0 - c.g.getD (1 + i) 0) ++ ([-1] ++ idl many i) ++ [0, 0]
def zs (n : Nat) : List Int := (List.replicate n [(0 : Int)]).flatten
def row2 (cs : List WC) (many : Nat) : List Int := (cs.map fun c => c.ri) ++ zs many ++ [1, 1]
def row3 (cs : List WC) (many : Nat) : List Int := (cs.map fun c => c.lt - c.g.getD 0 0) ++ [1] ++ zs many ++ [0]
def firstT (cs : List WC) (many : Nat) : Tab := (List.range (many - 1)).map (row1 cs many) ++ [row2 cs many] ++ [row3 cs many]
theorem foldl_app {α β : Type} {g : α → β} : ∀ {xs : List α} {acc : List β}, xs.foldl (fun acc x => acc ++ [g x]) acc = acc ++ xs.map g
  | [], acc => by simp
  | x :: xs, acc => by
    rw [List.foldl_cons, foldl_app]
    simp
theorem ite_int {p : Prop} [Decidable p] {x y : Int} : (if decide p = true then PyData.int x else PyData.int y) = .int (if p then x else y) := by
  by_cases h : p <;> simp [h]
theorem zs_length (n : Nat) : (zs n).length = n := by
  unfold zs
  induction n with
  | zero => rfl
  | succ n ih => rw [List.replicate_succ, List.flatten_cons, List.length_append, ih]; simp; omega
theorem zs_map (n : Nat) : (zs n).map PyData.int = (List.replicate n [PyData.int 0]).flatten := by
  unfold zs
  induction n with
  | zero => rfl
  | succ n ih => rw [List.replicate_succ, List.flatten_cons, List.map_append, ih, List.replicate_succ, List.flatten_cons]; rfl
/-- the first place that gains -/
def enterP (T : Tab) : Option Nat := ((T.getLastD []).dropLast.zipIdx.find? fun p => decide (p.1 < 0)).map (·.2)
/-- whether the row i, of base b, goes ahead of the best so far -/
def worse (T : Tab) (bs : List Int) (p : Nat) (i k : Nat) : Bool :=
  decide ((T.getD k []).getLastD 0 * ent T i p < (T.getD i []).getLastD 0 * ent T k p) || (decide ((T.getD i []).getLastD 0 * ent T k p = (T.getD k []).getLastD 0 * ent T i p) && decide (bs.getD k 0 < bs.getD i 0))
def leaveS (T : Tab) (bs : List Int) (p : Nat) (best : Option Nat) (i : Nat) : Option Nat :=
  if ent T i p ≤ 0 then best else match best with
    | none => some i
    | some k => if worse T bs p i k = true then some k else some i
def leaveP (T : Tab) (bs : List Int) (p : Nat) : Option Nat := (List.range bs.length).foldl (leaveS T bs p) none
def turnRow (T : Tab) (u : Int) (r p : Nat) (l : List Int) : List Int := (l.zip (T.getD r [])).map fun q => (q.1 * ent T r p - l.getD p 0 * q.2) / u
def turnL (T : Tab) (u : Int) (r p i : Nat) : List Int := if i = r then T.getD i default else turnRow T u r p (T.getD i default)
def turnT (T : Tab) (u : Int) (r p : Nat) : Tab := (List.range T.length).map (turnL T u r p)
end FR
namespace FR
open PySem PySem.Spec PyProof.Rows L2 RZ EV
/-- a table of so many rows and columns, its entries below 2 ^ 800 -/
structure GT (T : Tab) (m w : Nat) : Prop where
  rows : T.length = m
  cols : ∀ r ∈ T, r.length = w
  ms : m ≤ 100
  ws : w ≤ 1000
  wp : 0 < w
  mp : 0 < m
  lt : ∀ r ∈ T, ∀ x ∈ r, x.natAbs < 2 ^ 800
theorem GT.row {T : Tab} {m w : Nat} (h : GT T m w) {i : Nat} (hi : i < m) : T.getD i default ∈ T := by
  rw [← h.rows] at hi
  rw [List.getD_eq_getElem?_getD, List.getElem?_eq_getElem hi]
  exact List.getElem_mem hi
theorem GT.len {T : Tab} {m w : Nat} (h : GT T m w) {i : Nat} (hi : i < m) : (T.getD i default).length = w := h.cols _ (h.row hi)
theorem GT.ne {T : Tab} {m w : Nat} (h : GT T m w) {i : Nat} (hi : i < m) : T.getD i default ≠ [] := fun e => by
  have := h.len hi
  rw [e] at this
  have := h.wp
  simp at *
  omega
theorem getD_mem {α : Type} {l : List α} {j : Nat} {z : α} (h : j < l.length) : l.getD j z ∈ l := by
  rw [List.getD_eq_getElem?_getD, List.getElem?_eq_getElem h]
  exact List.getElem_mem _
theorem GT.ent {T : Tab} {m w : Nat} (h : GT T m w) {i j : Nat} (hi : i < m) (hj : j < w) : (ent T i j).natAbs < 2 ^ 800 := by
  refine h.lt _ (h.row hi) _ ?_
  unfold FR.ent
  exact getD_mem (l := T.getD i default) (by rw [h.len hi]; exact hj)
theorem GT.last {T : Tab} {m w : Nat} (h : GT T m w) {i : Nat} (hi : i < m) : ((T.getD i default).getLastD default).natAbs < 2 ^ 800 := by
  refine h.lt _ (h.row hi) _ ?_
  rw [List.getLastD_eq_getLast?, List.getLast?_eq_getLast (h.ne hi)]
  exact List.getLast_mem _
def lvK (T : Tab) (bs : List Int) (p k : Nat) : Option Nat := (List.range k).foldl (leaveS T bs p) none
theorem lvK_succ (T : Tab) (bs : List Int) (p k : Nat) : lvK T bs p (k + 1) = leaveS T bs p (lvK T bs p k) k := by
  unfold lvK
  rw [List.range_succ, List.foldl_append]
  rfl
theorem lvK_lt {T : Tab} {bs : List Int} {p : Nat} : ∀ {k j : Nat}, lvK T bs p k = some j → j < k
  | 0, j, h => by cases h
  | k + 1, j, h => by
    rw [lvK_succ] at h
    unfold leaveS at h
    by_cases h1 : ent T k p ≤ 0
    · rw [if_pos h1] at h
      have := lvK_lt h
      omega
    · rw [if_neg h1] at h
      cases e : lvK T bs p k with
      | none =>
        rw [e] at h
        cases h
        omega
      | some i =>
        rw [e] at h
        have := lvK_lt e
        by_cases h2 : worse T bs p k i = true
        · simp only [h2, if_true] at h
          cases h
          omega
        · simp only [h2] at h
          cases h
          omega
end FR
namespace FR
open PySem PySem.Spec PyProof.Rows L2 RZ EV
/-- what is asked of a table between two turns -/
structure Good (w m : Nat) (T : Tab) (u : Int) (bs : List Int) : Prop where
  gt : GT T m w
  len : bs.length + 1 = m
  pos : 0 < u
  lt : u.natAbs < 2 ^ 800
inductive Run (w m : Nat) : Tab → Int → List Int → Tab → Int → List Int → Option Nat → Nat → Prop
  | done {T : Tab} {u : Int} {bs : List Int} : Good w m T u bs → enterP T = none → Run w m T u bs T u bs none 0
  | lost {T : Tab} {u : Int} {bs : List Int} {p : Nat} : Good w m T u bs → enterP T = some p → p < w → leaveP T bs p = none → Run w m T u bs T u bs (some p) 1
  | turn {T T' : Tab} {u u' : Int} {bs bs' : List Int} {p r : Nat} {q : Option Nat} {n : Nat} : Good w m T u bs → enterP T = some p → p < w → leaveP T bs p = some r →
      Run w m (turnT T u r p) (ent T r p) (bs.set r (p : Int)) T' u' bs' q n → Run w m T u bs T' u' bs' q (n + 1)
theorem leaveP_lt {T : Tab} {bs : List Int} {p r : Nat} (h : leaveP T bs p = some r) : r < bs.length := lvK_lt h
theorem Run.good {w m : Nat} {T T' : Tab} {u u' : Int} {bs bs' : List Int} {q : Option Nat} {n : Nat} (h : Run w m T u bs T' u' bs' q n) : Good w m T u bs := by
  cases h <;> assumption
theorem wh_run {w m : Nat} {tst : Rho → Bool → Rho → Prop} {body : Rho → Out → Prop} {R : Tab → Int → List Int → Option Nat → Rho} {D : Tab → Int → List Int → Nat → PyData}
    (h0 : ∀ T u bs, tst (R T u bs none) false (R T u bs none)) (h1 : ∀ T u bs p, tst (R T u bs (some p)) true (R T u bs (some p)))
    (hL : ∀ T u bs p, Good w m T u bs → p < w → leaveP T bs p = none → ∃ ρe, body (R T u bs (some p)) (.ret (D T u bs p) ρe))
    (hT : ∀ T u bs p r, Good w m T u bs → p < w → leaveP T bs p = some r → Good w m (turnT T u r p) (ent T r p) (bs.set r (p : Int)) → body (R T u bs (some p)) (.next (R (turnT T u r p) (ent T r p) (bs.set r (p : Int)) (enterP (turnT T u r p))))) :
    ∀ {T T' : Tab} {u u' : Int} {bs bs' : List Int} {q : Option Nat} {n : Nat}, Run w m T u bs T' u' bs' q n →
      (q = none → Wh tst body n (R T u bs (enterP T)) (.next (R T' u' bs' none))) ∧ ∀ p, q = some p → ∃ ρe, Wh tst body n (R T u bs (enterP T)) (.ret (D T' u' bs' p) ρe) := by
  intro T T' u u' bs bs' q n h
  induction h with
  | done g e =>
    rw [e]
    exact ⟨fun _ => .stop (h0 _ _ _), fun p hp => by cases hp⟩
  | lost g e hp hl =>
    rw [e]
    refine ⟨fun h => (by cases h), fun p hp' => ?_⟩
    cases hp'
    obtain ⟨ρe, b⟩ := hL _ _ _ _ g hp hl
    exact ⟨ρe, .rt (h1 _ _ _ _) b⟩
  | turn g e hp hl hr ih =>
    rw [e]
    have b := hT _ _ _ _ _ g hp hl hr.good
    refine ⟨fun hq => .nx (h1 _ _ _ _) b (ih.1 hq), fun p hq => ?_⟩
    obtain ⟨ρe, z⟩ := ih.2 p hq
    exact ⟨ρe, .nx (h1 _ _ _ _) b z⟩
def bases0 (n many : Nat) : List Int := (List.range many).map fun (i : Nat) => (n : Int) + (1 + (i : Int))
def dRes (T : Tab) (u : Int) (bs : List Int) (q : Option Nat) : PyData := .tuple [dT T, .int u, .list (bs.map .int), optD q]
end FR
namespace FR
open PySem PySem.Spec PyProof.Rows L2 RZ EV
def lastE (T : Tab) (i : Nat) : Int := (T.getD i default).getLastD default
def unAt (cs : List WC) (b : Int) : Int := (cs.getD b.toNat ⟨[], 0, 0, 0⟩).un
instance : Inhabited WC := ⟨⟨[], 0, 0, 0⟩⟩
def ldStep (n : Nat) (bs : List Int) (x : Nat → Rat) (l : List Rat) (i : Nat) : List Rat := if bs.getD i default < (n : Int) then l.set (bs.getD i default).toNat (x i) else l
def ldK (n : Nat) (bs : List Int) (x : Nat → Rat) (l0 : List Rat) (k : Nat) : List Rat := (List.range k).foldl (ldStep n bs x) l0
theorem ldK_succ (n : Nat) (bs : List Int) (x : Nat → Rat) (l0 : List Rat) (k : Nat) : ldK n bs x l0 (k + 1) = ldStep n bs x (ldK n bs x l0 k) k := by
  unfold ldK
  rw [List.range_succ, List.foldl_append]
  rfl
theorem ldK_length {n : Nat} {bs : List Int} {x : Nat → Rat} {l0 : List Rat} : ∀ k, (ldK n bs x l0 k).length = l0.length
  | 0 => rfl
  | k + 1 => by
    rw [ldK_succ]
    unfold ldStep
    split
    · rw [List.length_set, ldK_length k]
    · exact ldK_length k
def keptX (cs : List WC) (T : Tab) (u : Int) (bs : List Int) (i : Nat) : Rat := mkRat (lastE T i * unAt cs (bs.getD i default)) u.toNat
def lostX (cs : List WC) (T : Tab) (gain : Int) (bs : List Int) (p i : Nat) : Rat := mkRat ((0 - ent T i p) * unAt cs (bs.getD i default)) gain.toNat
def priceK (T : Tab) (u : Int) : Rat := mkRat ((T.getLastD default).getLastD default) u.toNat
def sharesK (cs : List WC) (many : Nat) (T : Tab) (u : Int) : List Rat := (List.range many).map fun r => mkRat ((T.getLastD default).getD (cs.length + r) default) u.toNat
def loadsK (cs : List WC) (T : Tab) (u : Int) (bs : List Int) : List Rat := if 0 < (priceK T u).num then ldK cs.length bs (keptX cs T u bs) (cs.map fun _ => 0) bs.length else cs.map fun _ => 0
def dKept (c : Rat) (shares loads : List Rat) : PyData := .tuple [.str "kept", dF c, .tuple (shares.map dF), .tuple (loads.map dF)]
def gainL (T : Tab) (p : Nat) : Int := 0 - (T.getLastD default).getD p default
def loadsL (cs : List WC) (T : Tab) (u : Int) (bs : List Int) (p : Nat) : List Rat :=
  ldK cs.length bs (lostX cs T (gainL T p) bs p) (if p < cs.length then (cs.map fun _ => (0 : Rat)).set p (mkRat (u * (cs.getD p default).un) (gainL T p).toNat) else cs.map fun _ => 0) bs.length
def dLost (loads : List Rat) : PyData := .tuple [.str "lost", .none, .none, .tuple (loads.map dF)]
end FR
namespace FR
open PySem PySem.Spec PyProof.Rows L2 RZ EV
instance : Inhabited Col := ⟨⟨[], 0, 0⟩⟩
/-- what is asked of the last table -/
structure Fin5 (w m many : Nat) (cs : List WC) (T : Tab) (u : Int) (bs : List Int) (q : Option Nat) : Prop where
  good : Good w m T u bs
  wide : cs.length + many < w
  nn : ∀ b ∈ bs, 0 ≤ b
  un : ∀ c ∈ cs, c.un.natAbs < 2 ^ 4000
  pl : ∀ p, q = some p → p < w ∧ 0 < gainL T p
def dBest (cs : List WC) (many : Nat) (T : Tab) (u : Int) (bs : List Int) : Option Nat → PyData
  | none => dKept (priceK T u) (sharesK cs many T u) (loadsK cs T u bs)
  | some p => dLost (loadsL cs T u bs p)
end FR

end
section
set_option Elab.async false
set_option linter.all false
set_option maxHeartbeats 400000
/-! sums and determinants of whole numbers, core Lean -/
namespace DM
def S : Nat → (Nat → Int) → Int
  | 0, _ => 0
  | n + 1, f => S n f + f n
theorem S_congr {n : Nat} {f g : Nat → Int} (h : ∀ k, k < n → f k = g k) : S n f = S n g := by
  induction n with
  | zero => rfl
  | succ n ih => simp only [S]; rw [ih fun k hk => h k (by omega), h n (by omega)]
theorem S_add (n : Nat) (f g : Nat → Int) : S n (fun k => f k + g k) = S n f + S n g := by
  induction n with
  | zero => rfl
  | succ n ih => simp only [S, ih]; omega
theorem S_mul (n : Nat) (c : Int) (f : Nat → Int) : S n (fun k => c * f k) = c * S n f := by
  induction n with
  | zero => simp [S]
  | succ n ih => simp only [S, ih, Int.mul_add]
theorem S_zero (n : Nat) : S n (fun _ => 0) = 0 := by
  induction n with
  | zero => rfl
  | succ n ih => simp only [S, ih]; rfl
theorem S_neg (n : Nat) (f : Nat → Int) : S n (fun k => - f k) = - S n f := by
  induction n with
  | zero => rfl
  | succ n ih => simp only [S, ih]; omega
theorem S_one {n r : Nat} (hr : r < n) (f : Nat → Int) (h : ∀ k, k < n → k ≠ r → f k = 0) : S n f = f r := by
  induction n with
  | zero => omega
  | succ n ih =>
    simp only [S]
    by_cases e : r = n
    · subst e
      rw [S_congr (g := fun _ => 0) fun k hk => h k (by omega) (by omega), S_zero]
      omega
    · rw [ih (by omega) fun k hk hn => h k (by omega) hn, h n (by omega) (by omega)]
      omega
theorem S_two {n i : Nat} (hi : i + 1 < n) (f : Nat → Int) (h : ∀ k, k < n → k ≠ i → k ≠ i + 1 → f k = 0) : S n f = f i + f (i + 1) := by
  induction n with
  | zero => omega
  | succ n ih =>
    simp only [S]
    by_cases e : i + 1 = n
    · subst e
      rw [S_one (r := i) (by omega) f fun k hk hn => h k (by omega) hn (by omega)]
    · rw [ih (by omega) fun k hk h1 h2 => h k (by omega) h1 h2, h n (by omega) (by omega) (by omega)]
      omega
theorem S_comm (n m : Nat) (f : Nat → Nat → Int) : S n (fun i => S m (fun j => f i j)) = S m (fun j => S n (fun i => f i j)) := by
  induction n with
  | zero => simp only [S]; rw [S_zero]
  | succ n ih => simp only [S, ih]; rw [← S_add]
theorem S_nonneg {n : Nat} {f : Nat → Int} (h : ∀ k, k < n → 0 ≤ f k) : 0 ≤ S n f := by
  induction n with
  | zero => exact Int.le_refl 0
  | succ n ih =>
    simp only [S]
    have := ih fun k hk => h k (by omega)
    have := h n (by omega)
    omega
theorem S_pos {n : Nat} {f : Nat → Int} (h : 0 < S n f) : ∃ k, k < n ∧ 0 < f k := by
  induction n with
  | zero => simp [S] at h
  | succ n ih =>
    simp only [S] at h
    by_cases e : 0 < f n
    · exact ⟨n, by omega, e⟩
    · obtain ⟨k, hk, h2⟩ := ih (by omega)
      exact ⟨k, by omega, h2⟩
theorem S_abs {n : Nat} {f : Nat → Int} {B : Nat} (h : ∀ k, k < n → (f k).natAbs ≤ B) : (S n f).natAbs ≤ n * B := by
  induction n with
  | zero => simp [S]
  | succ n ih =>
    simp only [S]
    have h1 := ih fun k hk => h k (by omega)
    have h2 := h n (by omega)
    have h3 := Int.natAbs_add_le (S n f) (f n)
    rw [Nat.add_mul, Nat.one_mul]
    omega

def skip (k i : Nat) : Nat := if i < k then i else i + 1
def sg (k : Nat) : Int := if k % 2 = 0 then 1 else -1
abbrev Mx := Nat → Nat → Int
def cut (v : Mx) (k : Nat) : Mx := fun i j => v (skip k i) (j + 1)
def det : Nat → Mx → Int
  | 0, _ => 1
  | n + 1, v => S (n + 1) fun k => sg k * v k 0 * det n (cut v k)
def up (v : Mx) (i : Nat) (x : Nat → Int) : Mx := fun a => if a = i then x else v a
theorem det_congr : ∀ {n : Nat} {v w : Mx}, (∀ i, i < n → ∀ j, j < n → v i j = w i j) → det n v = det n w
  | 0, _, _, _ => rfl
  | n + 1, v, w, h => by
    unfold det
    refine S_congr fun k hk => ?_
    rw [h k hk 0 (by omega), det_congr (v := cut v k) (w := cut w k) fun i hi j hj => ?_]
    unfold cut
    refine h _ ?_ _ (by omega)
    unfold skip
    split <;> omega
theorem cut_up_self (v : Mx) (k : Nat) (x : Nat → Int) : cut (up v k x) k = cut v k := by
  funext i j
  unfold cut up
  rw [if_neg]
  unfold skip
  split <;> omega
def pos (k i : Nat) : Nat := if i < k then i else i - 1
theorem cut_up_ne {v : Mx} {k i : Nat} (x : Nat → Int) (h : i ≠ k) : cut (up v i x) k = up (cut v k) (pos k i) (fun j => x (j + 1)) := by
  funext a j
  unfold cut up pos skip
  by_cases h1 : i < k
  · by_cases h2 : a = i
    · subst h2; simp [h1]
    · by_cases h3 : a < k
      · simp [h1, h2, h3]
      · have : ¬ (a + 1 = i) := by omega
        simp [h1, h2, h3, this]
  · by_cases h2 : a = i - 1
    · have h3 : ¬ a < k := by omega
      have h4 : a + 1 = i := by omega
      simp [h1, h2, h3, h4]
      have h5 : ¬ (i - 1 < k) := by omega
      have h6 : i - 1 + 1 = i := by omega
      simp [h5, h6]
    · by_cases h3 : a < k
      · have h4 : ¬ a = i := by omega
        simp [h1, h2, h3, h4]
      · have h4 : ¬ (a + 1 = i) := by omega
        simp [h1, h2, h3, h4]
/-- linear in each row -/
theorem det_lin : ∀ {n : Nat} (v : Mx) {i : Nat} (hi : i < n) (a b : Int) (x y : Nat → Int), det n (up v i fun j => a * x j + b * y j) = a * det n (up v i x) + b * det n (up v i y)
  | 0, _, _, hi, _, _, _, _ => by omega
  | n + 1, v, i, hi, a, b, x, y => by
    unfold det
    rw [← S_mul, ← S_mul, ← S_add]
    refine S_congr fun k hk => ?_
    by_cases e : i = k
    · subst e
      rw [cut_up_self, cut_up_self, cut_up_self]
      unfold up
      simp only [if_pos]
      grind
    · rw [cut_up_ne _ e, cut_up_ne _ e, cut_up_ne _ e]
      have hp : pos k i < n := by
        unfold pos
        split <;> omega
      rw [det_lin (cut v k) hp a b (fun j => x (j + 1)) (fun j => y (j + 1))]
      have e1 : ∀ z : Nat → Int, up v i z k 0 = v k 0 := fun z => by
        unfold up
        rw [if_neg (Ne.symm e)]
      rw [e1, e1, e1]
      grind
theorem up_self (v : Mx) (i : Nat) : up v i (v i) = v := by
  funext a
  unfold up
  split
  · rename_i h; rw [h]
  · rfl
theorem up_up (v : Mx) (i : Nat) (x y : Nat → Int) : up (up v i x) i y = up v i y := by
  funext a
  unfold up
  split <;> rfl
theorem up_comm (v : Mx) {i k : Nat} (h : i ≠ k) (x y : Nat → Int) : up (up v i x) k y = up (up v k y) i x := by
  funext a
  unfold up
  by_cases h1 : a = k
  · subst h1
    simp [Ne.symm h]
  · simp [h1]
/-- two rows alike, side by side -/
theorem det_adj : ∀ {n : Nat} (v : Mx) {i : Nat} (hi : i + 1 < n) (h : ∀ j, v i j = v (i + 1) j), det n v = 0
  | 0, _, _, hi, _ => by omega
  | n + 1, v, i, hi, h => by
    unfold det
    rw [S_two hi]
    · have e1 : cut v i = cut v (i + 1) := by
        funext a j
        unfold cut skip
        by_cases h1 : a < i
        · have h2 : a < i + 1 := by omega
          simp [h1, h2]
        · by_cases h2 : a = i
          · subst h2
            simp [h]
          · have h3 : ¬ a < i + 1 := by omega
            simp [h1, h3]
      rw [e1, h 0]
      have e2 : sg i + sg (i + 1) = 0 := by
        unfold sg
        by_cases h1 : i % 2 = 0
        · have h2 : ¬ (i + 1) % 2 = 0 := by omega
          simp [h1, h2]
        · have h2 : (i + 1) % 2 = 0 := by omega
          simp [h1, h2]
      have : sg i * v (i + 1) 0 * det n (cut v (i + 1)) + sg (i + 1) * v (i + 1) 0 * det n (cut v (i + 1)) = (sg i + sg (i + 1)) * (v (i + 1) 0 * det n (cut v (i + 1))) := by grind
      rw [this, e2, Int.zero_mul]
    · intro k hk h1 h2
      have : det n (cut v k) = 0 := by
        by_cases h3 : k < i
        · refine det_adj (cut v k) (i := i - 1) (by omega) fun j => ?_
          unfold cut skip
          have a1 : ¬ (i - 1 < k) := by omega
          have a2 : ¬ (i - 1 + 1 < k) := by omega
          have a3 : i - 1 + 1 = i := by omega
          have a4 : ¬ (i < k) := by omega
          simp only [a1, a4, if_false, a3]
          exact h _
        · refine det_adj (cut v k) (i := i) (by omega) fun j => ?_
          unfold cut skip
          have a1 : i < k := by omega
          have a2 : i + 1 < k := by omega
          simp only [a1, a2, if_true]
          exact h _
      rw [this, Int.mul_zero]
theorem det_swap {n : Nat} (v : Mx) {i : Nat} (hi : i + 1 < n) (x y : Nat → Int) : det n (up (up v i x) (i + 1) y) = - det n (up (up v i y) (i + 1) x) := by
  have two : ∀ z : Nat → Int, det n (up (up v i z) (i + 1) z) = 0 := fun z => det_adj _ hi fun j => by
    unfold up
    have : ¬ (i = i + 1) := by omega
    simp [this]
  have lin2 : ∀ (u : Mx) (k : Nat), k < n → ∀ a b : Nat → Int, det n (up u k fun j => a j + b j) = det n (up u k a) + det n (up u k b) := fun u k hk a b => by
    have := det_lin u hk 1 1 a b
    simpa using this
  have h := two fun j => x j + y j
  rw [lin2 _ _ hi, up_comm v (by omega : i ≠ i + 1), lin2 _ _ (by omega), up_comm v (by omega : i ≠ i + 1), lin2 _ _ (by omega)] at h
  rw [← up_comm v (by omega : i ≠ i + 1), ← up_comm v (by omega : i ≠ i + 1), ← up_comm v (by omega : i ≠ i + 1), ← up_comm v (by omega : i ≠ i + 1), two, two] at h
  omega
/-- two rows alike -/
theorem det_alt {n : Nat} : ∀ (d : Nat) (v : Mx) {i : Nat}, i + d + 1 < n → (∀ j, v i j = v (i + d + 1) j) → det n v = 0
  | 0, v, i, hi, h => det_adj v hi h
  | d + 1, v, i, hi, h => by
    have e : v = up (up v (i + d + 1) (v (i + d + 1))) (i + d + 1 + 1) (v (i + d + 1 + 1)) := by
      rw [up_self, up_self]
    rw [e, det_swap v (i := i + d + 1) (by omega)]
    have hs : i + d + 1 < n := by omega
    have := det_alt d (up (up v (i + d + 1) (v (i + d + 1 + 1))) (i + d + 1 + 1) (v (i + d + 1))) hs fun j => by
      unfold up
      have a1 : ¬ (i = i + d + 1 + 1) := by omega
      have a2 : ¬ (i = i + d + 1) := by omega
      have a3 : ¬ (i + d + 1 = i + d + 1 + 1) := by omega
      simp only [a1, a2, a3, if_false, if_true]
      exact h j
    rw [this]
    rfl
theorem det_same {n : Nat} (v : Mx) {i k : Nat} (hi : i < n) (hk : k < n) (ne : i ≠ k) (h : ∀ j, v i j = v k j) : det n v = 0 := by
  by_cases l : i < k
  · have e : k = i + (k - i - 1) + 1 := by omega
    rw [e] at h
    exact det_alt (k - i - 1) v (by omega) h
  · have e : i = k + (i - k - 1) + 1 := by omega
    exact det_alt (i - k - 1) v (i := k) (by omega) fun j => by rw [← e]; exact (h j).symm
theorem det_row_same {n : Nat} (v : Mx) {i k : Nat} (hi : i < n) (hk : k < n) (ne : i ≠ k) : det n (up v i (v k)) = 0 := det_same _ hi hk ne fun j => by
  unfold up
  simp [Ne.symm ne]
theorem det_zero {n : Nat} (v : Mx) {i : Nat} (hi : i < n) : det n (up v i fun _ => 0) = 0 := by
  have := det_lin v hi 0 0 (fun _ => 0) (fun _ => 0)
  simpa using this
/-- a row that is a sum of all rows -/
theorem det_sum {n : Nat} (v : Mx) {i : Nat} (hi : i < n) : ∀ (m : Nat) (c : Nat → Int) (w : Mx), det n (up v i fun j => S m fun k => c k * w k j) = S m fun k => c k * det n (up v i (w k))
  | 0, c, w => by
    simp only [S]
    exact det_zero v hi
  | m + 1, c, w => by
    simp only [S]
    have := det_lin v hi 1 (c m) (fun j => S m fun k => c k * w k j) (w m)
    simp only [Int.one_mul] at this
    rw [this, det_sum v hi m c w]
theorem det_comb {n : Nat} (v : Mx) {i : Nat} (hi : i < n) (c : Nat → Int) : det n (up v i fun j => S n fun k => c k * v k j) = c i * det n v := by
  rw [det_sum v hi n c v, S_one hi]
  · rw [up_self]
  · intro k hk hn
    rw [det_row_same v hi hk (Ne.symm hn), Int.mul_zero]
def E : Mx := fun i j => if i = j then 1 else 0
theorem det_E : ∀ n, det n E = 1
  | 0 => rfl
  | n + 1 => by
    unfold det
    rw [S_one (r := 0) (by omega)]
    · have : cut E 0 = E := by
        funext i j
        unfold cut E skip
        simp
      rw [this, det_E n]
      unfold sg E
      simp
    · intro k hk hn
      unfold E
      simp [hn]
theorem det_abs : ∀ {n : Nat} {v : Mx} {B : Nat}, (∀ i, i < n → ∀ j, j < n → (v i j).natAbs ≤ B) → (det n v).natAbs ≤ n ^ n * B ^ n
  | 0, v, B, h => by simp [det]
  | n + 1, v, B, h => by
    unfold det
    have ih : ∀ k, k < n + 1 → (det n (cut v k)).natAbs ≤ n ^ n * B ^ n := fun k hk => det_abs fun i hi j hj => by
      unfold cut
      refine h _ ?_ _ (by omega)
      unfold skip
      split <;> omega
    have hb : ∀ k, k < n + 1 → (sg k * v k 0 * det n (cut v k)).natAbs ≤ B * (n ^ n * B ^ n) := fun k hk => by
      rw [Int.natAbs_mul, Int.natAbs_mul]
      have s1 : (sg k).natAbs = 1 := by unfold sg; split <;> rfl
      rw [s1, Nat.one_mul]
      exact Nat.mul_le_mul (h k hk 0 (by omega)) (ih k hk)
    have := S_abs hb
    refine Nat.le_trans this ?_
    have e : (n + 1) * (B * (n ^ n * B ^ n)) = ((n + 1) * n ^ n) * B ^ (n + 1) := by rw [Nat.pow_succ]; grind
    rw [e]
    refine Nat.mul_le_mul_right _ ?_
    rw [Nat.pow_succ, Nat.mul_comm]
    exact Nat.mul_le_mul_right _ (Nat.pow_le_pow_left (by omega) n)
end DM

end
section
set_option Elab.async false
set_option linter.all false
set_option maxHeartbeats 400000
/-! a table turned by Bland's rule: what it holds, and that it ends -/
namespace DM
section
variable (m w : Nat) (A : Nat → Nat → Int)
def bv (bs : Nat → Nat) : Mx := fun k l => if k < m then A (bs k) l else E k l
def Dt (bs : Nat → Nat) : Int := det (m + 1) (bv m A bs)
def Mt (bs : Nat → Nat) (i j : Nat) : Int := det (m + 1) (up (bv m A bs) i (A j))
def ub (bs : Nat → Nat) (r c : Nat) : Nat → Nat := fun k => if k = r then c else bs k
structure Ok (bs : Nat → Nat) : Prop where
  pos : 0 < Dt m A bs
  lt : ∀ k, k < m → bs k < w
  eq : ∀ j, j ≤ w → ∀ l, l < m + 1 → S (m + 1) (fun k => Mt m A bs k j * bv m A bs k l) = Dt m A bs * A j l
  feas : ∀ i, i < m → 0 ≤ Mt m A bs i w
structure En (bs : Nat → Nat) (c : Nat) : Prop where
  lt : c < w
  neg : Mt m A bs m c < 0
  least : ∀ j, j < c → 0 ≤ Mt m A bs m j
structure Lv (bs : Nat → Nat) (c r : Nat) : Prop where
  lt : r < m
  pos : 0 < Mt m A bs r c
  best : ∀ i, i < m → 0 < Mt m A bs i c → Mt m A bs r w * Mt m A bs i c < Mt m A bs i w * Mt m A bs r c ∨ (Mt m A bs r w * Mt m A bs i c = Mt m A bs i w * Mt m A bs r c ∧ bs r ≤ bs i)
end
section
variable {m w : Nat} {A : Nat → Nat → Int} {bs bs' : Nat → Nat}
theorem bv_last (bs bs' : Nat → Nat) : bv m A bs m = bv m A bs' m := by
  funext l
  unfold bv
  simp
theorem bv_row {k : Nat} (hk : k < m) : bv m A bs k = A (bs k) := by
  funext l
  unfold bv
  simp [hk]
theorem bv_ub {r c : Nat} (hr : r < m) : bv m A (ub bs r c) = up (bv m A bs) r (A c) := by
  funext k l
  unfold bv ub up
  by_cases h : k = r
  · subst h; simp [hr]
  · simp [h]
theorem bv_congr (h : ∀ k, k < m → bs k = bs' k) : bv m A bs = bv m A bs' := by
  funext k l
  unfold bv
  by_cases hk : k < m
  · simp only [if_pos hk, h k hk]
  · simp only [if_neg hk]
theorem Mt_basic_self {k : Nat} (hk : k < m) : Mt m A bs k (bs k) = Dt m A bs := by
  unfold Mt Dt
  rw [← bv_row (A := A) (bs := bs) hk, up_self]
theorem Mt_basic {i k : Nat} (hi : i < m + 1) (hk : k < m) (ne : i ≠ k) : Mt m A bs i (bs k) = 0 := by
  unfold Mt
  rw [← bv_row (A := A) (bs := bs) hk]
  exact det_row_same _ hi (by omega) ne
theorem Ok.inj (h : Ok m w A bs) {i k : Nat} (hi : i < m) (hk : k < m) (e : bs i = bs k) : i = k := by
  by_cases ne : i = k
  · exact ne
  · have h1 := Mt_basic (A := A) (bs := bs) (i := i) (by omega) hk ne
    rw [← e, Mt_basic_self hi] at h1
    have := h.pos
    omega
/-- the last row of one table out of another's rows -/
theorem rel (h : Ok m w A bs) {j : Nat} (hj : j ≤ w) : Dt m A bs * Mt m A bs' m j = S m (fun k => Mt m A bs k j * Mt m A bs' m (bs k)) + Mt m A bs m j * Dt m A bs' := by
  have e1 : Dt m A bs * Mt m A bs' m j = det (m + 1) (up (bv m A bs') m fun l => S (m + 1) fun k => Mt m A bs k j * bv m A bs k l) := by
    have := det_lin (n := m + 1) (bv m A bs') (i := m) (by omega) (Dt m A bs) 0 (A j) (A j)
    simp only [Int.zero_mul, Int.add_zero] at this
    unfold Mt at *
    rw [← this]
    refine det_congr fun a ha b hb => ?_
    unfold up
    by_cases e : a = m
    · simp only [if_pos e]
      exact (h.eq j hj b hb).symm
    · simp only [if_neg e]
  rw [e1, det_sum _ (by omega)]
  simp only [S]
  rw [bv_last bs bs', up_self]
  congr 1
  refine S_congr fun k hk => ?_
  rw [bv_row hk]
  rfl
theorem mul_cancel {a b p : Int} (hp : 0 < p) (h : a * p = b * p) : a = b := Int.eq_of_mul_eq_mul_right (by omega) h
section
variable {r c : Nat}
theorem piv_D (hr : r < m) : Dt m A (ub bs r c) = Mt m A bs r c := by
  unfold Dt Mt
  rw [bv_ub hr]
theorem piv_row (hr : r < m) (j : Nat) : Mt m A (ub bs r c) r j = Mt m A bs r j := by
  unfold Mt
  rw [bv_ub hr, up_up]
theorem piv_sum (h : Ok m w A bs) (hr : r < m) (hc : c < w) {j : Nat} (hj : j ≤ w) {l : Nat} (hl : l < m + 1) :
    S (m + 1) (fun k => (if k = r then Dt m A bs * Mt m A bs r j else Mt m A bs k j * Mt m A bs r c - Mt m A bs k c * Mt m A bs r j) * bv m A (ub bs r c) k l) = Dt m A bs * Mt m A bs r c * A j l := by
  have e : ∀ k, k < m + 1 → (if k = r then Dt m A bs * Mt m A bs r j else Mt m A bs k j * Mt m A bs r c - Mt m A bs k c * Mt m A bs r j) * bv m A (ub bs r c) k l =
      (Mt m A bs r c * (Mt m A bs k j * bv m A bs k l) + (- Mt m A bs r j) * (Mt m A bs k c * bv m A bs k l)) + (if k = r then Dt m A bs * Mt m A bs r j * A c l else 0) := fun k hk => by
    rw [bv_ub hr]
    unfold up
    by_cases e : k = r
    · subst e
      simp only [if_pos]
      grind
    · simp only [if_neg e]
      grind
  rw [S_congr e, S_add, S_add, S_mul, S_mul, h.eq j hj l hl, h.eq c (by omega) l hl, S_one (r := r) (by omega) (fun k => if k = r then Dt m A bs * Mt m A bs r j * A c l else 0) fun k _ hn => by simp [hn]]
  simp only [if_pos]
  grind
theorem piv_M (h : Ok m w A bs) (hr : r < m) (hc : c < w) (hp : 0 < Mt m A bs r c) {i j : Nat} (hi : i < m + 1) (ne : i ≠ r) (hj : j ≤ w) :
    Dt m A bs * Mt m A (ub bs r c) i j = Mt m A bs i j * Mt m A bs r c - Mt m A bs i c * Mt m A bs r j := by
  refine mul_cancel hp ?_
  have e1 : (Dt m A bs * Mt m A bs r c) * Mt m A (ub bs r c) i j = det (m + 1) (up (bv m A (ub bs r c)) i fun l => S (m + 1) fun k => (if k = r then Dt m A bs * Mt m A bs r j else Mt m A bs k j * Mt m A bs r c - Mt m A bs k c * Mt m A bs r j) * bv m A (ub bs r c) k l) := by
    have := det_lin (n := m + 1) (bv m A (ub bs r c)) (i := i) hi (Dt m A bs * Mt m A bs r c) 0 (A j) (A j)
    simp only [Int.zero_mul, Int.add_zero] at this
    show _ * det (m + 1) (up (bv m A (ub bs r c)) i (A j)) = _
    rw [← this]
    refine det_congr fun a ha b hb => ?_
    unfold up
    by_cases e : a = i
    · simp only [if_pos e]
      exact (piv_sum h hr hc hj hb).symm
    · simp only [if_neg e]
  rw [det_comb _ hi] at e1
  simp only [if_neg ne] at e1
  have e2 : det (m + 1) (bv m A (ub bs r c)) = Mt m A bs r c := piv_D hr
  rw [e2] at e1
  rw [← e1]
  grind
theorem Ok.piv (h : Ok m w A bs) (hc : c < w) (hl : Lv m w A bs c r) : Ok m w A (ub bs r c) where
  pos := by rw [piv_D hl.lt]; exact hl.pos
  lt := fun k hk => by
    unfold ub
    split
    · exact hc
    · exact h.lt k hk
  eq := fun j hj l hl' => by
    refine mul_cancel h.pos ?_
    rw [piv_D hl.lt]
    have := piv_sum h hl.lt hc hj hl'
    have e : ∀ k, k < m + 1 → (if k = r then Dt m A bs * Mt m A bs r j else Mt m A bs k j * Mt m A bs r c - Mt m A bs k c * Mt m A bs r j) * bv m A (ub bs r c) k l = Dt m A bs * (Mt m A (ub bs r c) k j * bv m A (ub bs r c) k l) := fun k hk => by
      by_cases e : k = r
      · subst e
        simp only [if_pos]
        rw [piv_row hl.lt]
        grind
      · simp only [if_neg e]
        rw [← piv_M h hl.lt hc hl.pos hk e hj]
        grind
    rw [S_congr e, S_mul] at this
    grind
  feas := fun i hi => by
    by_cases e : i = r
    · subst e
      rw [piv_row hi]
      exact h.feas i hi
    · have := piv_M h hl.lt hc hl.pos (i := i) (by omega) e (Nat.le_refl w)
      have h2 : 0 ≤ Mt m A bs i w * Mt m A bs r c - Mt m A bs i c * Mt m A bs r w := by
        by_cases hp : 0 < Mt m A bs i c
        · rcases hl.best i hi hp with q | ⟨q, _⟩ <;> grind
        · have a1 := Int.mul_nonneg (h.feas i hi) (Int.le_of_lt hl.pos)
          have a2 := Int.mul_nonneg (show 0 ≤ - Mt m A bs i c by omega) (h.feas r hl.lt)
          grind
      rw [← this] at h2
      exact Int.le_of_mul_le_mul_left (a := Dt m A bs) (by omega) h.pos
end
theorem En.uniq {c c' : Nat} (h : En m w A bs c) (h' : En m w A bs' c') (e : ∀ k, k < m → bs k = bs' k) : c = c' := by
  have eb : bv m A bs = bv m A bs' := bv_congr e
  have em : ∀ i j, Mt m A bs i j = Mt m A bs' i j := fun i j => by unfold Mt; rw [eb]
  rcases Nat.lt_trichotomy c c' with l | l | l
  · have := h'.least c l
    have := h.neg
    rw [em] at this
    omega
  · exact l
  · have := h.least c' l
    have := h'.neg
    rw [← em] at this
    omega
theorem Lv.uniq {c r r' : Nat} (ok : Ok m w A bs) (h : Lv m w A bs c r) (h' : Lv m w A bs' c r') (e : ∀ k, k < m → bs k = bs' k) : r = r' := by
  have eb : bv m A bs = bv m A bs' := bv_congr e
  have em : ∀ i j, Mt m A bs' i j = Mt m A bs i j := fun i j => by unfold Mt; rw [eb]
  have h1 := h.best r' h'.lt (by have := h'.pos; rwa [em] at this)
  have h2 := h'.best r h.lt (by have := h.pos; rwa [em])
  rw [em, em, em, em, ← e r h.lt, ← e r' h'.lt] at h2
  refine ok.inj h.lt h'.lt ?_
  rcases h1 with q | ⟨q, q'⟩
  · rcases h2 with z | ⟨z, _⟩ <;> omega
  · rcases h2 with z | ⟨z, z'⟩ <;> omega
/-! no lot of bases comes twice -/
structure Seq (m w : Nat) (A : Nat → Nat → Int) (b : Nat → Nat → Nat) (c r : Nat → Nat) : Prop where
  ok : Ok m w A (b 0)
  en : ∀ k, En m w A (b k) (c k)
  lv : ∀ k, Lv m w A (b k) (c k) (r k)
  nx : ∀ k, b (k + 1) = ub (b k) (r k) (c k)
section
variable {b : Nat → Nat → Nat} {c r : Nat → Nat}
theorem Seq.oks (h : Seq m w A b c r) : ∀ k, Ok m w A (b k)
  | 0 => h.ok
  | k + 1 => by
    rw [h.nx]
    exact (h.oks k).piv (h.en k).lt (h.lv k)
theorem Seq.shift (h : Seq m w A b c r) {p q : Nat} (e : ∀ i, i < m → b p i = b q i) : ∀ n i, i < m → b (p + n) i = b (q + n) i
  | 0, i, hi => e i hi
  | n + 1, i, hi => by
    have ih := h.shift e n
    have hc := (h.en (p + n)).uniq (h.en (q + n)) ih
    have hl := h.lv (q + n)
    rw [← hc] at hl
    have hr := (h.lv (p + n)).uniq (h.oks _) hl ih
    have n1 := h.nx (p + n)
    have n2 := h.nx (q + n)
    rw [← Nat.add_assoc, ← Nat.add_assoc, n1, n2]
    unfold ub
    rw [hc, hr, ih i hi]
theorem Seq.mono (h : Seq m w A b c r) (k : Nat) : Mt m A (b (k + 1)) m w * Dt m A (b k) - Mt m A (b k) m w * Dt m A (b (k + 1)) = - (Mt m A (b k) m (c k) * Mt m A (b k) (r k) w) := by
  have e := piv_M (h.oks k) (h.lv k).lt (h.en k).lt (h.lv k).pos (i := m) (j := w) (by omega) (Nat.ne_of_gt (h.lv k).lt) (Nat.le_refl w)
  rw [h.nx k, piv_D (h.lv k).lt]
  grind
theorem cross {a1 d1 a2 d2 a3 d3 : Int} (h1 : 0 < d1) (h2 : 0 < d2) (h3 : 0 < d3) (x : a1 * d2 ≤ a2 * d1) (y : a2 * d3 ≤ a3 * d2) : a1 * d3 ≤ a3 * d1 := by
  have x' := Int.mul_le_mul_of_nonneg_right x (Int.le_of_lt h3)
  have y' := Int.mul_le_mul_of_nonneg_right y (Int.le_of_lt h1)
  refine Int.le_of_mul_le_mul_right (a := d2) ?_ h2
  grind
theorem Seq.le (h : Seq m w A b c r) (k : Nat) : ∀ n, Mt m A (b k) m w * Dt m A (b (k + n)) ≤ Mt m A (b (k + n)) m w * Dt m A (b k)
  | 0 => Int.le_refl _
  | n + 1 => by
    refine cross (h.oks k).pos (h.oks (k + n)).pos (h.oks (k + (n + 1))).pos (h.le k n) ?_
    have := h.mono (k + n)
    have a1 := (h.en (k + n)).neg
    have a2 := (h.oks (k + n)).feas _ (h.lv (k + n)).lt
    have a3 := Int.mul_nonneg (show 0 ≤ - Mt m A (b (k + n)) m (c (k + n)) by omega) a2
    have e : k + (n + 1) = k + n + 1 := by omega
    rw [e]
    grind
theorem Seq.zero (h : Seq m w A b c r) {p L : Nat} (hL : 0 < L) (e : ∀ i, i < m → b p i = b (p + L) i) (k : Nat) : Mt m A (b (p + k)) (r (p + k)) w = 0 := by
  have hs := h.shift e k
  have eb : bv m A (b (p + k)) = bv m A (b (p + L + k)) := bv_congr hs
  have a2 := (h.oks (p + k)).feas _ (h.lv (p + k)).lt
  by_cases z : Mt m A (b (p + k)) (r (p + k)) w = 0
  · exact z
  · have a1 := (h.en (p + k)).neg
    have a3 := Int.mul_pos (show 0 < - Mt m A (b (p + k)) m (c (p + k)) by omega) (show 0 < Mt m A (b (p + k)) (r (p + k)) w by omega)
    have h1 := h.mono (p + k)
    have h2 := h.le (p + k + 1) (L - 1)
    have e2 : p + k + 1 + (L - 1) = p + L + k := by omega
    rw [e2] at h2
    have e3 : Mt m A (b (p + L + k)) m w = Mt m A (b (p + k)) m w := by unfold Mt; rw [eb]
    have e4 : Dt m A (b (p + L + k)) = Dt m A (b (p + k)) := by unfold Dt; rw [eb]
    rw [e3, e4] at h2
    grind
theorem Seq.period (h : Seq m w A b c r) {p L : Nat} (e : ∀ i, i < m → b p i = b (p + L) i) (k : Nat) : ∀ n i, i < m → b (p + k) i = b (p + k + n * L) i
  | 0, i, hi => by rw [Nat.zero_mul, Nat.add_zero]
  | n + 1, i, hi => by
    rw [h.period e k n i hi]
    have := h.shift e (k + n * L) i hi
    have e1 : p + (k + n * L) = p + k + n * L := by omega
    have e2 : p + L + (k + n * L) = p + k + (n + 1) * L := by rw [Nat.add_mul]; omega
    rw [e1, e2] at this
    exact this
def Inb (m : Nat) (bs : Nat → Nat) (v : Nat) : Prop := ∃ i, i < m ∧ bs i = v
theorem Seq.leaves (h : Seq m w A b c r) (v a : Nat) : ∀ n, Inb m (b a) v → ¬ Inb m (b (a + n)) v → ∃ k, a ≤ k ∧ b k (r k) = v
  | 0, h1, h2 => absurd h1 h2
  | n + 1, h1, h2 => by
    by_cases z : Inb m (b (a + n)) v
    · obtain ⟨i, hi, e⟩ := z
      refine ⟨a + n, by omega, ?_⟩
      by_cases q : i = r (a + n)
      · rw [← q]; exact e
      · refine absurd ⟨i, hi, ?_⟩ h2
        rw [← Nat.add_assoc, h.nx]
        unfold ub
        rw [if_neg q]
        exact e
    · exact h.leaves v a n h1 z
theorem Seq.enters (h : Seq m w A b c r) (v a : Nat) : ∀ n, ¬ Inb m (b a) v → Inb m (b (a + n)) v → ∃ k, a ≤ k ∧ c k = v
  | 0, h1, h2 => absurd h2 h1
  | n + 1, h1, h2 => by
    by_cases z : Inb m (b (a + n)) v
    · exact h.enters v a n h1 z
    · obtain ⟨i, hi, e⟩ := h2
      rw [← Nat.add_assoc, h.nx] at e
      unfold ub at e
      by_cases q : i = r (a + n)
      · rw [if_pos q] at e
        exact ⟨a + n, by omega, e⟩
      · rw [if_neg q] at e
        exact absurd ⟨i, hi, e⟩ z
theorem Seq.notIn (h : Seq m w A b c r) (k : Nat) : ¬ Inb m (b k) (c k) := fun ⟨i, hi, e⟩ => by
  have := Mt_basic (A := A) (bs := b k) (i := m) (by omega) hi (Nat.ne_of_gt hi)
  rw [e] at this
  have := (h.en k).neg
  omega
def Zr (m w : Nat) (A : Nat → Nat → Int) (bs : Nat → Nat) (v : Nat) : Prop := ∀ i, i < m → bs i = v → Mt m A bs i w = 0
theorem Seq.zstep (h : Seq m w A b c r) {k v : Nat} (hz : Mt m A (b k) (r k) w = 0) (z : Zr m w A (b k) v ∨ v = c k) : Zr m w A (b (k + 1)) v := fun i hi e => by
  rw [h.nx] at e ⊢
  by_cases q : i = r k
  · rw [q, piv_row (h.lv k).lt, hz]
  · have e' : b k i = v := by
      unfold ub at e
      rw [if_neg q] at e
      exact e
    have h0 : Mt m A (b k) i w = 0 := by
      rcases z with z | z
      · exact z i hi e'
      · exact absurd ⟨i, hi, e'.trans z⟩ (h.notIn k)
    have := piv_M (h.oks k) (h.lv k).lt (h.en k).lt (h.lv k).pos (i := i) (j := w) (by omega) q (Nat.le_refl w)
    rw [h0, hz] at this
    have p := (h.oks k).pos
    have : Dt m A (b k) * Mt m A (ub (b k) (r k) (c k)) i w = 0 := by rw [this]; omega
    rcases Int.mul_eq_zero.mp this with y | y
    · omega
    · exact y
theorem ex_max {f : Nat → Nat} {p : Nat} : ∀ {w : Nat}, (∀ k, p ≤ k → f k < w) → ∃ k, p ≤ k ∧ ∀ j, p ≤ j → f j ≤ f k
  | 0, h => absurd (h p (Nat.le_refl p)) (by omega)
  | w + 1, h => by
    by_cases q : ∃ k, p ≤ k ∧ f k = w
    · obtain ⟨k, hk, e⟩ := q
      exact ⟨k, hk, fun j hj => by have := h j hj; omega⟩
    · refine ex_max (w := w) fun k hk => ?_
      have := h k hk
      have : f k ≠ w := fun e => q ⟨k, hk, e⟩
      omega
theorem Seq.nocycle (h : Seq m w A b c r) {p L : Nat} (hL : 0 < L) (e : ∀ i, i < m → b p i = b (p + L) i) : False := by
  have zr : ∀ k, p ≤ k → Mt m A (b k) (r k) w = 0 := fun k hk => by
    have := h.zero hL e (k - p)
    have e1 : p + (k - p) = k := by omega
    rwa [e1] at this
  have per : ∀ k, p ≤ k → ∀ n i, i < m → b k i = b (k + n * L) i := fun k hk n i hi => by
    have := h.period e (k - p) n i hi
    have e1 : p + (k - p) = k := by omega
    rwa [e1] at this
  obtain ⟨ks, hks, hmax⟩ := ex_max (f := c) (p := p) (w := w) fun k _ => (h.en k).lt
  -- the greatest that comes in goes out somewhere
  have hin : Inb m (b (ks + 1)) (c ks) := ⟨r ks, (h.lv ks).lt, by rw [h.nx]; unfold ub; rw [if_pos rfl]⟩
  have hout : ¬ Inb m (b (ks + 1 + (L - 1))) (c ks) := by
    have e1 : ks + 1 + (L - 1) = ks + 1 * L := by omega
    rw [e1]
    have e2 := (h.en ks).uniq (h.en (ks + 1 * L)) (per ks hks 1)
    rw [e2]
    exact h.notIn _
  obtain ⟨k, hk, hkr⟩ := h.leaves (c ks) (ks + 1) (L - 1) hin hout
  have hpk : p ≤ k := by omega
  have hlt : c k < c ks := by
    have := hmax k hpk
    rcases Nat.lt_or_eq_of_le this with q | q
    · exact q
    · refine absurd ⟨r k, (h.lv k).lt, ?_⟩ (h.notIn k)
      rw [hkr, q]
  -- the two tables
  have hrel := rel (bs' := b ks) (h.oks k) (j := c k) (Nat.le_of_lt (h.en k).lt)
  have l1 := Int.mul_nonneg (Int.le_of_lt (h.oks k).pos) ((h.en ks).least (c k) hlt)
  have l2 := Int.mul_pos (show 0 < - Mt m A (b k) m (c k) by have := (h.en k).neg; omega) (h.oks ks).pos
  have hpos : 0 < S m (fun i => Mt m A (b k) i (c k) * Mt m A (b ks) m (b k i)) := by grind
  obtain ⟨i, hi, hip⟩ := S_pos hpos
  have hir : i ≠ r k := fun q => by
    subst q
    rw [hkr] at hip
    have := Int.mul_pos (h.lv k).pos (show 0 < - Mt m A (b ks) m (c ks) by have := (h.en ks).neg; omega)
    grind
  have hne : Mt m A (b ks) m (b k i) ≠ 0 := fun q => by
    rw [q, Int.mul_zero] at hip
    omega
  have hnin : ¬ Inb m (b ks) (b k i) := fun ⟨i', hi', q⟩ => by
    have := Mt_basic (A := A) (bs := b ks) (i := m) (by omega) hi' (Nat.ne_of_gt hi')
    rw [q] at this
    exact hne this
  -- it comes in somewhere
  have hin2 : ∃ n, Inb m (b (ks + n)) (b k i) := by
    refine ⟨k + ks * L - ks, ?_⟩
    have g : ks ≤ ks * L := Nat.le_mul_of_pos_right ks hL
    have e1 : ks + (k + ks * L - ks) = k + ks * L := by omega
    rw [e1]
    exact ⟨i, hi, (per k hpk ks i hi).symm⟩
  obtain ⟨n, hn⟩ := hin2
  obtain ⟨k', hk', hc'⟩ := h.enters (b k i) ks n hnin hn
  have hv : b k i < c ks := by
    have := hmax k' (by omega)
    rw [hc'] at this
    rcases Nat.lt_or_eq_of_le this with q | q
    · exact q
    · rw [← hkr] at q
      exact absurd ((h.oks k).inj hi (h.lv k).lt q) hir
  have hge := (h.en ks).least _ hv
  have hpi : 0 < Mt m A (b k) i (c k) := by
    have hgt : 0 < Mt m A (b ks) m (b k i) := by omega
    rw [Int.mul_comm] at hip
    exact Int.pos_of_mul_pos_right hip (by omega)
  have zk : ∀ n, Zr m w A (b (k' + 1 + n)) (b k i) := fun n => by
    induction n with
    | zero => exact h.zstep (zr k' (by omega)) (.inr hc'.symm)
    | succ n ih => exact h.zstep (zr (k' + 1 + n) (by omega)) (.inl ih)
  have hz : Mt m A (b k) i w = 0 := by
    have g : k' + 1 ≤ (k' + 1) * L := Nat.le_mul_of_pos_right (k' + 1) hL
    have e1 : k' + 1 + (k + (k' + 1) * L - (k' + 1)) = k + (k' + 1) * L := by omega
    have z1 := zk (k + (k' + 1) * L - (k' + 1))
    rw [e1] at z1
    have pe := per k hpk (k' + 1)
    have z2 := z1 i hi (pe i hi).symm
    have eb : bv m A (b k) = bv m A (b (k + (k' + 1) * L)) := bv_congr pe
    unfold Mt at z2 ⊢
    rw [eb]
    exact z2
  rcases (h.lv k).best i hi hpi with q | ⟨_, q⟩
  · rw [zr k hpk, hz] at q
    omega
  · rw [hkr] at q
    omega
def code (w : Nat) : Nat → (Nat → Nat) → Nat
  | 0, _ => 0
  | n + 1, f => code w n f * w + f n
theorem code_lt {w : Nat} : ∀ {n : Nat} {f : Nat → Nat}, (∀ i, i < n → f i < w) → code w n f < w ^ n
  | 0, f, _ => by simp [code]
  | n + 1, f, h => by
    unfold code
    have h1 := code_lt (n := n) (f := f) fun i hi => h i (by omega)
    have h2 := h n (by omega)
    have h3 : (code w n f + 1) * w ≤ w ^ n * w := Nat.mul_le_mul_right w h1
    rw [Nat.pow_succ]
    rw [Nat.add_mul, Nat.one_mul] at h3
    omega
theorem code_inj {w : Nat} : ∀ {n : Nat} {f g : Nat → Nat}, (∀ i, i < n → f i < w) → (∀ i, i < n → g i < w) → code w n f = code w n g → ∀ i, i < n → f i = g i
  | 0, f, g, _, _, _, i, hi => by omega
  | n + 1, f, g, hf, hg, e, i, hi => by
    unfold code at e
    have h1 := hf n (by omega)
    have h2 := hg n (by omega)
    have e1 : f n = g n := by
      have := congrArg (· % w) e
      simp only [Nat.mul_add_mod_self_right, Nat.mod_eq_of_lt h1, Nat.mod_eq_of_lt h2] at this
      exact this
    have e2 : code w n f = code w n g := by
      have : code w n f * w = code w n g * w := by omega
      exact Nat.eq_of_mul_eq_mul_right (by omega) this
    by_cases q : i = n
    · rw [q]; exact e1
    · exact code_inj (fun i hi => hf i (by omega)) (fun i hi => hg i (by omega)) e2 i (by omega)
theorem pigeon : ∀ (N : Nat) (f : Nat → Nat), (∀ k, k ≤ N → f k < N) → ∃ i j, i < j ∧ j ≤ N ∧ f i = f j
  | 0, f, h => absurd (h 0 (Nat.le_refl 0)) (by omega)
  | N + 1, f, h => by
    by_cases q : ∃ i, i < N + 1 ∧ f i = f (N + 1)
    · obtain ⟨i, hi, e⟩ := q
      exact ⟨i, N + 1, hi, Nat.le_refl _, e⟩
    · have hl := h (N + 1) (Nat.le_refl _)
      obtain ⟨i, j, h1, h2, h3⟩ := pigeon N (fun k => if f k = N then f (N + 1) else f k) fun k hk => by
        have h1 := h k (by omega)
        have h2 : f k ≠ f (N + 1) := fun e => q ⟨k, by omega, e⟩
        show (if f k = N then f (N + 1) else f k) < N
        split <;> omega
      refine ⟨i, j, h1, by omega, ?_⟩
      have n1 : f i ≠ f (N + 1) := fun e => q ⟨i, by omega, e⟩
      have n2 : f j ≠ f (N + 1) := fun e => q ⟨j, by omega, e⟩
      split at h3
      · split at h3
        · omega
        · exact absurd h3.symm n2
      · split at h3
        · exact absurd h3 n1
        · exact h3
theorem Seq.never (h : Seq m w A b c r) : False := by
  obtain ⟨i, j, hij, _, e⟩ := pigeon (w ^ m) (fun k => code w m (b k)) fun k _ => code_lt fun i hi => (h.oks k).lt i hi
  have := code_inj (fun q hq => (h.oks i).lt q hq) (fun q hq => (h.oks j).lt q hq) e
  refine h.nocycle (p := i) (L := j - i) (by omega) fun q hq => ?_
  have e1 : i + (j - i) = j := by omega
  rw [e1]
  exact this q hq
end
/-- from one lot of bases to the next -/
def Nxt (m w : Nat) (A : Nat → Nat → Int) (b' b : Nat → Nat) : Prop := ∃ c r, En m w A b c ∧ Lv m w A b c r ∧ b' = ub b r c
theorem Ok.acc (h : Ok m w A bs) : Acc (Nxt m w A) bs := by
  refine Classical.byContradiction fun na => ?_
  have step : ∀ b : { b // Ok m w A b ∧ ¬ Acc (Nxt m w A) b }, ∃ b' : { b // Ok m w A b ∧ ¬ Acc (Nxt m w A) b }, ∃ c r, En m w A b.1 c ∧ Lv m w A b.1 c r ∧ b'.1 = ub b.1 r c := fun b => by
    refine Classical.byContradiction fun nb => b.2.2 (.intro _ fun b' hb => ?_)
    obtain ⟨c, r, h1, h2, h3⟩ := hb
    refine Classical.byContradiction fun na' => nb ⟨⟨b', ?_, na'⟩, c, r, h1, h2, h3⟩
    rw [h3]
    exact b.2.1.piv h1.lt h2
  let sq : Nat → { b // Ok m w A b ∧ ¬ Acc (Nxt m w A) b } := fun n => Nat.rec ⟨bs, h, na⟩ (fun _ b => Classical.choose (step b)) n
  have hs : ∀ n, ∃ c r, En m w A (sq n).1 c ∧ Lv m w A (sq n).1 c r ∧ (sq (n + 1)).1 = ub (sq n).1 r c := fun n => Classical.choose_spec (step (sq n))
  refine Seq.never (b := fun n => (sq n).1) (c := fun n => Classical.choose (hs n)) (r := fun n => Classical.choose (Classical.choose_spec (hs n))) ⟨h, fun k => ?_, fun k => ?_, fun k => ?_⟩
  · exact (Classical.choose_spec (Classical.choose_spec (hs k))).1
  · exact (Classical.choose_spec (Classical.choose_spec (hs k))).2.1
  · exact (Classical.choose_spec (Classical.choose_spec (hs k))).2.2
end
end DM

end
section
set_option Elab.async false
set_option linter.all false
set_option maxRecDepth 100000
set_option maxHeartbeats 400000
set_option exponentiation.threshold 20000
namespace SL
open FR DM
structure Lk (m w : Nat) (A : Nat → Nat → Int) (T : Tab) (u : Int) (bs : List Int) (f : Nat → Nat) : Prop where
  rows : T.length = m + 1
  cols : ∀ r ∈ T, r.length = w + 1
  e : ∀ i, i < m + 1 → ∀ j, j ≤ w → ent T i j = Mt m A f i j
  u : u = Dt m A f
  bl : bs.length = m
  b : ∀ k, k < m → bs.getD k 0 = (f k : Int)
theorem last_getD {α : Type} {z : α} : ∀ {l : List α} {n : Nat}, l.length = n + 1 → l.getLastD z = l.getD n z := by
  intro l n h
  rw [List.getLastD_eq_getLast?, List.getLast?_eq_getElem?, List.getD_eq_getElem?_getD, h]
  rfl
theorem fzi : ∀ (l : List Int) (k : Nat), (∀ q, (l.zipIdx k).find? (fun p => decide (p.1 < 0)) = some q → k ≤ q.2 ∧ q.2 - k < l.length ∧ l.getD (q.2 - k) 0 < 0 ∧ ∀ j, j < q.2 - k → 0 ≤ l.getD j 0) ∧
    ((l.zipIdx k).find? (fun p => decide (p.1 < 0)) = none → ∀ j, j < l.length → 0 ≤ l.getD j 0)
  | [], k => ⟨fun q h => by simp at h, fun _ j h => by simp at h⟩
  | x :: l, k => by
    obtain ⟨h1, h2⟩ := fzi l (k + 1)
    rw [List.zipIdx_cons]
    by_cases hx : x < 0
    · rw [List.find?_cons_of_pos (by simpa using hx)]
      refine ⟨fun q h => ?_, fun h => by simp at h⟩
      cases h
      simp [hx]
    · rw [List.find?_cons_of_neg (by simpa using hx)]
      refine ⟨fun q h => ?_, fun h j hj => ?_⟩
      · obtain ⟨a1, a2, a3, a4⟩ := h1 q h
        have e1 : q.2 - k = (q.2 - (k + 1)) + 1 := by omega
        rw [e1]
        refine ⟨by omega, by simp; omega, by simpa using a3, fun j hj => ?_⟩
        cases j with
        | zero => simp; omega
        | succ j => simpa using a4 j (by omega)
      · cases j with
        | zero => simp; omega
        | succ j => simpa using h2 h j (by simpa using hj)
theorem dropLast_getD {α : Type} {z : α} {l : List α} {j : Nat} (h : j < l.dropLast.length) : l.dropLast.getD j z = l.getD j z := by
  rw [List.getD_eq_getElem?_getD, List.getD_eq_getElem?_getD, List.getElem?_dropLast]
  rw [List.length_dropLast] at h
  rw [if_pos h]
section
variable {m w : Nat} {A : Nat → Nat → Int} {T : Tab} {u : Int} {bs : List Int} {f : Nat → Nat}
theorem Lk.row (h : Lk m w A T u bs f) {i : Nat} (hi : i < m + 1) : T.getD i [] ∈ T := FR.getD_mem (by rw [h.rows]; exact hi)
theorem Lk.len (h : Lk m w A T u bs f) {i : Nat} (hi : i < m + 1) : (T.getD i []).length = w + 1 := h.cols _ (h.row hi)
theorem Lk.last (h : Lk m w A T u bs f) {i : Nat} (hi : i < m + 1) : (T.getD i []).getLastD 0 = Mt m A f i w := by
  rw [last_getD (h.len hi), ← h.e i hi w (Nat.le_refl w)]
  rfl
theorem Lk.lastrow (h : Lk m w A T u bs f) : T.getLastD [] = T.getD m [] := last_getD h.rows
theorem Lk.entP (h : Lk m w A T u bs f) : (∀ p, enterP T = some p → En m w A f p) ∧ (enterP T = none → ∀ j, j < w → 0 ≤ Mt m A f m j) := by
  unfold enterP
  rw [h.lastrow]
  obtain ⟨h1, h2⟩ := fzi (T.getD m []).dropLast 0
  have hl : (T.getD m []).dropLast.length = w := by rw [List.length_dropLast, h.len (by omega)]; rfl
  have g : ∀ j, j < w → (T.getD m []).dropLast.getD j 0 = Mt m A f m j := fun j hj => by
    rw [dropLast_getD (by omega), ← h.e m (by omega) j (by omega)]
    rfl
  refine ⟨fun p hp => ?_, fun hn j hj => ?_⟩
  · obtain ⟨q, hq, e⟩ := Option.map_eq_some_iff.mp hp
    obtain ⟨_, a2, a3, a4⟩ := h1 q hq
    rw [Nat.sub_zero, e] at a2 a3 a4
    rw [hl] at a2
    rw [g p a2] at a3
    refine ⟨a2, a3, fun j hj => ?_⟩
    rw [← g j (by omega)]
    exact a4 j hj
  · rw [← g j hj]
    exact h2 (Option.map_eq_none_iff.mp hn) j (by omega)
/-- row r goes ahead of row i, or is it -/
def Le (m w : Nat) (A : Nat → Nat → Int) (f : Nat → Nat) (p r i : Nat) : Prop := Mt m A f r w * Mt m A f i p < Mt m A f i w * Mt m A f r p ∨ (Mt m A f r w * Mt m A f i p = Mt m A f i w * Mt m A f r p ∧ f r ≤ f i)
theorem crosslt {a1 d1 a2 d2 a3 d3 : Int} (h1 : 0 < d1) (h2 : 0 < d2) (h3 : 0 < d3) (x : a1 * d2 < a2 * d1) (y : a2 * d3 ≤ a3 * d2) : a1 * d3 < a3 * d1 := by
  have x' := Int.mul_lt_mul_of_pos_right x h3
  have y' := Int.mul_le_mul_of_nonneg_right y (Int.le_of_lt h1)
  refine Int.lt_of_mul_lt_mul_right (a := d2) ?_ (Int.le_of_lt h2)
  grind
theorem crosslt' {a1 d1 a2 d2 a3 d3 : Int} (h1 : 0 < d1) (h2 : 0 < d2) (h3 : 0 < d3) (x : a1 * d2 ≤ a2 * d1) (y : a2 * d3 < a3 * d2) : a1 * d3 < a3 * d1 := by
  have x' := Int.mul_le_mul_of_nonneg_right x (Int.le_of_lt h3)
  have y' := Int.mul_lt_mul_of_pos_right y h1
  refine Int.lt_of_mul_lt_mul_right (a := d2) ?_ (Int.le_of_lt h2)
  grind
theorem crosseq {a1 d1 a2 d2 a3 d3 : Int} (h2 : 0 < d2) (x : a1 * d2 = a2 * d1) (y : a2 * d3 = a3 * d2) : a1 * d3 = a3 * d1 := by
  refine Int.eq_of_mul_eq_mul_right (a := d2) (by omega) ?_
  have x' : a1 * d2 * d3 = a2 * d1 * d3 := by rw [x]
  have y' : a2 * d3 * d1 = a3 * d2 * d1 := by rw [y]
  grind
theorem Le.trans {p r i k : Nat} (hr : 0 < Mt m A f r p) (hi : 0 < Mt m A f i p) (hk : 0 < Mt m A f k p) (h1 : Le m w A f p r i) (h2 : Le m w A f p i k) : Le m w A f p r k := by
  rcases h1 with a | ⟨a, a'⟩
  · rcases h2 with b | ⟨b, _⟩
    · exact .inl (crosslt hr hi hk a (Int.le_of_lt b))
    · exact .inl (crosslt hr hi hk a (Int.le_of_eq b))
  · rcases h2 with b | ⟨b, b'⟩
    · exact .inl (crosslt' hr hi hk (Int.le_of_eq a) b)
    · exact .inr ⟨crosseq hi a b, Nat.le_trans a' b'⟩
theorem Lk.leave (h : Lk m w A T u bs f) {p : Nat} (hp : p < w) : ∀ k, k ≤ m →
    (lvK T bs p k = none → ∀ i, i < k → Mt m A f i p ≤ 0) ∧ (∀ r, lvK T bs p k = some r → r < k ∧ 0 < Mt m A f r p ∧ ∀ i, i < k → 0 < Mt m A f i p → Le m w A f p r i)
  | 0, _ => ⟨fun _ i hi => by omega, fun r hr => by cases hr⟩
  | k + 1, hk => by
    obtain ⟨h1, h2⟩ := h.leave hp k (by omega)
    rw [lvK_succ]
    unfold leaveS
    have ek : ent T k p = Mt m A f k p := h.e k (by omega) p (by omega)
    by_cases hz : ent T k p ≤ 0
    · rw [if_pos hz]
      rw [ek] at hz
      refine ⟨fun hn i hi => ?_, fun r hr => ?_⟩
      · by_cases q : i = k
        · rw [q]; exact hz
        · exact h1 hn i (by omega)
      · obtain ⟨a1, a2, a3⟩ := h2 r hr
        refine ⟨by omega, a2, fun i hi hip => ?_⟩
        by_cases q : i = k
        · rw [q] at hip; omega
        · exact a3 i (by omega) hip
    · rw [if_neg hz]
      rw [ek] at hz
      cases e : lvK T bs p k with
      | none =>
        refine ⟨fun hn => by (dsimp only at hn; cases hn), fun r hr => ?_⟩
        dsimp only at hr
        cases hr
        refine ⟨by omega, by omega, fun i hi hip => ?_⟩
        by_cases q : i = k
        · rw [q]; exact .inr ⟨rfl, Nat.le_refl _⟩
        · have := h1 e i (by omega); omega
      | some s =>
        obtain ⟨a1, a2, a3⟩ := h2 s e
        have es : ent T s p = Mt m A f s p := h.e s (by omega) p (by omega)
        dsimp only
        by_cases hw : worse T bs p k s = true
        · rw [if_pos hw]
          refine ⟨fun hn => (by cases hn), fun r hr => ?_⟩
          cases hr
          refine ⟨by omega, a2, fun i hi hip => ?_⟩
          by_cases q : i = k
          · rw [q]
            unfold worse at hw
            rw [Bool.or_eq_true, Bool.and_eq_true, decide_eq_true_eq, decide_eq_true_eq, decide_eq_true_eq, h.last (by omega), h.last (by omega), ek, es, h.b s (by omega), h.b k (by omega)] at hw
            rcases hw with hw | ⟨hw, hw'⟩
            · exact .inl hw
            · exact .inr ⟨hw.symm, by omega⟩
          · exact a3 i (by omega) hip
        · rw [if_neg hw]
          refine ⟨fun hn => (by cases hn), fun r hr => ?_⟩
          cases hr
          have lk : Le m w A f p k s := by
            unfold worse at hw
            rw [Bool.or_eq_true, Bool.and_eq_true, decide_eq_true_eq, decide_eq_true_eq, decide_eq_true_eq, h.last (by omega), h.last (by omega), ek, es, h.b s (by omega), h.b k (by omega)] at hw
            unfold Le
            by_cases q : Mt m A f k w * Mt m A f s p = Mt m A f s w * Mt m A f k p
            · refine .inr ⟨q, ?_⟩
              have : ¬ ((f s : Int) < (f k : Int)) := fun z => hw (.inr ⟨q, z⟩)
              omega
            · refine .inl ?_
              have : ¬ (Mt m A f s w * Mt m A f k p < Mt m A f k w * Mt m A f s p) := fun z => hw (.inl z)
              omega
          refine ⟨by omega, by omega, fun i hi hip => ?_⟩
          by_cases q : i = k
          · rw [q]; exact .inr ⟨rfl, Nat.le_refl _⟩
          · exact Le.trans (by omega) a2 hip lk (a3 i (by omega) hip)
theorem Lk.leaveP (h : Lk m w A T u bs f) {p : Nat} (hp : p < w) : (leaveP T bs p = none → ∀ i, i < m → Mt m A f i p ≤ 0) ∧ (∀ r, leaveP T bs p = some r → Lv m w A f p r) := by
  obtain ⟨h1, h2⟩ := h.leave hp m (Nat.le_refl m)
  have e : FR.leaveP T bs p = lvK T bs p m := by unfold FR.leaveP lvK; rw [h.bl]
  rw [e]
  refine ⟨h1, fun r hr => ?_⟩
  obtain ⟨a1, a2, a3⟩ := h2 r hr
  exact ⟨a1, a2, a3⟩
theorem turn_len (r p : Nat) : (turnT T u r p).length = T.length := by unfold turnT; simp
theorem turn_row {r p i : Nat} (hi : i < T.length) : (turnT T u r p).getD i [] = turnL T u r p i := by
  unfold turnT
  rw [List.getD_eq_getElem?_getD, List.getElem?_map, List.getElem?_range hi]
  rfl
theorem Lk.turnrow (h : Lk m w A T u bs f) {r p i : Nat} (hi : i < m + 1) (hr : r < m + 1) : (turnL T u r p i).length = w + 1 := by
  unfold turnL
  split
  · exact h.len hi
  · unfold turnRow
    rw [List.length_map, List.length_zip, h.len hr]
    have : (T.getD i default).length = w + 1 := h.len hi
    rw [this]
    exact Nat.min_self _
theorem zip_getD {a b : List Int} {j n : Nat} (ha : a.length = n) (hb : b.length = n) (hj : j < n) (g : Int × Int → Int) : ((a.zip b).map g).getD j 0 = g (a.getD j 0, b.getD j 0) := by
  have h1 : j < a.length := by omega
  have h2 : j < b.length := by omega
  rw [List.getD_eq_getElem?_getD, List.getElem?_map, List.getElem?_eq_getElem (by rw [List.length_zip]; omega), List.getD_eq_getElem?_getD, List.getD_eq_getElem?_getD, List.getElem?_eq_getElem h1, List.getElem?_eq_getElem h2]
  simp
theorem Lk.turn (h : Lk m w A T u bs f) (ok : Ok m w A f) {p r : Nat} (hp : p < w) (lv : Lv m w A f p r) : Lk m w A (turnT T u r p) (ent T r p) (bs.set r (p : Int)) (ub f r p) where
  rows := by rw [turn_len, h.rows]
  cols := fun l hl => by
    unfold turnT at hl
    obtain ⟨i, hi, e⟩ := List.mem_map.mp hl
    rw [← e]
    have := List.mem_range.mp hi
    exact h.turnrow (by rw [← h.rows]; exact this) (by have := lv.lt; omega)
  e := fun i hi j hj => by
    have hr := lv.lt
    have e1 : ent (turnT T u r p) i j = (turnL T u r p i).getD j 0 := by
      unfold FR.ent
      rw [turn_row (by rw [h.rows]; exact hi)]
    rw [e1]
    unfold turnL
    by_cases q : i = r
    · rw [if_pos q, q, piv_row hr, ← h.e r (by omega) j hj]
      rfl
    · rw [if_neg q]
      unfold turnRow
      rw [zip_getD (a := T.getD i default) (b := T.getD r []) (n := w + 1) (j := j) (h.len hi) (h.len (by omega)) (by omega)]
      show (ent T i j * ent T r p - ent T i p * ent T r j) / u = _
      rw [h.e i hi j hj, h.e r (by omega) p (by omega), h.e i hi p (by omega), h.e r (by omega) j hj, ← piv_M ok hr hp lv.pos hi q hj, h.u]
      exact Int.mul_ediv_cancel_left _ (by have := ok.pos; omega)
  u := by rw [piv_D lv.lt, h.e r (by have := lv.lt; omega) p (by omega)]
  bl := by rw [List.length_set, h.bl]
  b := fun k hk => by
    unfold ub
    rw [List.getD_eq_getElem?_getD, List.getElem?_set]
    by_cases q : k = r
    · subst q
      rw [if_pos rfl, if_pos rfl, if_pos (by rw [h.bl]; exact hk)]
      rfl
    · rw [if_neg (fun z => q z.symm), if_neg q, ← List.getD_eq_getElem?_getD, h.b k hk]
/-- all is small -/
structure Sm (m w : Nat) (A : Nat → Nat → Int) : Prop where
  B : ∃ B : Nat, 1 ≤ B ∧ (∀ j, j ≤ w → ∀ l, l < m + 1 → (A j l).natAbs ≤ B) ∧ (m + 1) ^ (m + 1) * B ^ (m + 1) < 2 ^ 800
  m : m + 1 ≤ 100
  w : w + 1 ≤ 1000
theorem Sm.Mt (s : Sm m w A) (ok : Ok m w A f) {i j : Nat} (hi : i < m + 1) (hj : j ≤ w) : (Mt m A f i j).natAbs < 2 ^ 800 := by
  obtain ⟨B, h1, h2, h3⟩ := s.B
  refine Nat.lt_of_le_of_lt (det_abs fun a ha b hb => ?_) h3
  unfold up
  split
  · exact h2 j hj b hb
  · unfold bv
    split
    · rename_i h
      exact h2 _ (Nat.le_of_lt (ok.lt a h)) b hb
    · unfold E
      split
      · exact h1
      · exact Nat.zero_le _
theorem Sm.Dt (s : Sm m w A) (ok : Ok m w A f) : (Dt m A f).natAbs < 2 ^ 800 := by
  obtain ⟨B, h1, h2, h3⟩ := s.B
  refine Nat.lt_of_le_of_lt (det_abs fun a ha b hb => ?_) h3
  unfold bv
  split
  · rename_i h
    exact h2 _ (Nat.le_of_lt (ok.lt a h)) b hb
  · unfold E
    split
    · exact h1
    · exact Nat.zero_le _
theorem Lk.good (h : Lk m w A T u bs f) (ok : Ok m w A f) (s : Sm m w A) : Good (w + 1) (m + 1) T u bs where
  gt := {
    rows := h.rows
    cols := h.cols
    ms := s.m
    ws := s.w
    wp := by omega
    mp := by omega
    lt := fun l hl x hx => by
      obtain ⟨i, hi, e⟩ := List.getElem_of_mem hl
      obtain ⟨j, hj, e2⟩ := List.getElem_of_mem hx
      have hi' : i < m + 1 := by rw [← h.rows]; exact hi
      have hj' : j < w + 1 := by rw [← h.cols l hl]; exact hj
      have e3 : x = ent T i j := by
        unfold FR.ent
        rw [List.getD_eq_getElem?_getD, List.getD_eq_getElem?_getD, List.getElem?_eq_getElem hi, e]
        simp [List.getElem?_eq_getElem hj, e2]
      rw [e3, h.e i hi' j (by omega)]
      exact s.Mt ok hi' (by omega) }
  len := by rw [h.bl]
  pos := by rw [h.u]; exact ok.pos
  lt := by rw [h.u]; exact s.Dt ok
/-- the end of the turning -/
structure Fin (m w : Nat) (A : Nat → Nat → Int) (T : Tab) (u : Int) (bs : List Int) (q : Option Nat) (f : Nat → Nat) : Prop where
  lk : Lk m w A T u bs f
  ok : Ok m w A f
  dn : q = none → ∀ j, j < w → 0 ≤ Mt m A f m j
  ls : ∀ p, q = some p → En m w A f p ∧ ∀ i, i < m → Mt m A f i p ≤ 0
theorem run_ex (s : Sm m w A) : ∀ {f : Nat → Nat}, Acc (Nxt m w A) f → ∀ {T : Tab} {u : Int} {bs : List Int}, Ok m w A f → Lk m w A T u bs f → ∃ T' u' bs' q n f', FR.Run (w + 1) (m + 1) T u bs T' u' bs' q n ∧ Fin m w A T' u' bs' q f' := by
  intro f acc
  induction acc with
  | intro f _ ih =>
    intro T u bs ok lk
    have g := lk.good ok s
    cases he : enterP T with
    | none =>
      exact ⟨T, u, bs, none, 0, f, .done g he, lk, ok, fun _ => lk.entP.2 he, fun p hp => by cases hp⟩
    | some p =>
      have en := lk.entP.1 p he
      cases hl : FR.leaveP T bs p with
      | none =>
        refine ⟨T, u, bs, some p, 1, f, .lost g he (by have := en.lt; omega) hl, lk, ok, fun h => (by cases h), fun q hq => ?_⟩
        cases hq
        exact ⟨en, (lk.leaveP en.lt).1 hl⟩
      | some r =>
        have lv := (lk.leaveP en.lt).2 r hl
        obtain ⟨T', u', bs', q, n, f', h1, h2⟩ := ih (ub f r p) ⟨p, r, en, lv, rfl⟩ (ok.piv en.lt lv) (lk.turn ok en.lt lv)
        exact ⟨T', u', bs', q, n + 1, f', .turn g he (by have := en.lt; omega) hl h1, h2⟩
end
end SL

end
section
set_option Elab.async false
set_option linter.all false
set_option maxRecDepth 100000
set_option maxHeartbeats 400000
set_option exponentiation.threshold 20000
namespace SL
open FR DM
/-! sums -/
theorem S_front (n : Nat) (f : Nat → Int) : S (n + 1) f = f 0 + S n (fun k => f (k + 1)) := by
  induction n with
  | zero => simp [S]
  | succ n ih => rw [S, ih]; simp only [S]; omega
theorem S_split (n k : Nat) (f : Nat → Int) : S (n + k) f = S n f + S k (fun i => f (n + i)) := by
  induction k with
  | zero => simp [S]
  | succ k ih => rw [← Nat.add_assoc, S, ih]; simp only [S]; omega
theorem S_sub (n : Nat) (f g : Nat → Int) : S n (fun k => f k - g k) = S n f - S n g := by
  induction n with
  | zero => rfl
  | succ n ih => simp only [S, ih]; omega
theorem S_le {n : Nat} {f g : Nat → Int} (h : ∀ k, k < n → f k ≤ g k) : S n f ≤ S n g := by
  have := S_nonneg (n := n) (f := fun k => g k - f k) fun k hk => by have := h k hk; omega
  rw [S_sub] at this
  omega
theorem S_fib {m w : Nat} {f : Nat → Nat} (hf : ∀ k, k < m → f k < w) (g a : Nat → Int) : S w (fun v => S m (fun k => if f k = v then g k else 0) * a v) = S m (fun k => g k * a (f k)) := by
  have e : ∀ v, S m (fun k => if f k = v then g k else 0) * a v = S m (fun k => if f k = v then g k * a (f k) else 0) := fun v => by
    rw [Int.mul_comm, ← S_mul]
    refine S_congr fun k _ => ?_
    split
    · rename_i h; rw [h, Int.mul_comm]
    · rw [Int.mul_zero]
  rw [S_congr fun v _ => e v, S_comm]
  refine S_congr fun k hk => ?_
  rw [S_one (hf k hk)]
  · simp
  · intro v _ hv
    rw [if_neg (fun q => hv q.symm)]
theorem gapp {α : Type} (l l' : List α) (z : α) (n : Nat) (h : n < l.length) : (l ++ l').getD n z = l.getD n z := by
  rw [List.getD_eq_getElem?_getD, List.getElem?_append_left h, ← List.getD_eq_getElem?_getD]
theorem gappr {α : Type} (l l' : List α) (z : α) (n : Nat) (h : l.length ≤ n) : (l ++ l').getD n z = l'.getD (n - l.length) z := by
  rw [List.getD_eq_getElem?_getD, List.getElem?_append_right h, ← List.getD_eq_getElem?_getD]
/-! the first table -/
def ga (c : WC) (r : Nat) : Int := c.g.getD r 0
section
variable {cs : List WC} {m : Nat}
def Af (cs : List WC) (many : Nat) : Nat → Nat → Int := fun j l => ent (firstT cs many) l j
theorem row_i {l : Nat} (hl : l < m) : (firstT cs (m + 1)).getD l [] = row1 cs (m + 1) l := by
  unfold firstT
  rw [Nat.add_sub_cancel, List.append_assoc, gapp _ _ _ _ (by simp; exact hl), List.getD_eq_getElem?_getD, List.getElem?_map, List.getElem?_range hl]
  rfl
theorem row_m : (firstT cs (m + 1)).getD m [] = row2 cs (m + 1) := by
  unfold firstT
  rw [Nat.add_sub_cancel, List.append_assoc, gappr _ _ _ _ (by simp)]
  simp
theorem row_l : (firstT cs (m + 1)).getD (m + 1) [] = row3 cs (m + 1) := by
  unfold firstT
  rw [Nat.add_sub_cancel, List.append_assoc, gappr _ _ _ _ (by simp)]
  simp
theorem getD_map {α β : Type} {z : α} {y : β} {f : α → β} {l : List α} {v : Nat} (h : v < l.length) : (l.map f).getD v y = f (l.getD v z) := by
  rw [List.getD_eq_getElem?_getD, List.getD_eq_getElem?_getD, List.getElem?_map, List.getElem?_eq_getElem h]
  rfl
theorem zs_getD (n k : Nat) : (zs n).getD k 0 = 0 := by
  have : ∀ x ∈ zs n, x = 0 := fun x hx => by
    unfold zs at hx
    obtain ⟨l, hl, hx⟩ := List.mem_flatten.mp hx
    rw [(List.mem_replicate.mp hl).2] at hx
    simpa using hx
  rw [List.getD_eq_getElem?_getD]
  cases e : (zs n)[k]? with
  | none => rfl
  | some x => exact this x (List.mem_of_getElem? e)
theorem A_col {v : Nat} (hv : v < cs.length) : (∀ l, l < m → Af cs (m + 1) v l = ga (cs.getD v default) 0 - ga (cs.getD v default) (l + 1)) ∧ Af cs (m + 1) v m = (cs.getD v default).ri ∧ Af cs (m + 1) v (m + 1) = (cs.getD v default).lt - ga (cs.getD v default) 0 := by
  refine ⟨fun l hl => ?_, ?_, ?_⟩ <;> unfold Af FR.ent
  · rw [row_i hl]
    unfold row1
    rw [List.append_assoc, gapp _ _ _ _ (by simpa using hv), getD_map (z := default) hv]
    simp only [ga, Nat.add_comm 1 l]
  · rw [row_m]
    unfold row2
    rw [List.append_assoc, gapp _ _ _ _ (by simpa using hv), getD_map (z := default) hv]
  · rw [row_l]
    unfold row3
    rw [List.append_assoc, List.append_assoc, gapp _ _ _ _ (by simpa using hv), getD_map (z := default) hv]
    rfl
theorem A_mid : (∀ l, l < m → Af cs (m + 1) cs.length l = -1) ∧ Af cs (m + 1) cs.length m = 0 ∧ Af cs (m + 1) cs.length (m + 1) = 1 := by
  refine ⟨fun l hl => ?_, ?_, ?_⟩ <;> unfold Af FR.ent
  · rw [row_i hl]
    unfold row1
    rw [List.append_assoc, gappr _ _ _ _ (by simp)]
    simp
  · rw [row_m]
    unfold row2
    rw [List.append_assoc, gappr _ _ _ _ (by simp), List.length_map, Nat.sub_self, gapp _ _ _ _ (by rw [zs_length]; omega), zs_getD]
  · rw [row_l]
    unfold row3
    rw [List.append_assoc, List.append_assoc, gappr _ _ _ _ (by simp)]
    simp
theorem A_unit {k l : Nat} (hk : k < m + 1) (hl : l < m + 2) : Af cs (m + 1) (cs.length + 1 + k) l = E k l := by
  unfold Af FR.ent
  by_cases h1 : l < m
  · rw [row_i h1]
    unfold row1 E
    rw [List.append_assoc, gappr _ _ _ _ (by simp; omega), List.length_map]
    have e : cs.length + 1 + k - cs.length = k + 1 := by omega
    rw [e, List.append_assoc, List.singleton_append, List.getD_cons_succ]
    unfold idl
    rw [Nat.add_sub_cancel]
    by_cases h2 : k < m
    · rw [gapp _ _ _ _ (by simp; exact h2), List.getD_eq_getElem?_getD, List.getElem?_map, List.getElem?_range h2]
      by_cases q : k = l
      · subst q; simp
      · have : ¬ ((1 : Int) + (k : Int) = 1 + (l : Int)) := by omega
        simp [q]
        omega
    · have e2 : k = m := by omega
      rw [gappr _ _ _ _ (by simp; omega)]
      have : ¬ k = l := by omega
      rw [if_neg this]
      simp [e2]
  · by_cases h3 : l = m
    · subst h3
      rw [row_m]
      unfold row2 E
      rw [List.append_assoc, gappr _ _ _ _ (by simp; omega), List.length_map]
      have e : cs.length + 1 + k - cs.length = k + 1 := by omega
      rw [e]
      by_cases q : k = l
      · subst q
        rw [gappr _ _ _ _ (by rw [zs_length]; omega), zs_length, if_pos rfl]
        simp
      · rw [gapp _ _ _ _ (by rw [zs_length]; omega), zs_getD, if_neg q]
    · have e3 : l = m + 1 := by omega
      subst e3
      rw [row_l]
      unfold row3 E
      rw [List.append_assoc, List.append_assoc, gappr _ _ _ _ (by simp; omega), List.length_map]
      have e : cs.length + 1 + k - cs.length = k + 1 := by omega
      rw [e, List.singleton_append, List.getD_cons_succ, gapp _ _ _ _ (by rw [zs_length]; omega), zs_getD, if_neg (by omega)]
theorem A_rhs {l : Nat} (hl : l < m + 2) : Af cs (m + 1) (cs.length + 1 + (m + 1)) l = E m l := by
  unfold Af FR.ent
  have e : cs.length + 1 + (m + 1) - cs.length = m + 2 := by omega
  by_cases h1 : l < m
  · rw [row_i h1]
    unfold row1 E
    rw [List.append_assoc, gappr _ _ _ _ (by simp; omega), List.length_map, e, List.append_assoc, List.singleton_append, List.getD_cons_succ]
    unfold idl
    rw [Nat.add_sub_cancel, gappr _ _ _ _ (by simp), if_neg (by omega)]
    simp
  · by_cases h3 : l = m
    · subst h3
      rw [row_m]
      unfold row2 E
      rw [List.append_assoc, gappr _ _ _ _ (by simp; omega), List.length_map, e, gappr _ _ _ _ (by rw [zs_length]; omega), zs_length, if_pos rfl]
      simp
    · have e3 : l = m + 1 := by omega
      subst e3
      rw [row_l]
      unfold row3 E
      rw [List.append_assoc, List.append_assoc, gappr _ _ _ _ (by simp; omega), List.length_map, e, List.singleton_append, List.getD_cons_succ, gappr _ _ _ _ (by rw [zs_length]; omega), zs_length, if_neg (by omega)]
      simp
theorem firstT_length : (firstT cs (m + 1)).length = m + 2 := by unfold firstT; simp
theorem firstT_row {l : Nat} (hl : l < m + 2) : ((firstT cs (m + 1)).getD l []).length = cs.length + 1 + (m + 1) + 1 := by
  by_cases h1 : l < m
  · rw [row_i h1]
    unfold row1 idl
    simp
    omega
  · by_cases h3 : l = m
    · subst h3
      rw [row_m]
      unfold row2
      simp [zs_length]
      omega
    · have e3 : l = m + 1 := by omega
      subst e3
      rw [row_l]
      unfold row3
      simp [zs_length]
      omega
def f0 (n : Nat) : Nat → Nat := fun k => n + 1 + k
theorem bv0 : ∀ k, k < m + 2 → ∀ l, l < m + 2 → bv (m + 1) (Af cs (m + 1)) (f0 cs.length) k l = E k l := fun k hk l hl => by
  unfold bv f0
  split
  · rename_i h; exact A_unit h hl
  · rfl
theorem Dt0 : Dt (m + 1) (Af cs (m + 1)) (f0 cs.length) = 1 := by
  unfold Dt
  rw [det_congr bv0, det_E]
theorem Mt0 {i : Nat} (hi : i < m + 2) (j : Nat) : Mt (m + 1) (Af cs (m + 1)) (f0 cs.length) i j = Af cs (m + 1) j i := by
  unfold Mt
  have e : det (m + 2) (up (bv (m + 1) (Af cs (m + 1)) (f0 cs.length)) i (Af cs (m + 1) j)) = det (m + 2) (up E i fun l => S (m + 2) fun k => Af cs (m + 1) j k * E k l) := by
    refine det_congr fun a ha b hb => ?_
    unfold up
    split
    · show _ = S (m + 2) fun k => Af cs (m + 1) j k * E k b
      rw [S_one hb]
      · unfold E; simp
      · intro k hk hn
        unfold E
        rw [if_neg hn, Int.mul_zero]
    · exact bv0 a ha b hb
  rw [e, det_comb _ hi, det_E, Int.mul_one]
theorem ok0 : Ok (m + 1) (cs.length + 1 + (m + 1)) (Af cs (m + 1)) (f0 cs.length) where
  pos := by rw [Dt0]; decide
  lt := fun k hk => by unfold f0; omega
  eq := fun j hj l hl => by
    rw [Dt0, Int.one_mul, S_congr (g := fun k => Af cs (m + 1) j k * E k l) fun k hk => by rw [Mt0 hk, bv0 k hk l hl]]
    rw [S_one hl]
    · unfold E; simp
    · intro k hk hn
      unfold E
      rw [if_neg hn, Int.mul_zero]
  feas := fun i hi => by
    rw [Mt0 (by omega), A_rhs (by omega)]
    unfold E
    split <;> decide
theorem lk0 : Lk (m + 1) (cs.length + 1 + (m + 1)) (Af cs (m + 1)) (firstT cs (m + 1)) 1 (bases0 cs.length (m + 1)) (f0 cs.length) where
  rows := firstT_length
  cols := fun r hr => by
    obtain ⟨i, hi, e⟩ := List.getElem_of_mem hr
    have := firstT_row (cs := cs) (m := m) (l := i) (by rw [← firstT_length (cs := cs)]; exact hi)
    rw [List.getD_eq_getElem?_getD, List.getElem?_eq_getElem hi, e] at this
    exact this
  e := fun i hi j hj => by rw [Mt0 hi]; rfl
  u := Dt0.symm
  bl := by unfold bases0; simp
  b := fun k hk => by
    unfold bases0 f0
    rw [List.getD_eq_getElem?_getD, List.getElem?_map, List.getElem?_range hk]
    show (cs.length : Int) + (1 + (k : Int)) = ((cs.length + 1 + k : Nat) : Int)
    omega
/-- a lot of the variables that the rows balance -/
theorem bal {Y : Nat → Int} {x d : Int} (h : ∀ l, l < m + 2 → S (cs.length + 1 + (m + 1)) (fun v => Y v * Af cs (m + 1) v l) + x * E (m + 1) l = d * E m l) (nn : ∀ v, v < cs.length + 1 + (m + 1) → 0 ≤ Y v) :
    (∀ r, r < m + 1 → x ≤ S cs.length (fun v => Y v * ga (cs.getD v default) r) - S cs.length (fun v => Y v * (cs.getD v default).lt)) ∧ S cs.length (fun v => Y v * (cs.getD v default).ri) + Y (cs.length + 1 + m) = d := by
  have e : ∀ l, l < m + 2 → S cs.length (fun v => Y v * Af cs (m + 1) v l) + Y cs.length * Af cs (m + 1) cs.length l + S (m + 1) (fun k => Y (cs.length + 1 + k) * E k l) + x * E (m + 1) l = d * E m l := fun l hl => by
    rw [← h l hl, S_split (cs.length + 1) (m + 1), S_congr (f := fun i => Y (cs.length + 1 + i) * Af cs (m + 1) (cs.length + 1 + i) l) fun k hk => by rw [A_unit hk hl]]
    rfl
  have e0 := e (m + 1) (by omega)
  rw [S_congr fun v hv => by rw [(A_col hv).2.2], A_mid.2.2, S_congr (f := fun k => Y (cs.length + 1 + k) * E k (m + 1)) (g := fun _ => 0) fun k hk => by unfold E; rw [if_neg (by omega), Int.mul_zero], S_zero] at e0
  have x1 : E (m + 1) (m + 1) = 1 := by unfold E; simp
  have x2 : E m (m + 1) = 0 := by unfold E; rw [if_neg (by omega)]
  rw [x1, x2, S_congr (g := fun v => Y v * (cs.getD v default).lt - Y v * ga (cs.getD v default) 0) fun v hv => Int.mul_sub _ _ _, S_sub] at e0
  refine ⟨fun r hr => ?_, ?_⟩
  · have n0 := nn cs.length (by omega)
    cases r with
    | zero => omega
    | succ r =>
      have e1 := e r (by omega)
      rw [S_congr fun v hv => by rw [(A_col hv).1 r (by omega)], A_mid.1 r (by omega), S_one (r := r) (by omega) (fun k => Y (cs.length + 1 + k) * E k r) fun k hk hn => by unfold E; rw [if_neg hn, Int.mul_zero]] at e1
      have y1 : E (m + 1) r = 0 := by unfold E; rw [if_neg (by omega)]
      have y2 : E m r = 0 := by unfold E; rw [if_neg (by omega)]
      have y3 : E r r = 1 := by unfold E; simp
      rw [y1, y2, y3, S_congr (g := fun v => Y v * ga (cs.getD v default) 0 - Y v * ga (cs.getD v default) (r + 1)) fun v hv => Int.mul_sub _ _ _, S_sub] at e1
      have n1 := nn (cs.length + 1 + r) (by omega)
      omega
  · have e1 := e m (by omega)
    rw [S_congr fun v hv => by rw [(A_col hv).2.1], A_mid.2.1, S_one (r := m) (by omega) (fun k => Y (cs.length + 1 + k) * E k m) fun k hk hn => by unfold E; rw [if_neg hn, Int.mul_zero]] at e1
    have y1 : E (m + 1) m = 0 := by unfold E; rw [if_neg (by omega)]
    have y3 : E m m = 1 := by unfold E; simp
    rw [y1, y3] at e1
    omega
end
/-! the last table -/
section
variable {cs : List WC} {m : Nat} {f : Nat → Nat}
abbrev MM (cs : List WC) (m : Nat) (f : Nat → Nat) (i j : Nat) : Int := Mt (m + 1) (Af cs (m + 1)) f i j
abbrev DD (cs : List WC) (m : Nat) (f : Nat → Nat) : Int := Dt (m + 1) (Af cs (m + 1)) f
/-- what lies on a variable, behind a column of the table -/
def lay (m : Nat) (f : Nat → Nat) (g : Nat → Int) (v : Nat) : Int := S m (fun k => if f k = v then g k else 0)
theorem lay_nn {g : Nat → Int} (h : ∀ k, k < m → 0 ≤ g k) (v : Nat) : 0 ≤ lay m f g v := S_nonneg fun k hk => by
  split
  · exact h k hk
  · exact Int.le_refl 0
theorem lay_at {g : Nat → Int} {k : Nat} (hk : k < m) (inj : ∀ i, i < m → f i = f k → i = k) : lay m f g (f k) = g k := by
  unfold lay
  rw [S_one hk]
  · simp
  · intro i hi hn
    rw [if_neg fun q => hn (inj i hi q)]
theorem lay_no {g : Nat → Int} {v : Nat} (h : ∀ k, k < m → f k ≠ v) : lay m f g v = 0 := by
  unfold lay
  rw [S_congr (g := fun _ => 0) fun k hk => if_neg (h k hk), S_zero]
abbrev W (cs : List WC) (m : Nat) : Nat := cs.length + 1 + (m + 1)
theorem lay_eq (ok : Ok (m + 1) (W cs m) (Af cs (m + 1)) f) {j : Nat} (hj : j ≤ W cs m) {l : Nat} (hl : l < m + 2) :
    S (W cs m) (fun v => lay (m + 1) f (fun k => MM cs m f k j) v * Af cs (m + 1) v l) + MM cs m f (m + 1) j * E (m + 1) l = DD cs m f * Af cs (m + 1) j l := by
  have e : S (W cs m) (fun v => lay (m + 1) f (fun k => MM cs m f k j) v * Af cs (m + 1) v l) = S (m + 1) (fun k => MM cs m f k j * Af cs (m + 1) (f k) l) := by
    unfold lay
    exact S_fib (m := m + 1) (w := W cs m) (f := f) (fun k hk => ok.lt k hk) (fun k => MM cs m f k j) (fun v => Af cs (m + 1) v l)
  rw [e, ← ok.eq j hj l hl]
  simp only [S]
  have r1 : bv (m + 1) (Af cs (m + 1)) f (m + 1) l = E (m + 1) l := by unfold bv; simp
  have r2 : bv (m + 1) (Af cs (m + 1)) f m l = Af cs (m + 1) (f m) l := by unfold bv; simp
  rw [r1, r2]
  congr 2
  refine S_congr fun k hk => ?_
  rw [bv_row (by omega)]
/-- the last row, out of its places behind the unit columns -/
theorem dual (j : Nat) : MM cs m f (m + 1) j = S (m + 1) (fun l => MM cs m f (m + 1) (cs.length + 1 + l) * Af cs (m + 1) j l) + DD cs m f * Af cs (m + 1) j (m + 1) := by
  have e : MM cs m f (m + 1) j = det (m + 2) (up (bv (m + 1) (Af cs (m + 1)) f) (m + 1) fun l => S (m + 2) fun k => Af cs (m + 1) j k * E k l) := by
    refine det_congr fun a ha b hb => ?_
    unfold up
    split
    · show _ = S (m + 2) fun k => Af cs (m + 1) j k * E k b
      rw [S_one hb]
      · unfold E; simp
      · intro k hk hn
        unfold E
        rw [if_neg hn, Int.mul_zero]
    · rfl
  rw [e, det_sum _ (by omega)]
  rw [S]
  congr 1
  · refine S_congr fun k hk => ?_
    rw [Int.mul_comm]
    congr 1
    refine det_congr fun a ha b hb => ?_
    unfold up
    split
    · exact (A_unit hk hb).symm
    · rfl
  · rw [Int.mul_comm]
    congr 1
    have r1 : E (m + 1) = bv (m + 1) (Af cs (m + 1)) f (m + 1) := by funext l; unfold bv; simp
    rw [r1, up_self]
    rfl
theorem price_eq : MM cs m f (m + 1) (W cs m) = MM cs m f (m + 1) (cs.length + 1 + m) := by
  rw [dual, A_rhs (by omega), S_congr fun l hl => by rw [A_rhs (by omega)], S_one (r := m) (by omega) _ fun k hk hn => by unfold E; rw [if_neg (fun q => hn q.symm), Int.mul_zero]]
  unfold E
  simp
theorem share0_eq : MM cs m f (m + 1) cs.length = DD cs m f - S m (fun l => MM cs m f (m + 1) (cs.length + 1 + l)) := by
  rw [dual, A_mid.2.2, S, A_mid.2.1, S_congr (g := fun l => - MM cs m f (m + 1) (cs.length + 1 + l)) fun l hl => by rw [A_mid.1 l hl]; omega, S_neg]
  omega
def sN (cs : List WC) (m : Nat) (f : Nat → Nat) (r : Nat) : Int := MM cs m f (m + 1) (cs.length + r)
theorem shares_sum : S (m + 1) (sN cs m f) = DD cs m f := by
  rw [S_front]
  have : S m (fun k => sN cs m f (k + 1)) = S m (fun l => MM cs m f (m + 1) (cs.length + 1 + l)) := S_congr fun k hk => by
    unfold sN
    have e : cs.length + (k + 1) = cs.length + 1 + k := by omega
    rw [e]
  rw [this]
  have z0 : sN cs m f 0 = _ := share0_eq (cs := cs) (m := m) (f := f)
  rw [z0]
  omega
theorem pays (opt : ∀ j, j < W cs m → 0 ≤ MM cs m f (m + 1) j) {v : Nat} (hv : v < cs.length) :
    S (m + 1) (fun r => sN cs m f r * ga (cs.getD v default) r) ≤ MM cs m f (m + 1) (W cs m) * (cs.getD v default).ri + DD cs m f * (cs.getD v default).lt := by
  have h := opt v (by unfold W; omega)
  rw [dual, S, (A_col hv).2.1, (A_col hv).2.2, S_congr (g := fun l => MM cs m f (m + 1) (cs.length + 1 + l) * ga (cs.getD v default) 0 - MM cs m f (m + 1) (cs.length + 1 + l) * ga (cs.getD v default) (l + 1)) fun l hl => by rw [(A_col hv).1 l hl, Int.mul_sub], S_sub, S_congr (g := fun l => ga (cs.getD v default) 0 * MM cs m f (m + 1) (cs.length + 1 + l)) fun l hl => Int.mul_comm _ _, S_mul] at h
  rw [S_front, price_eq]
  have : S m (fun k => sN cs m f (k + 1) * ga (cs.getD v default) (k + 1)) = S m (fun l => MM cs m f (m + 1) (cs.length + 1 + l) * ga (cs.getD v default) (l + 1)) := S_congr fun k hk => by
    unfold sN
    have e : cs.length + (k + 1) = cs.length + 1 + k := by omega
    rw [e]
  rw [this]
  have z0 : sN cs m f 0 = _ := share0_eq (cs := cs) (m := m) (f := f)
  rw [z0]
  grind
end
end SL

end
section
set_option Elab.async false
set_option linter.all false
set_option maxRecDepth 100000
set_option maxHeartbeats 400000
set_option exponentiation.threshold 20000
namespace SL
open FR DM
/-! sums of fractions -/
def sumR : List Rat → Rat
  | [] => 0
  | q :: qs => q + sumR qs
theorem sumR_app (a b : List Rat) : sumR (a ++ b) = sumR a + sumR b := by
  induction a with
  | nil => simp [sumR]; grind
  | cons x a ih => simp only [List.cons_append, sumR, ih]; grind
theorem sumR_add {α : Type} (l : List α) (f g : α → Rat) : sumR (l.map fun x => f x + g x) = sumR (l.map f) + sumR (l.map g) := by
  induction l with
  | nil => simp [sumR]; grind
  | cons x a ih => simp only [List.map_cons, sumR, ih]; grind
theorem sumR_mul {α : Type} (l : List α) (c : Rat) (f : α → Rat) : sumR (l.map fun x => c * f x) = c * sumR (l.map f) := by
  induction l with
  | nil => simp [sumR]
  | cons x a ih => simp only [List.map_cons, sumR, ih]; grind
theorem sumR_congr {α : Type} {l : List α} {f g : α → Rat} (h : ∀ x ∈ l, f x = g x) : sumR (l.map f) = sumR (l.map g) := by
  rw [List.map_congr_left h]
theorem sumR_zero {α : Type} {l : List α} {f : α → Rat} (h : ∀ x ∈ l, f x = 0) : sumR (l.map f) = 0 := by
  induction l with
  | nil => rfl
  | cons x a ih => simp only [List.map_cons, sumR, ih fun y hy => h y (List.mem_cons_of_mem _ hy), h x List.mem_cons_self]; grind
theorem sumR_le {α : Type} {l : List α} {f g : α → Rat} (h : ∀ x ∈ l, f x ≤ g x) : sumR (l.map f) ≤ sumR (l.map g) := by
  induction l with
  | nil => simp [sumR]
  | cons x a ih =>
    have h1 := ih fun y hy => h y (List.mem_cons_of_mem _ hy)
    have h2 := h x List.mem_cons_self
    simp only [List.map_cons, sumR]
    grind
theorem sumR_comm {α β : Type} (l : List α) (k : List β) (f : α → β → Rat) : sumR (l.map fun x => sumR (k.map fun y => f x y)) = sumR (k.map fun y => sumR (l.map fun x => f x y)) := by
  induction l with
  | nil => simp only [List.map_nil, sumR]; exact (sumR_zero fun _ _ => rfl).symm
  | cons x a ih => simp only [List.map_cons, sumR, ih]; rw [← sumR_add]
theorem zip_range {α β : Type} {l : List α} {r : List β} {n : Nat} (hl : l.length = n) (hr : r.length = n) (z : α) (y : β) : l.zip r = (List.range n).map fun i => (l.getD i z, r.getD i y) := by
  refine List.ext_getElem (by simp [hl, hr]) fun i h1 h2 => ?_
  rw [List.length_zip] at h1
  simp only [List.getElem_zip, List.getElem_map, List.getElem_range]
  rw [List.getD_eq_getElem?_getD, List.getD_eq_getElem?_getD, List.getElem?_eq_getElem (by omega), List.getElem?_eq_getElem (by omega)]
  rfl
theorem sumR_S {n : Nat} {F : Nat → Rat} {g : Nat → Int} {d : Rat} (h : ∀ v, v < n → F v = (g v : Rat) / d) : sumR ((List.range n).map F) = (S n g : Rat) / d := by
  induction n with
  | zero => simp only [List.range_zero, List.map_nil, sumR, S]; grind
  | succ n ih =>
    rw [List.range_succ, List.map_append, sumR_app, ih fun v hv => h v (by omega)]
    simp only [List.map_cons, List.map_nil, sumR, S, h n (by omega)]
    rw [Rat.intCast_add]
    grind
def dot (xs ys : List Rat) : Rat := sumR ((xs.zip ys).map fun p => p.1 * p.2)
def ldot (ld : List Rat) (cols : List Col) (h : Col → Rat) : Rat := sumR ((ld.zip cols).map fun p => p.1 * h p.2)
def worth (ld : List Rat) (cols : List Col) (r : Nat) : Rat := ldot ld cols (fun c => c.g.getD r default) - ldot ld cols (·.lt)
/-- shares that pay -/
structure Pays (cols : List Col) (many : Nat) (c : Rat) (sh : List Rat) : Prop where
  len : sh.length = many
  nn : ∀ s ∈ sh, 0 ≤ s
  one : sumR sh = 1
  c0 : 0 ≤ c
  pay : ∀ col ∈ cols, dot sh col.g ≤ c * col.ri + col.lt
/-- loads -/
structure Loads (cols : List Col) (many : Nat) (ld : List Rat) (x : Rat) : Prop where
  len : ld.length = cols.length
  nn : ∀ s ∈ ld, 0 ≤ s
  wo : ∀ r, r < many → x ≤ worth ld cols r
structure KeptOK (cols : List Col) (many : Nat) (c : Rat) (sh ld : List Rat) : Prop where
  pays : Pays cols many c sh
  loads : Loads cols many ld c
  rise : ldot ld cols (·.ri) = 1 ∨ (c = 0 ∧ ∀ l ∈ ld, l = 0)
structure LostOK (cols : List Col) (many : Nat) (ld : List Rat) : Prop where
  loads : Loads cols many ld 1
  rise : ldot ld cols (·.ri) = 0
theorem range_getD {α : Type} (l : List α) (z : α) : (List.range l.length).map (fun i => l.getD i z) = l := by
  refine List.ext_getElem (by simp) fun i h1 h2 => ?_
  simp only [List.getElem_map, List.getElem_range]
  rw [List.getD_eq_getElem?_getD, List.getElem?_eq_getElem h2]
  rfl
theorem weak {cols : List Col} {many : Nat} {c x : Rat} {sh ld : List Rat} (hg : ∀ col ∈ cols, col.g.length = many) (p : Pays cols many c sh) (l : Loads cols many ld x) : x ≤ c * ldot ld cols (·.ri) := by
  have hs : sumR ((List.range many).map fun r => sh.getD r 0) = 1 := by rw [← p.one, ← p.len, range_getD]
  have hn : ∀ r, 0 ≤ sh.getD r 0 := fun r => by
    rw [List.getD_eq_getElem?_getD]
    cases e : sh[r]? with
    | none => exact Rat.le_refl
    | some y => exact p.nn y (List.mem_of_getElem? e)
  have h1 : x ≤ sumR ((List.range many).map fun r => sh.getD r 0 * worth ld cols r) := by
    have : sumR ((List.range many).map fun r => x * sh.getD r 0) ≤ sumR ((List.range many).map fun r => sh.getD r 0 * worth ld cols r) := sumR_le fun r hr => by
      have := Rat.mul_le_mul_of_nonneg_left (l.wo r (List.mem_range.mp hr)) (hn r)
      grind
    rw [sumR_mul, hs] at this
    grind
  have h2 : sumR ((List.range many).map fun r => sh.getD r 0 * worth ld cols r) = sumR ((ld.zip cols).map fun p => p.1 * (dot sh p.2.g - p.2.lt)) := by
    have e1 : ∀ r, sh.getD r 0 * worth ld cols r = sumR ((ld.zip cols).map fun p => sh.getD r 0 * (p.1 * (p.2.g.getD r default - p.2.lt))) := fun r => by
      rw [sumR_mul]
      congr 1
      unfold worth ldot
      have : sumR ((ld.zip cols).map fun p => p.1 * (p.2.g.getD r default - p.2.lt)) + sumR ((ld.zip cols).map fun p => p.1 * p.2.lt) = sumR ((ld.zip cols).map fun p => p.1 * p.2.g.getD r default) := by
        rw [← sumR_add]
        exact sumR_congr fun q _ => by grind
      grind
    rw [sumR_congr fun r _ => e1 r, sumR_comm]
    refine sumR_congr fun q hq => ?_
    have hq2 : q.2 ∈ cols := (List.of_mem_zip hq).2
    have e2 : dot sh q.2.g = sumR ((List.range many).map fun r => sh.getD r 0 * q.2.g.getD r default) := by
      unfold dot
      rw [zip_range p.len (hg _ hq2) 0 default, List.map_map]
      rfl
    have e3 : sumR ((List.range many).map fun r => sh.getD r 0 * (q.1 * (q.2.g.getD r default - q.2.lt))) + q.1 * q.2.lt * sumR ((List.range many).map fun r => sh.getD r 0) = q.1 * sumR ((List.range many).map fun r => sh.getD r 0 * q.2.g.getD r default) := by
      rw [← sumR_mul, ← sumR_mul, ← sumR_add]
      exact sumR_congr fun r _ => by grind
    rw [hs] at e3
    rw [e2]
    grind
  have h3 : sumR ((ld.zip cols).map fun p => p.1 * (dot sh p.2.g - p.2.lt)) ≤ sumR ((ld.zip cols).map fun p => c * (p.1 * p.2.ri)) := sumR_le fun q hq => by
    have m1 := (List.of_mem_zip hq).2
    have m2 := l.nn _ (List.of_mem_zip hq).1
    have a := p.pay _ m1
    have b : dot sh q.2.g - q.2.lt ≤ c * q.2.ri := by grind
    have := Rat.mul_le_mul_of_nonneg_left b m2
    grind
  rw [sumR_mul] at h3
  unfold ldot
  grind
theorem ldot_zero {ld : List Rat} {cols : List Col} {h : Col → Rat} (z : ∀ l ∈ ld, l = 0) : ldot ld cols h = 0 := sumR_zero fun q hq => by
  rw [z _ (List.of_mem_zip hq).1]
  grind
/-- the least c stays -/
theorem same_c {cols other : List Col} {many : Nat} {c c' : Rat} {sh ld sh' ld' : List Rat} (hg : ∀ col ∈ cols, col.g.length = many) (sub : ∀ col ∈ cols, col ∈ other) (h : KeptOK cols many c sh ld) (h' : KeptOK other many c' sh' ld') : c ≤ c' := by
  rcases h.rise with r | ⟨r, _⟩
  · have := weak hg (p := (⟨h'.pays.len, h'.pays.nn, h'.pays.one, h'.pays.c0, fun col hc => h'.pays.pay col (sub col hc)⟩ : Pays cols many c' sh')) h.loads
    rw [r] at this
    grind
  · rw [r]
    exact h'.pays.c0
theorem not_both {cols other : List Col} {many : Nat} {c' : Rat} {ld sh' ld' : List Rat} (hg : ∀ col ∈ cols, col.g.length = many) (sub : ∀ col ∈ cols, col ∈ other) (h : LostOK cols many ld) (h' : KeptOK other many c' sh' ld') : False := by
  have := weak hg (p := (⟨h'.pays.len, h'.pays.nn, h'.pays.one, h'.pays.c0, fun col hc => h'.pays.pay col (sub col hc)⟩ : Pays cols many c' sh')) h.loads
  rw [h.rise] at this
  grind
/-! out of whole numbers -/
theorem mk_eq {a u : Int} (hu : 0 < u) : mkRat a u.toNat = (a : Rat) / (u : Rat) := by
  rw [Rat.mkRat_eq_div]
  congr 1
  have : ((u.toNat : Nat) : Int) = u := Int.toNat_of_nonneg (by omega)
  rw [← this]
  rfl
theorem qpos {u : Int} (hu : 0 < u) : 0 < (u : Rat) := by
  have := (Rat.intCast_lt_intCast (a := 0) (b := u)).mpr hu
  exact this
theorem div_mul {a d : Rat} (hd : 0 < d) : a / d * d = a := by grind
theorem div_le {a b d : Rat} (hd : 0 < d) (h : a ≤ b * d) : a / d ≤ b := by
  by_cases q : a / d ≤ b
  · exact q
  · have := Rat.mul_lt_mul_of_pos_right (Rat.not_le.mp q) hd
    rw [div_mul hd] at this
    grind
theorem le_div {a b d : Rat} (hd : 0 < d) (h : b * d ≤ a) : b ≤ a / d := by
  by_cases q : b ≤ a / d
  · exact q
  · have := Rat.mul_lt_mul_of_pos_right (Rat.not_le.mp q) hd
    rw [div_mul hd] at this
    grind
theorem div_nn {a d : Int} (ha : 0 ≤ a) (hd : 0 < d) : 0 ≤ (a : Rat) / (d : Rat) := le_div (qpos hd) (by
  have := Rat.intCast_nonneg.mpr ha
  grind)
theorem whole_eq {u : Nat} {q : Rat} (h : q.den ∣ u) : (whole u q : Rat) = (u : Rat) * q := by
  obtain ⟨k, e⟩ := h
  have hd : (q.den : Int) ≠ 0 := by have := q.den_pos; omega
  have e1 : (u : Int) / (q.den : Int) = k := by
    rw [e, Int.natCast_mul]
    exact Int.mul_ediv_cancel_left _ hd
  unfold whole
  rw [e1, e, Rat.intCast_mul]
  have e2 : q = (q.num : Rat) / ((q.den : Nat) : Rat) := by
    rw [← Rat.mkRat_eq_div, Rat.mkRat_self]
  have e3 : ((q.den * k : Nat) : Rat) = (q.den : Rat) * (k : Rat) := by exact Rat.natCast_mul _ _
  have hp : (0 : Rat) < ((q.den : Nat) : Rat) := qpos (u := (q.den : Int)) (by have := q.den_pos; omega)
  have e4 : ((q.den : Nat) : Rat) * q = (q.num : Rat) := by
    have := div_mul (a := (q.num : Rat)) hp
    rw [← e2] at this
    grind
  rw [e3]
  have : ((k : Int) : Rat) = ((k : Nat) : Rat) := rfl
  rw [this]
  grind
end SL

end
section
set_option Elab.async false
set_option linter.all false
set_option maxRecDepth 100000
set_option maxHeartbeats 400000
set_option exponentiation.threshold 20000
namespace SL
open FR DM
/-! the loads' list -/
section
variable {m n : Nat} {bs : List Int} {f : Nat → Nat}
theorem ldK_at (hb : ∀ i, i < m → bs.getD i default = (f i : Int)) (inj : ∀ i, i < m → ∀ j, j < m → f i = f j → i = j) (x : Nat → Rat) {l0 : List Rat} (hl : l0.length = n) : ∀ k, k ≤ m → ∀ v, v < n →
    (∀ i, i < k → f i = v → (ldK n bs x l0 k).getD v 0 = x i) ∧ ((∀ i, i < k → f i ≠ v) → (ldK n bs x l0 k).getD v 0 = l0.getD v 0)
  | 0, _, v, hv => ⟨fun i hi => by omega, fun _ => rfl⟩
  | k + 1, hk, v, hv => by
    obtain ⟨h1, h2⟩ := ldK_at hb inj x hl k (by omega) v hv
    rw [ldK_succ]
    unfold ldStep
    rw [hb k (by omega)]
    have hlen : (ldK n bs x l0 k).length = n := by rw [ldK_length, hl]
    by_cases q : (f k : Int) < (n : Int)
    · rw [if_pos q, Int.toNat_natCast, List.getD_eq_getElem?_getD, List.getElem?_set]
      by_cases e : f k = v
      · subst e
        rw [if_pos rfl, if_pos (by omega)]
        refine ⟨fun i hi hf => ?_, fun h => absurd rfl (h k (by omega))⟩
        have := inj i (by omega) k (by omega) hf
        rw [this]
        rfl
      · rw [if_neg e, ← List.getD_eq_getElem?_getD]
        refine ⟨fun i hi hf => ?_, fun h => h2 fun i hi => h i (by omega)⟩
        by_cases z : i = k
        · subst z; exact absurd hf e
        · exact h1 i (by omega) hf
    · rw [if_neg q]
      refine ⟨fun i hi hf => ?_, fun h => h2 fun i hi => h i (by omega)⟩
      by_cases z : i = k
      · subst z; omega
      · exact h1 i (by omega) hf
end
/-- the whole sums of loads -/
theorem ldot_S {cols : List Col} {ld : List Rat} {Y : Nat → Int} {d : Int} (hd : 0 < d) (hl : ld.length = cols.length) (h : ∀ v, v < cols.length → ld.getD v 0 = mkRat (Y v * ((cols.getD v default).un : Nat)) d.toNat) (g : Col → Rat) (hg : ∀ c ∈ cols, (g c).den ∣ c.un) :
    ldot ld cols g = (S cols.length (fun v => Y v * whole (cols.getD v default).un (g (cols.getD v default))) : Rat) / (d : Rat) := by
  unfold ldot
  rw [zip_range hl rfl 0 default, List.map_map]
  refine sumR_S fun v hv => ?_
  show ld.getD v 0 * g (cols.getD v default) = _
  rw [h v hv, mk_eq hd, Rat.intCast_mul, Rat.intCast_mul, whole_eq (hg _ (FR.getD_mem hv))]
  have : (((cols.getD v default).un : Int) : Rat) = (((cols.getD v default).un : Nat) : Rat) := rfl
  rw [this]
  grind
section
variable {cols : List Col} {m : Nat}
theorem wc_g {v : Nat} (hv : v < cols.length) : (cols.map Col.wc).getD v default = (cols.getD v default).wc := getD_map hv
theorem ga_wc {c : Col} {r : Nat} (hr : r < c.g.length) : ga c.wc r = whole c.un (c.g.getD r default) := by
  unfold ga Col.wc
  exact getD_map hr
theorem den_dvd {c : Col} {q : Rat} (h : q ∈ c.all) : q.den ∣ c.un := dvd_lcmL h
theorem g_mem {c : Col} {r : Nat} (hr : r < c.g.length) : c.g.getD r default ∈ c.all := List.mem_append_left _ (FR.getD_mem hr)
theorem ri_mem {c : Col} : c.ri ∈ c.all := List.mem_append_right _ (List.mem_cons_self)
theorem lt_mem {c : Col} : c.lt ∈ c.all := List.mem_append_right _ (List.mem_cons_of_mem _ List.mem_cons_self)
/-- worths and rise of loads, out of the rows' balance -/
theorem loads_of {ld : List Rat} {Y : Nat → Int} {d x e : Int} (hd : 0 < d) (hg : ∀ c ∈ cols, c.g.length = m + 1) (hl : ld.length = cols.length) (h : ∀ v, v < cols.length → ld.getD v 0 = mkRat (Y v * ((cols.getD v default).un : Nat)) d.toNat) (nn : ∀ v, v < cols.length → 0 ≤ Y v)
    (hw : ∀ r, r < m + 1 → x ≤ S (cols.map Col.wc).length (fun v => Y v * ga ((cols.map Col.wc).getD v default) r) - S (cols.map Col.wc).length (fun v => Y v * ((cols.map Col.wc).getD v default).lt))
    (hr : S (cols.map Col.wc).length (fun v => Y v * ((cols.map Col.wc).getD v default).ri) = e) :
    Loads cols (m + 1) ld ((x : Rat) / (d : Rat)) ∧ ldot ld cols (·.ri) = (e : Rat) / (d : Rat) := by
  refine ⟨⟨hl, fun s hs => ?_, fun r hr => ?_⟩, ?_⟩
  · obtain ⟨i, hi, e⟩ := List.getElem_of_mem hs
    have := h i (by omega)
    rw [List.getD_eq_getElem?_getD, List.getElem?_eq_getElem hi, e] at this
    rw [show s = _ from this, mk_eq hd]
    exact div_nn (Int.mul_nonneg (nn i (by omega)) (Int.natCast_nonneg _)) hd
  · unfold worth
    rw [ldot_S hd hl h (fun c => c.g.getD r default) fun c hc => den_dvd (g_mem (by rw [hg c hc]; exact hr)), ldot_S hd hl h (·.lt) fun c hc => den_dvd lt_mem]
    have := hw r hr
    rw [List.length_map, S_congr (f := fun v => Y v * ga ((cols.map Col.wc).getD v default) r) fun v hv => by rw [wc_g hv, ga_wc (by rw [hg _ (FR.getD_mem hv)]; exact hr)], S_congr (f := fun v => Y v * ((cols.map Col.wc).getD v default).lt) fun v hv => by rw [wc_g hv]] at this
    have h2 := Rat.intCast_le_intCast.mpr this
    rw [Rat.intCast_sub] at h2
    refine div_le (qpos hd) ?_
    have p := qpos hd
    have a := div_mul (a := (S cols.length (fun v => Y v * whole (cols.getD v default).un ((cols.getD v default).g.getD r default)) : Rat)) p
    have b := div_mul (a := (S cols.length (fun v => Y v * whole (cols.getD v default).un (cols.getD v default).lt) : Rat)) p
    have h3 : (S cols.length (fun v => Y v * (cols.getD v default).wc.lt) : Rat) = (S cols.length (fun v => Y v * whole (cols.getD v default).un (cols.getD v default).lt) : Rat) := rfl
    rw [h3] at h2
    grind
  · rw [ldot_S hd hl h (·.ri) fun c hc => den_dvd ri_mem, ← hr, List.length_map, S_congr (f := fun v => Y v * ((cols.map Col.wc).getD v default).ri) fun v hv => by rw [wc_g hv]]
    rfl
end
end SL

end
section
set_option Elab.async false
set_option linter.all false
set_option maxRecDepth 100000
set_option maxHeartbeats 400000
set_option exponentiation.threshold 20000
namespace SL
open FR DM EV
theorem mk_den {a : Int} {d : Nat} (hd : 0 < d) : (mkRat a d).den ∣ d := by
  rw [Rat.den_mkRat, if_neg (by omega)]
  exact Nat.div_dvd_of_dvd (Nat.gcd_dvd_left _ _)
theorem mk_num {a : Int} {d B : Nat} (ha : a.natAbs < 2 ^ B) : (mkRat a d).num.natAbs < 2 ^ B := by
  rw [Rat.num_mkRat]
  split
  · exact Nat.two_pow_pos B
  · refine Nat.lt_of_le_of_lt ?_ ha
    rw [Int.natAbs_ediv_of_dvd]
    · exact Nat.div_le_self _ _
    · exact Int.ofNat_dvd_left.mpr (Nat.gcd_dvd_right _ _)
theorem fit_mk {as : List Int} {u : Int} (hu : 0 < u) (hl : u.natAbs < 2 ^ 900) (h : ∀ a ∈ as, a.natAbs < 2 ^ 900) : Fit (as.map fun a => mkRat a u.toNat) u.toNat 900 where
  dv := fun q hq => by
    obtain ⟨a, _, e⟩ := List.mem_map.mp hq
    rw [← e]
    exact mk_den (by omega)
  pos := by omega
  lt := by omega
  num := fun q hq => by
    obtain ⟨a, ha, e⟩ := List.mem_map.mp hq
    rw [← e]
    exact mk_num (h a ha)
theorem Fit.app {a b : List Rat} {M B : Nat} (ha : Fit a M B) (hb : Fit b M B) : Fit (a ++ b) M B where
  dv := fun q hq => (List.mem_append.mp hq).elim (ha.dv q) (hb.dv q)
  pos := ha.pos
  lt := ha.lt
  num := fun q hq => (List.mem_append.mp hq).elim (ha.num q) (hb.num q)
theorem Fit.sub {a b : List Rat} {M B : Nat} (ha : Fit a M B) (h : ∀ q ∈ b, q ∈ a) : Fit b M B := ⟨fun q hq => ha.dv q (h q hq), ha.pos, ha.lt, fun q hq => ha.num q (h q hq)⟩
theorem Fit.up {a : List Rat} {M B C : Nat} (ha : Fit a M B) (h : B ≤ C) : Fit a M C := ⟨ha.dv, ha.pos, Nat.lt_of_lt_of_le ha.lt (Nat.pow_le_pow_right (by decide) h), fun q hq => Nat.lt_of_lt_of_le (ha.num q hq) (Nat.pow_le_pow_right (by decide) h)⟩
section
variable {cols : List Col} {m : Nat} {T : Tab} {u : Int} {bs : List Int} {q : Option Nat} {f : Nat → Nat}
abbrev C (cols : List Col) : List WC := cols.map Col.wc
abbrev FinC (cols : List Col) (m : Nat) (T : Tab) (u : Int) (bs : List Int) (q : Option Nat) (f : Nat → Nat) : Prop := Fin (m + 1) (W (C cols) m) (Af (C cols) (m + 1)) T u bs q f
abbrev SmC (cols : List Col) (m : Nat) : Prop := Sm (m + 1) (W (C cols) m) (Af (C cols) (m + 1))
abbrev M' (cols : List Col) (m : Nat) (f : Nat → Nat) (i j : Nat) : Int := MM (C cols) m f i j
theorem unAt_eq {v : Nat} (hv : v < cols.length) : unAt (C cols) (v : Int) = (((cols.getD v default).un : Nat) : Int) := by
  unfold unAt
  rw [Int.toNat_natCast]
  have : (C cols).getD v ⟨[], 0, 0, 0⟩ = (cols.getD v default).wc := getD_map hv
  rw [this]
  rfl
theorem load_list (h : FinC cols m T u bs q f) {d : Int} (hd : 0 < d) {x : Nat → Rat} {g : Nat → Int} (hx : ∀ i, i < m + 1 → x i = mkRat (g i * unAt (C cols) (bs.getD i default)) d.toNat) {l0 : List Rat} {Y0 : Nat → Int} (hl : l0.length = cols.length) (h0 : ∀ v, v < cols.length → l0.getD v 0 = mkRat (Y0 v * ((cols.getD v default).un : Nat)) d.toNat) (hz : ∀ k, k < m + 1 → Y0 (f k) = 0) :
    ∀ v, v < cols.length → (ldK (C cols).length bs x l0 bs.length).getD v 0 = mkRat ((Y0 v + lay (m + 1) f g v) * ((cols.getD v default).un : Nat)) d.toNat := fun v hv => by
  have hb : ∀ i, i < m + 1 → bs.getD i default = (f i : Int) := fun i hi => h.lk.b i hi
  have inj : ∀ i, i < m + 1 → ∀ j, j < m + 1 → f i = f j → i = j := fun i hi j hj e => h.ok.inj hi hj e
  have := ldK_at (n := (C cols).length) hb inj x (l0 := l0) (by rw [hl, List.length_map]) (m + 1) (Nat.le_refl _) v (by rw [List.length_map]; exact hv)
  rw [h.lk.bl]
  by_cases z : ∃ k, k < m + 1 ∧ f k = v
  · obtain ⟨k, hk, e⟩ := z
    rw [this.1 k hk e, hx k hk, hb k hk, e, unAt_eq hv, ← e, hz k hk, lay_at hk fun i hi q => inj i hi k hk q, Int.zero_add]
  · have nz : ∀ k, k < m + 1 → f k ≠ v := fun k hk e => z ⟨k, hk, e⟩
    rw [this.2 nz, h0 v hv, lay_no nz, Int.add_zero]
theorem lay_or {g : Nat → Int} (inj : ∀ i, i < m → ∀ j, j < m → f i = f j → i = j) (v : Nat) : lay m f g v = 0 ∨ ∃ k, k < m ∧ lay m f g v = g k := by
  by_cases z : ∃ k, k < m ∧ f k = v
  · obtain ⟨k, hk, e⟩ := z
    rw [← e, lay_at hk fun i hi q => inj i hi k hk q]
    exact .inr ⟨k, hk, rfl⟩
  · exact .inl (lay_no fun k hk e => z ⟨k, hk, e⟩)
theorem list_mk {ld : List Rat} {n : Nat} {a : Nat → Int} {d : Nat} (hl : ld.length = n) (h : ∀ v, v < n → ld.getD v 0 = mkRat (a v) d) : ld = ((List.range n).map a).map fun x => mkRat x d := by
  refine List.ext_getElem (by simp [hl]) fun i h1 h2 => ?_
  have := h i (by omega)
  rw [List.getD_eq_getElem?_getD, List.getElem?_eq_getElem h1] at this
  simpa using this
theorem un_lt (hB : ∀ c ∈ cols, ∃ M, Fit c.all M 50) {v : Nat} (hv : v < cols.length) : (cols.getD v default).un < 2 ^ 50 := by
  obtain ⟨M, h⟩ := hB _ (FR.getD_mem hv)
  exact h.lcm
theorem fit_loads {ld : List Rat} {Y : Nat → Int} {d : Int} (hB : ∀ c ∈ cols, ∃ M, Fit c.all M 50) (hd : 0 < d) (hdl : d.natAbs < 2 ^ 800) (hl : ld.length = cols.length) (h : ∀ v, v < cols.length → ld.getD v 0 = mkRat (Y v * ((cols.getD v default).un : Nat)) d.toNat) (hY : ∀ v, v < cols.length → (Y v).natAbs < 2 ^ 800) : Fit ld d.toNat 900 := by
  rw [list_mk hl h]
  refine fit_mk hd (Nat.lt_of_lt_of_le hdl (Nat.pow_le_pow_right (by decide) (by decide))) fun a ha => ?_
  obtain ⟨v, hv, e⟩ := List.mem_map.mp ha
  have hv := List.mem_range.mp hv
  rw [← e]
  refine Nat.lt_of_lt_of_le (mul_lt (a := 800) (b := 50) (hY v hv) ?_) (Nat.pow_le_pow_right (by decide) (by decide))
  rw [Int.natAbs_natCast]
  exact un_lt hB hv
/-- what is told -/
structure Kept (cols : List Col) (many : Nat) (c : Rat) (sh ld : List Rat) : Prop where
  ok : KeptOK cols many c sh ld
  fit : ∃ N, Fit (c :: (sh ++ ld)) N 900
structure Lost (cols : List Col) (many : Nat) (ld : List Rat) : Prop where
  ok : LostOK cols many ld
  fit : ∃ N, Fit ld N 900
theorem u_lt (s : SmC cols m) (h : FinC cols m T u bs q f) : u.natAbs < 2 ^ 800 := by rw [h.lk.u]; exact s.Dt h.ok
theorem kept_price (h : FinC cols m T u bs q f) : priceK T u = mkRat (M' cols m f (m + 1) (W (C cols) m)) u.toNat := by
  unfold priceK
  have e : T.getLastD default = T.getD (m + 1) [] := h.lk.lastrow
  rw [e]
  congr 1
  exact h.lk.last (by omega)
theorem lt900 {a : Int} (h : a.natAbs < 2 ^ 800) : a.natAbs < 2 ^ 900 := Nat.lt_of_lt_of_le h (Nat.pow_le_pow_right (by decide) (by decide))
theorem ar1 {P u un ri lt S c : Rat} (e3 : c * u = P) (h2 : S ≤ P * (un * ri) + u * (un * lt)) (z2 : (c * ri + lt) * un * u < S) : False := by
  subst e3
  grind
theorem kept (hg : ∀ c ∈ cols, c.g.length = m + 1) (hB : ∀ c ∈ cols, ∃ M, Fit c.all M 50) (s : SmC cols m) (h : FinC cols m T u bs q f) (hq : q = none) : Kept cols (m + 1) (priceK T u) (sharesK (C cols) (m + 1) T u) (loadsK (C cols) T u bs) := by
  have up : 0 < u := by rw [h.lk.u]; exact h.ok.pos
  have uq := qpos up
  have opt := h.dn hq
  have ln : (C cols).length = cols.length := List.length_map ..
  have ep := kept_price h
  have es : sharesK (C cols) (m + 1) T u = ((List.range (m + 1)).map (sN (C cols) m f)).map fun a => mkRat a u.toNat := by
    unfold sharesK
    rw [List.map_map]
    refine List.map_congr_left fun r hr => ?_
    have hr := List.mem_range.mp hr
    have e : T.getLastD default = T.getD (m + 1) [] := h.lk.lastrow
    rw [e]
    show mkRat _ _ = mkRat _ _
    congr 1
    exact h.lk.e (m + 1) (by omega) _ (by unfold W; omega)
  have p0 : 0 ≤ M' cols m f (m + 1) (W (C cols) m) := by
    rw [M', price_eq]
    exact opt _ (by unfold W; omega)
  have c0 : 0 ≤ priceK T u := by rw [ep, mk_eq up]; exact div_nn p0 up
  have slen : (sharesK (C cols) (m + 1) T u).length = m + 1 := by rw [es]; simp
  have sat : ∀ r, r < m + 1 → (sharesK (C cols) (m + 1) T u).getD r 0 = (sN (C cols) m f r : Rat) / (u : Rat) := fun r hr => by
    rw [es, getD_map (z := 0) (by simpa using hr), getD_map (z := 0) (by simpa using hr), mk_eq up]
    rw [List.getD_eq_getElem?_getD, List.getElem?_range hr]
    rfl
  have hp : Pays cols (m + 1) (priceK T u) (sharesK (C cols) (m + 1) T u) := by
    refine ⟨slen, fun x hx => ?_, ?_, c0, fun col hc => ?_⟩
    · rw [es] at hx
      obtain ⟨a, ha, e⟩ := List.mem_map.mp hx
      obtain ⟨r, hr, e2⟩ := List.mem_map.mp ha
      have hr := List.mem_range.mp hr
      rw [← e, mk_eq up]
      refine div_nn ?_ up
      rw [← e2]
      exact opt _ (by unfold W; omega)
    · rw [← range_getD (sharesK (C cols) (m + 1) T u) 0, slen, sumR_S (g := sN (C cols) m f) (d := (u : Rat)) sat, shares_sum, show DD (C cols) m f = u from h.lk.u.symm]
      grind
    · obtain ⟨v, hv, e⟩ := List.getElem_of_mem hc
      have ec : cols.getD v default = col := by rw [List.getD_eq_getElem?_getD, List.getElem?_eq_getElem hv, e]; rfl
      have hpay := pays (cs := C cols) (m := m) (f := f) opt (v := v) (by rw [ln]; exact hv)
      rw [wc_g hv, ec] at hpay
      rw [S_congr (g := fun r => sN (C cols) m f r * whole col.un (col.g.getD r default)) fun r hr => by rw [ga_wc (by rw [hg _ hc]; exact hr)]] at hpay
      have h2 := Rat.intCast_le_intCast.mpr hpay
      have dn : ∀ {x}, x ∈ col.all → x.den ∣ col.un := den_dvd
      have unp : 0 < (col.un : Rat) := qpos (u := (col.un : Int)) (by have : 0 < col.un := lcmL_pos _; omega)
      have e1 : dot (sharesK (C cols) (m + 1) T u) col.g * (col.un : Rat) = (S (m + 1) (fun r => sN (C cols) m f r * whole col.un (col.g.getD r default)) : Rat) / (u : Rat) := by
        unfold dot
        rw [zip_range slen (hg _ hc) 0 default, List.map_map, Rat.mul_comm, ← sumR_mul]
        refine sumR_S fun r hr => ?_
        show (col.un : Rat) * ((sharesK (C cols) (m + 1) T u).getD r 0 * col.g.getD r default) = _
        rw [sat r hr, Rat.intCast_mul, whole_eq (dn (g_mem (by rw [hg _ hc]; exact hr)))]
        grind
      have e2 : DD (C cols) m f = u := h.lk.u.symm
      rw [e2, Rat.intCast_add, Rat.intCast_mul, Rat.intCast_mul, show col.wc.ri = whole col.un col.ri from rfl, show col.wc.lt = whole col.un col.lt from rfl, whole_eq (dn ri_mem), whole_eq (dn lt_mem)] at h2
      rw [ep, mk_eq up]
      have e3 := div_mul (a := (M' cols m f (m + 1) (W (C cols) m) : Rat)) uq
      have e4 := div_mul (a := (S (m + 1) (fun r => sN (C cols) m f r * whole col.un (col.g.getD r default)) : Rat)) uq
      refine Rat.not_lt.mp fun z => ?_
      have z1 := Rat.mul_lt_mul_of_pos_right z unp
      rw [e1] at z1
      have z2 := Rat.mul_lt_mul_of_pos_right z1 uq
      rw [e4] at z2
      exact ar1 e3 h2 z2
  -- loads
  have hx : ∀ i, i < m + 1 → keptX (C cols) T u bs i = mkRat (M' cols m f i (W (C cols) m) * unAt (C cols) (bs.getD i default)) u.toNat := fun i hi => by
    unfold keptX lastE
    congr 2
    exact h.lk.last (by omega)
  have zl : (cols.map fun _ => (0 : Rat)).length = cols.length := List.length_map ..
  have z0 : ∀ v, v < cols.length → (cols.map fun _ => (0 : Rat)).getD v 0 = mkRat ((0 : Int) * ((cols.getD v default).un : Nat)) u.toNat := fun v hv => by
    rw [getD_map (z := default) hv, Int.zero_mul, Rat.zero_mkRat]
  have ez : ((C cols).map fun _ => (0 : Rat)) = cols.map fun _ => (0 : Rat) := by rw [List.map_map]; rfl
  have hL := load_list h up hx zl (Y0 := fun _ => 0) z0 fun _ _ => rfl
  have ll : (ldK (C cols).length bs (keptX (C cols) T u bs) (cols.map fun _ => 0) bs.length).length = cols.length := by rw [ldK_length, zl]
  have ynn : ∀ v, 0 ≤ (0 : Int) + lay (m + 1) f (fun k => M' cols m f k (W (C cols) m)) v := fun v => by
    rw [Int.zero_add]
    exact lay_nn (fun k hk => h.ok.feas k hk) v
  have inj : ∀ i, i < m + 1 → ∀ j, j < m + 1 → f i = f j → i = j := fun i hi j hj e => h.ok.inj hi hj e
  have hb := bal (cs := C cols) (m := m) (Y := fun v => (0 : Int) + lay (m + 1) f (fun k => M' cols m f k (W (C cols) m)) v) (x := M' cols m f (m + 1) (W (C cols) m)) (d := u) (fun l hl => by
    have := lay_eq (cs := C cols) (m := m) h.ok (j := W (C cols) m) (Nat.le_refl _) hl
    rw [A_rhs hl, show DD (C cols) m f = u from h.lk.u.symm] at this
    rw [← this]
    congr 1
    exact S_congr fun v _ => by rw [Int.zero_add]) fun v hv => ynn v
  have fs : Fit (sharesK (C cols) (m + 1) T u) u.toNat 900 := by
    rw [es]
    refine fit_mk up (lt900 (u_lt s h)) fun a ha => ?_
    obtain ⟨r, hr, e⟩ := List.mem_map.mp ha
    have hr := List.mem_range.mp hr
    rw [← e]
    exact lt900 (s.Mt h.ok (by omega) (by unfold W; omega))
  have fc : Fit [priceK T u] u.toNat 900 := by
    rw [ep]
    exact fit_mk (as := [_]) up (lt900 (u_lt s h)) fun a ha => by
      rw [List.mem_singleton.mp ha]
      exact lt900 (s.Mt h.ok (by omega) (by omega))
  have lb := loads_of (cols := cols) (m := m) up hg ll hL (fun v _ => ynn v) hb.1 rfl
  have yb : ∀ v, v < cols.length → ((0 : Int) + lay (m + 1) f (fun k => M' cols m f k (W (C cols) m)) v).natAbs < 2 ^ 800 := fun v _ => by
    rw [Int.zero_add]
    rcases lay_or inj (g := fun k => M' cols m f k (W (C cols) m)) v with e | ⟨k, hk, e⟩
    · rw [e]; exact Nat.two_pow_pos 800
    · rw [e]; exact s.Mt h.ok (by omega) (Nat.le_refl _)
  unfold loadsK
  by_cases hc : 0 < (priceK T u).num
  · rw [if_pos hc, ez]
    refine ⟨⟨hp, ?_, .inl ?_⟩, ⟨u.toNat, Fit.app fc (Fit.app fs (fit_loads hB up (u_lt s h) ll hL yb))⟩⟩
    · rw [ep, mk_eq up]
      exact lb.1
    · have py : (0 : Int) + lay (m + 1) f (fun k => M' cols m f k (W (C cols) m)) ((C cols).length + 1 + m) = 0 := by
        rw [Int.zero_add]
        refine lay_no fun k hk e => ?_
        have h1 := Mt_basic (A := Af (C cols) (m + 1)) (bs := f) (i := m + 1) (by omega) hk (by omega)
        rw [e] at h1
        have h2 := price_eq (cs := C cols) (m := m) (f := f)
        rw [MM, MM, h1] at h2
        rw [ep, M', MM, h2, Rat.zero_mkRat] at hc
        exact absurd hc (by decide)
      have hr := hb.2
      rw [py, Int.add_zero] at hr
      rw [lb.2, hr]
      grind
  · have cz : priceK T u = 0 := by
      have := Rat.num_nonneg.mpr c0
      exact Rat.num_eq_zero.mp (by omega)
    have az : ∀ l ∈ (cols.map fun _ => (0 : Rat)), l = 0 := fun l hl => by
      obtain ⟨_, _, e⟩ := List.mem_map.mp hl
      exact e.symm
    rw [if_neg hc, ez]
    refine ⟨⟨hp, ⟨zl, fun l hl => by rw [az l hl]; exact Rat.le_refl, fun r hr => ?_⟩, .inr ⟨cz, az⟩⟩, ⟨u.toNat, Fit.app fc (Fit.app fs (fit_loads hB up (u_lt s h) zl z0 fun v _ => Nat.two_pow_pos 800))⟩⟩
    unfold worth
    rw [ldot_zero az, ldot_zero az, cz]
    grind
theorem lost (hg : ∀ c ∈ cols, c.g.length = m + 1) (hB : ∀ c ∈ cols, ∃ M, Fit c.all M 50) (hri : ∀ c ∈ cols, 0 ≤ c.ri) (s : SmC cols m) (h : FinC cols m T u bs q f) {p : Nat} (hq : q = some p) : Lost cols (m + 1) (loadsL (C cols) T u bs p) ∧ p < W (C cols) m ∧ 0 < gainL T p := by
  obtain ⟨en, le⟩ := h.ls p hq
  have up : 0 < u := by rw [h.lk.u]; exact h.ok.pos
  have ln : (C cols).length = cols.length := List.length_map ..
  have eg : gainL T p = - M' cols m f (m + 1) p := by
    unfold gainL
    have e : T.getLastD default = T.getD (m + 1) [] := h.lk.lastrow
    have e2 : (T.getD (m + 1) []).getD p default = M' cols m f (m + 1) p := h.lk.e (m + 1) (by omega) p (Nat.le_of_lt en.lt)
    rw [e, e2]
    omega
  have gp : 0 < gainL T p := by
    rw [eg]
    have : M' cols m f (m + 1) p < 0 := en.neg
    omega
  refine ⟨?_, en.lt, gp⟩
  have nb : ∀ k, k < m + 1 → f k ≠ p := fun k hk e => by
    have h1 := Mt_basic (A := Af (C cols) (m + 1)) (bs := f) (i := m + 1) (by omega) hk (by omega)
    rw [e] at h1
    have := en.neg
    omega
  have gl : (gainL T p).natAbs < 2 ^ 800 := by
    rw [eg, Int.natAbs_neg]
    exact s.Mt h.ok (by omega) (Nat.le_of_lt en.lt)
  have hx : ∀ i, i < m + 1 → lostX (C cols) T (gainL T p) bs p i = mkRat ((- M' cols m f i p) * unAt (C cols) (bs.getD i default)) (gainL T p).toNat := fun i hi => by
    unfold lostX
    have := h.lk.e i (by omega) p (Nat.le_of_lt en.lt)
    rw [this]
    congr 2
    exact Int.zero_sub _
  let Y0 : Nat → Int := fun v => if v = p then u else 0
  have hz : ∀ k, k < m + 1 → Y0 (f k) = 0 := fun k hk => if_neg (nb k hk)
  have zl : (if p < (C cols).length then ((C cols).map fun _ => (0 : Rat)).set p (mkRat (u * ((C cols).getD p default).un) (gainL T p).toNat) else (C cols).map fun _ => 0).length = cols.length := by
    split <;> simp
  have z0 : ∀ v, v < cols.length → (if p < (C cols).length then ((C cols).map fun _ => (0 : Rat)).set p (mkRat (u * ((C cols).getD p default).un) (gainL T p).toNat) else (C cols).map fun _ => 0).getD v 0 = mkRat (Y0 v * ((cols.getD v default).un : Nat)) (gainL T p).toNat := fun v hv => by
    have zz : ((C cols).map fun _ => (0 : Rat)).getD v 0 = 0 := by rw [getD_map (z := default) (by rw [ln]; exact hv)]
    by_cases e : v = p
    · subst e
      rw [if_pos (by rw [ln]; exact hv), List.getD_eq_getElem?_getD, List.getElem?_set, if_pos rfl, if_pos (by simpa using hv)]
      show mkRat (u * ((C cols).getD v default).un) _ = mkRat ((if v = v then u else 0) * _) _
      rw [if_pos rfl, wc_g hv]
      rfl
    · have e2 : Y0 v = 0 := if_neg e
      rw [e2, Int.zero_mul, Rat.zero_mkRat]
      split
      · rw [List.getD_eq_getElem?_getD, List.getElem?_set, if_neg fun q => e q.symm, ← List.getD_eq_getElem?_getD]
        exact zz
      · exact zz
  have hL := load_list h gp hx zl z0 hz
  have ll : (loadsL (C cols) T u bs p).length = cols.length := by
    unfold loadsL
    rw [ldK_length, zl]
  have inj : ∀ i, i < m + 1 → ∀ j, j < m + 1 → f i = f j → i = j := fun i hi j hj e => h.ok.inj hi hj e
  have ynn : ∀ v, 0 ≤ Y0 v + lay (m + 1) f (fun k => - M' cols m f k p) v := fun v => by
    have h1 : 0 ≤ Y0 v := by
      show 0 ≤ if v = p then u else 0
      split <;> omega
    have h2 := lay_nn (f := f) (m := m + 1) (g := fun k => - M' cols m f k p) (fun k hk => by have := le k hk; show 0 ≤ - Mt _ _ _ _ _; omega) v
    omega
  have hb := bal (cs := C cols) (m := m) (Y := fun v => Y0 v + lay (m + 1) f (fun k => - M' cols m f k p) v) (x := gainL T p) (d := 0) (fun l hl => by
    have := lay_eq (cs := C cols) (m := m) h.ok (j := p) (Nat.le_of_lt en.lt) hl
    rw [show DD (C cols) m f = u from h.lk.u.symm] at this
    have e1 : S (W (C cols) m) (fun v => (Y0 v + lay (m + 1) f (fun k => - M' cols m f k p) v) * Af (C cols) (m + 1) v l) = u * Af (C cols) (m + 1) p l - S (W (C cols) m) (fun v => lay (m + 1) f (fun k => MM (C cols) m f k p) v * Af (C cols) (m + 1) v l) := by
      have e2 : ∀ v, v < W (C cols) m → (Y0 v + lay (m + 1) f (fun k => - M' cols m f k p) v) * Af (C cols) (m + 1) v l = Y0 v * Af (C cols) (m + 1) v l - lay (m + 1) f (fun k => MM (C cols) m f k p) v * Af (C cols) (m + 1) v l := fun v _ => by
        have e3 : lay (m + 1) f (fun k => - M' cols m f k p) v = - lay (m + 1) f (fun k => MM (C cols) m f k p) v := by
          unfold lay
          rw [← S_neg]
          exact S_congr fun k _ => by split <;> simp
        rw [e3]
        grind
      rw [S_congr e2, S_sub, S_one (r := p) en.lt (fun v => Y0 v * Af (C cols) (m + 1) v l) fun k _ hn => by rw [show Y0 k = 0 from if_neg hn, Int.zero_mul]]
      rw [show Y0 p = u from if_pos rfl]
    show S (W (C cols) m) _ + _ = _
    rw [e1, eg]
    grind) fun v hv => ynn v
  have yb : ∀ v, v < cols.length → (Y0 v + lay (m + 1) f (fun k => - M' cols m f k p) v).natAbs < 2 ^ 800 := fun v _ => by
    by_cases e : v = p
    · rw [lay_no (fun k hk z => nb k hk (z.trans e)), Int.add_zero, show Y0 v = u from if_pos e]
      exact u_lt s h
    · rw [show Y0 v = 0 from if_neg e, Int.zero_add]
      rcases lay_or inj (g := fun k => - M' cols m f k p) v with e | ⟨k, hk, e⟩
      · rw [e]; exact Nat.two_pow_pos 800
      · rw [e, Int.natAbs_neg]; exact s.Mt h.ok (by omega) (Nat.le_of_lt en.lt)
  have s0 : 0 ≤ S (C cols).length (fun v => (Y0 v + lay (m + 1) f (fun k => - M' cols m f k p) v) * ((C cols).getD v default).ri) := S_nonneg fun v hv => by
    rw [ln] at hv
    refine Int.mul_nonneg (ynn v) ?_
    rw [wc_g hv]
    show 0 ≤ whole _ _
    unfold whole
    refine Int.mul_nonneg (Rat.num_nonneg.mpr (hri _ (FR.getD_mem hv))) (Int.ediv_nonneg (by omega) (by omega))
  have e0 : S (C cols).length (fun v => (Y0 v + lay (m + 1) f (fun k => - M' cols m f k p) v) * ((C cols).getD v default).ri) = 0 := by
    have sz : S (C cols).length (fun v => (Y0 v + lay (m + 1) f (fun k => - M' cols m f k p) v) * ((C cols).getD v default).ri) + (Y0 ((C cols).length + 1 + m) + lay (m + 1) f (fun k => - M' cols m f k p) ((C cols).length + 1 + m)) = 0 := hb.2
    have y1 := ynn ((C cols).length + 1 + m)
    omega
  have lb := loads_of (cols := cols) (m := m) gp hg ll hL (fun v _ => ynn v) hb.1 (e := 0) e0
  have gq := qpos gp
  refine ⟨⟨?_, ?_⟩, ⟨_, fit_loads hB gp gl ll hL yb⟩⟩
  · have e : (gainL T p : Rat) / (gainL T p : Rat) = 1 := by grind
    rw [← e]
    exact lb.1
  · rw [lb.2]
    grind
end
end SL

end
section
set_option Elab.async false
set_option linter.all false
set_option maxRecDepth 100000
set_option maxHeartbeats 400000
set_option exponentiation.threshold 20000
namespace SL
open FR DM EV
theorem sub_le {a b : Int} {B : Nat} (ha : a.natAbs ≤ B) (hb : b.natAbs ≤ B) : (a - b).natAbs ≤ B + B := by omega
section
variable {cols : List Col} {m : Nat}
theorem smC (hn : cols.length ≤ 100) (hm : m ≤ 5) (hg : ∀ c ∈ cols, c.g.length = m + 1) (hB : ∀ c ∈ cols, ∃ M, Fit c.all M 50) : SmC cols m where
  m := by omega
  w := by unfold W; rw [List.length_map]; omega
  B := by
    refine ⟨2 ^ 110, by decide, fun j hj l hl => ?_, ?_⟩
    · have wl : ∀ v, v < cols.length → ∀ x ∈ (cols.getD v default).all, (whole (cols.getD v default).un x).natAbs ≤ 2 ^ 100 := fun v hv x hx => by
        obtain ⟨M, h⟩ := hB _ (FR.getD_mem (z := default) hv)
        exact Nat.le_of_lt (whole_lt (B := 50) (C := 50) (h.num x hx) (un_lt hB hv))
      have gl : ∀ v, v < cols.length → ∀ r, r < m + 1 → (ga ((C cols).getD v default) r).natAbs ≤ 2 ^ 100 := fun v hv r hr => by
        have hv' := hg _ (FR.getD_mem (z := default) hv)
        rw [wc_g hv, ga_wc (by omega)]
        exact wl v hv _ (g_mem (by omega))
      have big : (2 : Nat) ^ 100 + 2 ^ 100 ≤ 2 ^ 110 := by decide +kernel
      have e1 : ∀ a b : Nat, (E a b).natAbs ≤ 2 ^ 110 := fun a b => by
        unfold E
        split
        · decide +kernel
        · exact Nat.zero_le _
      by_cases h1 : j < cols.length
      · have a := A_col (cs := C cols) (m := m) (v := j) (by rw [List.length_map]; exact h1)
        by_cases l1 : l < m
        · rw [a.1 l l1]
          exact Nat.le_trans (sub_le (gl j h1 0 (by omega)) (gl j h1 (l + 1) (by omega))) big
        · by_cases l2 : l = m
          · rw [l2, a.2.1, wc_g h1]
            exact Nat.le_trans (wl j h1 _ ri_mem) (by omega)
          · have l3 : l = m + 1 := by omega
            rw [l3, a.2.2]
            refine Nat.le_trans (sub_le ?_ (gl j h1 0 (by omega))) big
            rw [wc_g h1]
            exact wl j h1 _ lt_mem
      · have ln : (C cols).length = cols.length := List.length_map ..
        by_cases h2 : j = cols.length
        · have a := A_mid (cs := C cols) (m := m)
          rw [ln] at a
          rw [h2]
          by_cases l1 : l < m
          · rw [a.1 l l1]; decide +kernel
          · by_cases l2 : l = m
            · rw [l2, a.2.1]; decide +kernel
            · have l3 : l = m + 1 := by omega
              rw [l3, a.2.2]; decide +kernel
        · unfold W at hj
          rw [ln] at hj
          by_cases h3 : j = cols.length + 1 + (m + 1)
          · have := A_rhs (cs := C cols) (m := m) hl
            rw [ln] at this
            rw [h3, this]
            exact e1 _ _
          · have := A_unit (cs := C cols) (m := m) (k := j - cols.length - 1) (by omega) hl
            rw [ln] at this
            have e : cols.length + 1 + (j - cols.length - 1) = j := by omega
            rw [e] at this
            rw [this]
            exact e1 _ _
    · rcases (show m = 0 ∨ m = 1 ∨ m = 2 ∨ m = 3 ∨ m = 4 ∨ m = 5 by omega) with e | e | e | e | e | e <;> subst e <;> decide +kernel
/-- what best_shares tells -/
inductive Told (cols : List Col) (many : Nat) : PyData → Prop
  | kept {c : Rat} {sh ld : List Rat} : Kept cols many c sh ld → Told cols many (dKept c sh ld)
  | lost {ld : List Rat} : Lost cols many ld → Told cols many (dLost ld)
theorem solve (hn : cols.length ≤ 100) (hm : m ≤ 5) (hg : ∀ c ∈ cols, c.g.length = m + 1) (hB : ∀ c ∈ cols, ∃ M, Fit c.all M 50) (hri : ∀ c ∈ cols, 0 ≤ c.ri) :
    ∃ T u bs q n, FR.Run (W (C cols) m + 1) (m + 1 + 1) (firstT (C cols) (m + 1)) 1 (bases0 (C cols).length (m + 1)) T u bs q n ∧ Fin5 (W (C cols) m + 1) (m + 1 + 1) (m + 1) (C cols) T u bs q ∧ Told cols (m + 1) (dBest (C cols) (m + 1) T u bs q) := by
  have s := smC hn hm hg hB
  obtain ⟨T, u, bs, q, n, f, run, fin⟩ := run_ex s (ok0 (cs := C cols) (m := m)).acc ok0 lk0
  refine ⟨T, u, bs, q, n, run, ⟨fin.lk.good fin.ok s, by unfold W; omega, fun b hb => ?_, fun c hc => ?_, fun p hp => ?_⟩, ?_⟩
  · obtain ⟨i, hi, e⟩ := List.getElem_of_mem hb
    have := fin.lk.b i (by rw [← fin.lk.bl]; exact hi)
    rw [List.getD_eq_getElem?_getD, List.getElem?_eq_getElem hi, e] at this
    have : b = (f i : Int) := this
    omega
  · obtain ⟨c', hc', e⟩ := List.mem_map.mp hc
    obtain ⟨M, h⟩ := hB _ hc'
    rw [← e]
    show ((c'.un : Nat) : Int).natAbs < _
    rw [Int.natAbs_natCast]
    exact Nat.lt_trans h.lcm (Nat.pow_lt_pow_right (by decide) (by decide))
  · obtain ⟨_, h1, h2⟩ := lost hg hB hri s fin hp
    exact ⟨by omega, h2⟩
  · cases q with
    | none => exact .kept (kept hg hB s fin rfl)
    | some p => exact .lost (lost hg hB hri s fin rfl).1
end
end SL

end
section
set_option Elab.async false
set_option linter.all false
set_option maxRecDepth 100000
set_option maxHeartbeats 400000
set_option exponentiation.threshold 20000
namespace EV
open PySem PySem.Spec PyProof.Rows L2 RZ
variable [KS]
theorem sv_postB {pr : List Nat} {t : TS} {ρ ρ' ρ2 : Rho} (h : Sv pr t ρ (.brk ρ')) (w : Wk ρ' ρ2) : Sv pr t ρ (.brk ρ2) := fun F σ0 H0 O0 σ H D E q => h F σ0 H0 O0 σ H D E fun σ' H' E' => q σ' H' (E'.wk w)
/-- a tuple or a list -/
def sq (tp : Bool) (ds : List PyData) : PyData := if tp then .tuple ds else .list ds
theorem ei_sq {K : PySem.W.Frag} {t : TE} {ρ ρ1 : Rho} {ds : List PyData} {tp : Bool} (h : Ev t ρ (sq tp ds) ρ1) : EvI (iSeq K t) ρ ds ρ1 := by
  cases tp with
  | true => exact ei_tup h
  | false => exact ei_list h
theorem lt_bits (b : Nat) : b < 2 ^ (Builtin.Int.intBits (b : Int)) := by
  unfold Builtin.Int.intBits
  by_cases h : b = 0
  · subst h; decide
  · have e : ((b : Int) == 0) = false := by simp; omega
    rw [e]
    simp only [Bool.false_eq_true, if_false]
    rw [Int.natAbs_natCast]
    exact Nat.lt_log2_self
theorem bits_lt {b : Nat} (h : b < 2 ^ 9000) : Builtin.Int.intBits (b : Int) ≤ 9001 := by
  unfold Builtin.Int.intBits
  split
  · omega
  · rename_i e
    have hb : b ≠ 0 := fun z => by rw [z] at e; exact e rfl
    rw [Int.natAbs_natCast]
    have := (Nat.log2_lt hb).mpr h
    omega
theorem lp_gcd {tg : PyData → Rho → Rho → Prop} {body : Rho → Out → Prop} {R : Nat → Nat → Rho} (h0 : ∀ d a, ∃ ρ1, tg (.int d) (R a 0) ρ1 ∧ body ρ1 (.brk (R a 0))) (h1 : ∀ d a b, 0 < b → ∃ ρ1, tg (.int d) (R a b) ρ1 ∧ body ρ1 (.next (R b (a % b)))) :
    ∀ (j : Nat) (l : List Int) (a b : Nat), b < 2 ^ j → 2 * j + 1 ≤ l.length → Lp tg body (l.map .int) (R a b) (.next (R (Nat.gcd a b) 0))
  | 0, d :: l, a, b, hb, hl => by
    have : b = 0 := by omega
    subst this
    rw [Nat.gcd_zero_right]
    obtain ⟨ρ1, t, b⟩ := h0 d a
    exact .bk t b
  | 0, [], a, b, hb, hl => absurd hl (by simp)
  | j + 1, [], a, b, hb, hl => absurd hl (by simp)
  | j + 1, [d], a, b, hb, hl => absurd hl (by simp)
  | j + 1, d :: d2 :: l, a, b, hb, hl => by
    by_cases q : b = 0
    · subst q
      rw [Nat.gcd_zero_right]
      obtain ⟨ρ1, t, b⟩ := h0 d a
      exact .bk t b
    · have m1 := Nat.mod_lt a (Nat.pos_of_ne_zero q)
      have e1 : Nat.gcd a b = Nat.gcd b (a % b) := by rw [Nat.gcd_comm a b, Nat.gcd_rec, Nat.gcd_comm]
      obtain ⟨ρ1, t, bd⟩ := h1 d a b (Nat.pos_of_ne_zero q)
      refine .nx t bd ?_
      by_cases q2 : a % b = 0
      · rw [e1, q2, Nat.gcd_zero_right]
        obtain ⟨ρ2, t2, b2⟩ := h0 d2 b
        exact .bk t2 b2
      · have m2 := Nat.mod_lt b (Nat.pos_of_ne_zero q2)
        have e2 : Nat.gcd b (a % b) = Nat.gcd (a % b) (b % (a % b)) := by rw [Nat.gcd_comm b (a % b), Nat.gcd_rec, Nat.gcd_comm]
        obtain ⟨ρ2, t2, bd2⟩ := h1 d2 b (a % b) (Nat.pos_of_ne_zero q2)
        refine .nx t2 bd2 ?_
        rw [e1, e2]
        refine lp_gcd h0 h1 j l _ _ ?_ (by simp at hl; omega)
        have e3 := Nat.div_add_mod b (a % b)
        have e4 : 1 ≤ b / (a % b) := (Nat.le_div_iff_mul_le (by omega)).mpr (by omega)
        have e5 : a % b * 1 ≤ a % b * (b / (a % b)) := Nat.mul_le_mul_left _ e4
        rw [Nat.pow_succ] at hb
        omega
end EV
namespace LW
open PySem PySem.Spec PyProof.Rows L2 RZ EV FR SL
/-! sizes -/
theorem mul_mk (x y : Rat) : x * y = mkRat (x.num * y.num) (x.den * y.den) := by
  rw [← Rat.mkRat_mul_mkRat, Rat.mkRat_self, Rat.mkRat_self]
theorem ar2 {x y a b c d : Rat} (ha : 0 < a) (hb : 0 < b) (ex : x * a = c) (ey : y * b = d) : x - y = (c * b - d * a) / (a * b) := by
  subst ex ey
  have h : a * b ≠ 0 := by
    have := Rat.mul_pos ha hb
    grind
  grind
theorem num_eq (x : Rat) : x * ((x.den : Nat) : Rat) = (x.num : Rat) := by
  have hx : (0 : Rat) < ((x.den : Nat) : Rat) := qpos (u := (x.den : Int)) (by have := x.den_pos; omega)
  have ex : (x.num : Rat) / ((x.den : Nat) : Rat) = x := by rw [← Rat.mkRat_eq_div, Rat.mkRat_self]
  have := SL.div_mul (a := (x.num : Rat)) hx
  rwa [ex] at this
theorem sub_mk (x y : Rat) : x - y = mkRat (x.num * y.den - y.num * x.den) (x.den * y.den) := by
  have hx : (0 : Rat) < ((x.den : Nat) : Rat) := qpos (u := (x.den : Int)) (by have := x.den_pos; omega)
  have hy : (0 : Rat) < ((y.den : Nat) : Rat) := qpos (u := (y.den : Int)) (by have := y.den_pos; omega)
  rw [Rat.mkRat_eq_div, Rat.intCast_sub, Rat.intCast_mul, Rat.intCast_mul, Rat.natCast_mul]
  exact ar2 hx hy (num_eq x) (num_eq y)
theorem mul_den_dvd (x y : Rat) : (x * y).den ∣ x.den * y.den := by
  rw [mul_mk]
  exact mk_den (Nat.mul_pos x.den_pos y.den_pos)
theorem mul_num_le (x y : Rat) : (x * y).num.natAbs ≤ (x.num * y.num).natAbs := by
  rw [mul_mk, Rat.num_mkRat]
  split
  · exact Nat.zero_le _
  · rw [Int.natAbs_ediv_of_dvd]
    · exact Nat.div_le_self _ _
    · exact Int.ofNat_dvd_left.mpr (Nat.gcd_dvd_right _ _)
theorem Fit.mul1 {a b : List Rat} {M N A B : Nat} {x y : Rat} (ha : Fit a M A) (hb : Fit b N B) (hx : x ∈ a) (hy : y ∈ b) : (x * y).den ∣ M * N ∧ (x * y).num.natAbs < 2 ^ (A + B) :=
  ⟨Nat.dvd_trans (mul_den_dvd x y) (Nat.mul_dvd_mul (ha.dv x hx) (hb.dv y hy)), Nat.lt_of_le_of_lt (mul_num_le x y) (mul_lt (ha.num x hx) (hb.num y hy))⟩
theorem Fit.mulL {a b : List Rat} {M N A B : Nat} {l : List Rat} (ha : Fit a M A) (hb : Fit b N B) (h : ∀ q ∈ l, ∃ x ∈ a, ∃ y ∈ b, q = x * y) : Fit l (M * N) (A + B) where
  dv := fun q hq => by
    obtain ⟨x, hx, y, hy, e⟩ := h q hq
    rw [e]
    exact (Fit.mul1 ha hb hx hy).1
  pos := Nat.mul_pos ha.pos hb.pos
  lt := by
    rw [Nat.pow_add]
    exact Nat.mul_lt_mul'' ha.lt hb.lt
  num := fun q hq => by
    obtain ⟨x, hx, y, hy, e⟩ := h q hq
    rw [e]
    exact (Fit.mul1 ha hb hx hy).2
theorem mk_add {a b : Int} {u : Nat} (hu : 0 < u) : mkRat (a + b) u = mkRat a u + mkRat b u := by
  rw [Rat.mkRat_eq_div, Rat.mkRat_eq_div, Rat.mkRat_eq_div, Rat.intCast_add]
  grind
theorem mk_whole {u : Nat} {q : Rat} (hu : 0 < u) (h : q.den ∣ u) : mkRat (whole u q) u = q := by
  have hp : (0 : Rat) < ((u : Nat) : Rat) := qpos (u := (u : Int)) (by omega)
  rw [Rat.mkRat_eq_div, whole_eq h]
  grind
/-- the sum over the common denominator -/
theorem sum_mk {u : Nat} (hu : 0 < u) : ∀ {qs : List Rat}, (∀ q ∈ qs, q.den ∣ u) → mkRat (qs.map (whole u)).sum u = sumR qs
  | [], _ => by simp [sumR]
  | q :: qs, h => by
    rw [List.map_cons, List.sum_cons, mk_add hu, mk_whole hu (h q List.mem_cons_self), sum_mk hu fun x hx => h x (List.mem_cons_of_mem _ hx)]
    rfl
theorem sum_lt {u : Nat} {B : Nat} : ∀ {qs : List Rat}, (∀ q ∈ qs, (whole u q).natAbs < 2 ^ B) → (qs.map (whole u)).sum.natAbs ≤ qs.length * 2 ^ B
  | [], _ => by simp
  | q :: qs, h => by
    rw [List.map_cons, List.sum_cons, List.length_cons, Nat.add_mul]
    have h1 := h q List.mem_cons_self
    have h2 := sum_lt (qs := qs) fun x hx => h x (List.mem_cons_of_mem _ hx)
    omega
theorem lcm_of {M B : Nat} {qs : List Rat} (h : Fit qs M B) : lcmL qs ∣ M ∧ 0 < lcmL qs ∧ lcmL qs < 2 ^ B ∧ ∀ q ∈ qs, q.den ∣ lcmL qs := ⟨lcmL_dvd h.dv, lcmL_pos qs, h.lcm, fun q hq => dvd_lcmL hq⟩
theorem sum_eq {M B : Nat} {qs : List Rat} (h : Fit qs M B) : sumR qs = mkRat (qs.map (whole (lcmL qs))).sum (lcmL qs) := (sum_mk (lcm_of h).2.1 (lcm_of h).2.2.2).symm
theorem Fit.sum {M B : Nat} {qs : List Rat} (h : Fit qs M B) (hl : qs.length ≤ 1000) : Fit [sumR qs] M (B + B + 10) where
  dv := fun q hq => by
    rw [List.mem_singleton.mp hq, sum_eq h]
    exact Nat.dvd_trans (mk_den (lcm_of h).2.1) (lcm_of h).1
  pos := h.pos
  lt := Nat.lt_of_lt_of_le h.lt (Nat.pow_le_pow_right (by decide) (by omega))
  num := fun q hq => by
    rw [List.mem_singleton.mp hq, sum_eq h]
    refine mk_num ?_
    have h1 := sum_lt (u := lcmL qs) (B := B + B) (qs := qs) fun q hq => whole_lt (h.num q hq) (lcm_of h).2.2.1
    have h2 : qs.length * 2 ^ (B + B) ≤ 1000 * 2 ^ (B + B) := Nat.mul_le_mul_right _ hl
    have h3 : (1000 : Nat) < 2 ^ 10 := by decide
    have h4 : 1000 * 2 ^ (B + B) < 2 ^ 10 * 2 ^ (B + B) := Nat.mul_lt_mul_of_pos_right h3 (Nat.two_pow_pos _)
    rw [Nat.pow_add 2 (B + B) 10]
    rw [Nat.mul_comm (2 ^ 10)] at h4
    omega
/-! the draws -/
abbrev Bx := Int × Int
def dBx (b : Bx) : List PyData := [.int b.1, .int b.2]
def cellB (ns : List Int) (k : Nat) : Int :=
  if k < ns.length then ((ns.getD k 0).natAbs : Int) else if 0 < ns.length then (8117 * (k : Int) + 4327) + (((ns.getD (k % ns.length) 0).natAbs : Int)) % 2147483563 * 60013 else 8117 * (k : Int) + 4327
def box0 (ns : List Int) (k : Nat) : Bx := (if 10 ^ 18 ≤ cellB ns k then cellB ns k else 0, (cellB ns k % 2147483563 * 40014 + 4327 * (k : Int)) % 2147483563 + 1)
def bRaw (b : Bx) : Int := (b.2 * 39373 + 167) % 2147483647
def bNew (b : Bx) : Int := (bRaw b * 40692 + 41) % 2147483399 + 1
def tkI (b : Bx) (m : Nat) : Int := if 0 < b.1 then b.1 % m else ((bRaw b * 2147483629 + bNew b) / 8209) % m
def tkB (b : Bx) (m : Nat) : Bx := if 0 < b.1 then (b.1 / m, b.2) else (b.1, bNew b)
def tk (b : Bx) (m : Nat) : Nat := (tkI b m).toNat
def BxOk (b : Bx) : Prop := b.2.natAbs < 2 ^ 40
theorem tkI_eq (b : Bx) {m : Nat} (hm : 0 < m) : tkI b m = (tk b m : Int) := by
  unfold tk
  refine (Int.toNat_of_nonneg ?_).symm
  unfold tkI
  split <;> exact Int.emod_nonneg _ (by omega)
theorem tk_lt (b : Bx) {m : Nat} (hm : 0 < m) : tk b m < m := by
  have h := tkI_eq b hm
  have : tkI b m < m := by
    unfold tkI
    split <;> exact Int.emod_lt_of_pos _ (by omega)
  omega
theorem tkB_ok {b : Bx} (h : BxOk b) (m : Nat) : BxOk (tkB b m) := by
  unfold tkB
  split
  · exact h
  · unfold BxOk bNew
    have h1 := Int.emod_nonneg (bRaw b * 40692 + 41) (b := 2147483399) (by decide)
    have h2 := Int.emod_lt_of_pos (bRaw b * 40692 + 41) (b := 2147483399) (by decide)
    have e : (2 : Nat) ^ 40 = 1099511627776 := by decide
    rw [e]
    show ((bRaw b * 40692 + 41) % 2147483399 + 1).natAbs < _
    omega
theorem box0_ok (ns : List Int) (k : Nat) : BxOk (box0 ns k) := by
  unfold BxOk box0
  have h1 := Int.emod_nonneg (cellB ns k % 2147483563 * 40014 + 4327 * (k : Int)) (b := 2147483563) (by decide)
  have h2 := Int.emod_lt_of_pos (cellB ns k % 2147483563 * 40014 + 4327 * (k : Int)) (b := 2147483563) (by decide)
  have e : (2 : Nat) ^ 40 = 1099511627776 := by decide
  rw [e]
  show ((cellB ns k % 2147483563 * 40014 + 4327 * (k : Int)) % 2147483563 + 1).natAbs < _
  omega
/-! fractions and columns drawn -/
def lot3 : List Int := [1, 999, 1000]
def lot6 : List Int := [1, 1, 1, 2, 3, 7]
def worthM (b : Bx) (g : Bool) : Rat :=
  if tk b 5 = 0 then 0 else if g = true ∧ tk b 5 = 1 then mkRat (1 + (tk (tkB b 5) 1000000 : Int)) (lot3.getD (tk (tkB (tkB b 5) 1000000) 3) default).toNat
  else mkRat (tk (tkB b 5) 13 : Int) (lot6.getD (tk (tkB (tkB b 5) 13) 6) default).toNat
def worthB (b : Bx) (g : Bool) : Bx :=
  if tk b 5 = 0 then tkB b 5 else if g = true ∧ tk b 5 = 1 then tkB (tkB (tkB b 5) 1000000) 3 else tkB (tkB (tkB b 5) 13) 6
/-- a drawn fraction -/
structure Drawn (q : Rat) : Prop where
  nn : 0 ≤ q
  den : q.den ∣ 6993000
  num : q.num.natAbs < 2 ^ 20
theorem drawn_mk {a : Int} {d : Nat} (ha : 0 ≤ a) (ha2 : a.natAbs < 2 ^ 20) (hd : d ∣ 6993000) (h0 : 0 < d) : Drawn (mkRat a d) where
  nn := by
    rw [Rat.mkRat_eq_div]
    exact div_nn (d := (d : Int)) ha (by omega)
  den := Nat.dvd_trans (mk_den h0) hd
  num := mk_num ha2
theorem lot_ok3 {i : Nat} (hi : i < 3) : 0 < lot3.getD i default ∧ (lot3.getD i default).toNat ∣ 6993000 := by
  rcases (show i = 0 ∨ i = 1 ∨ i = 2 by omega) with e | e | e <;> subst e <;> decide
theorem lot_ok6 {i : Nat} (hi : i < 6) : 0 < lot6.getD i default ∧ (lot6.getD i default).toNat ∣ 6993000 := by
  rcases (show i = 0 ∨ i = 1 ∨ i = 2 ∨ i = 3 ∨ i = 4 ∨ i = 5 by omega) with e | e | e | e | e | e <;> subst e <;> decide
theorem worth_ok (b : Bx) (g : Bool) : Drawn (worthM b g) := by
  unfold worthM
  split
  · exact ⟨by decide, by decide, by decide⟩
  · split
    · have h1 := tk_lt (tkB b 5) (m := 1000000) (by decide)
      have h2 := lot_ok3 (tk_lt (tkB (tkB b 5) 1000000) (m := 3) (by decide))
      refine drawn_mk (by omega) ?_ h2.2 (by omega)
      have e : (2 : Nat) ^ 20 = 1048576 := by decide
      rw [e]
      omega
    · have h1 := tk_lt (tkB b 5) (m := 13) (by decide)
      have h2 := lot_ok6 (tk_lt (tkB (tkB b 5) 13) (m := 6) (by decide))
      refine drawn_mk (by omega) ?_ h2.2 (by omega)
      have e : (2 : Nat) ^ 20 = 1048576 := by decide
      rw [e]
      omega
theorem worthB_ok {b : Bx} (h : BxOk b) (g : Bool) : BxOk (worthB b g) := by
  unfold worthB
  split
  · exact tkB_ok h _
  · split <;> exact tkB_ok (tkB_ok (tkB_ok h _) _) _
def wsM (g : Bool) : Bx → Nat → List Rat
  | _, 0 => []
  | b, n + 1 => worthM b g :: wsM g (worthB b g) n
def wsB (g : Bool) : Bx → Nat → Bx
  | b, 0 => b
  | b, n + 1 => wsB g (worthB b g) n
theorem wsM_length (g : Bool) : ∀ (n : Nat) (b : Bx), (wsM g b n).length = n
  | 0, _ => rfl
  | n + 1, b => congrArg (· + 1) (wsM_length g n _)
theorem wsM_ok (g : Bool) : ∀ (n : Nat) (b : Bx), ∀ q ∈ wsM g b n, Drawn q
  | 0, _, q, h => by cases h
  | n + 1, b, q, h => by
    rcases List.mem_cons.mp h with e | h
    · rw [e]; exact worth_ok b g
    · exact wsM_ok g n _ q h
theorem wsB_ok (g : Bool) : ∀ (n : Nat) {b : Bx}, BxOk b → BxOk (wsB g b n)
  | 0, _, h => h
  | n + 1, b, h => wsB_ok g n (worthB_ok h g)
theorem ws_outs (g : Bool) {α : Type} : ∀ (xs : List α) (b : Bx), outs (fun b _ => dF (worthM b g)) (fun b _ => worthB b g) b xs = (wsM g b xs.length).map dF
  | [], _ => rfl
  | x :: xs, b => by
    simp only [outs, List.length_cons, wsM, List.map_cons, ws_outs g xs]
theorem ws_fold (g : Bool) {α : Type} : ∀ (xs : List α) (b : Bx), xs.foldl (fun b _ => worthB b g) b = wsB g b xs.length
  | [], _ => rfl
  | x :: xs, b => ws_fold g xs _
def gainsM (b : Bx) (many : Nat) (g : Bool) : List Rat := if tk (wsB g b many) 4 = 0 then List.replicate many ((wsM g b many).getD 0 default) else wsM g b many
def riM (b : Bx) (g : Bool) : Rat := if tk b 4 = 0 then 0 else worthM (tkB b 4) g
def riB (b : Bx) (g : Bool) : Bx := if tk b 4 = 0 then tkB b 4 else worthB (tkB b 4) g
def ltM (b : Bx) (g : Bool) : Rat := if tk b 2 = 0 then worthM (tkB b 2) g else 0
def ltB (b : Bx) (g : Bool) : Bx := if tk b 2 = 0 then worthB (tkB b 2) g else tkB b 2
def b1M (b : Bx) (many : Nat) (g : Bool) : Bx := tkB (wsB g b many) 4
def colM (b : Bx) (many : Nat) (g : Bool) : Col := ⟨gainsM b many g, riM (b1M b many g) g, ltM (riB (b1M b many g) g) g⟩
def colB (b : Bx) (many : Nat) (g : Bool) : Bx := ltB (riB (b1M b many g) g) g
theorem gainsM_length (b : Bx) (many : Nat) (g : Bool) : (gainsM b many g).length = many := by
  unfold gainsM
  split
  · simp
  · exact wsM_length g many b
theorem riB_ok {b : Bx} (h : BxOk b) (g : Bool) : BxOk (riB b g) := by
  unfold riB
  split
  · exact tkB_ok h _
  · exact worthB_ok (tkB_ok h _) g
theorem ltB_ok {b : Bx} (h : BxOk b) (g : Bool) : BxOk (ltB b g) := by
  unfold ltB
  split
  · exact worthB_ok (tkB_ok h _) g
  · exact tkB_ok h _
theorem colB_ok {b : Bx} (h : BxOk b) (many : Nat) (g : Bool) : BxOk (colB b many g) := ltB_ok (riB_ok (tkB_ok (wsB_ok g many h) _) g) g
theorem drawn0 : Drawn 0 := ⟨by decide, by decide, by decide⟩
/-- a drawn column -/
structure DrCol (many : Nat) (c : Col) : Prop where
  len : c.g.length = many
  all : ∀ q ∈ c.all, Drawn q
theorem col_ok (b : Bx) {many : Nat} (hm : 0 < many) (g : Bool) : DrCol many (colM b many g) where
  len := gainsM_length b many g
  all := fun q hq => by
    unfold Col.all colM at hq
    rcases List.mem_append.mp hq with h | h
    · have h : q ∈ gainsM b many g := h
      unfold gainsM at h
      split at h
      · rw [(List.mem_replicate.mp h).2]
        exact wsM_ok g many b _ (FR.getD_mem (by rw [wsM_length]; exact hm))
      · exact wsM_ok g many b q h
    · rcases List.mem_cons.mp h with e | h
      · rw [e]
        show Drawn (riM _ _)
        unfold riM
        split
        · exact drawn0
        · exact worth_ok _ _
      · rw [List.mem_singleton.mp h]
        show Drawn (ltM _ _)
        unfold ltM
        split
        · exact worth_ok _ _
        · exact drawn0
theorem DrCol.fit {many : Nat} {c : Col} (h : DrCol many c) : Fit c.all 6993000 50 := ⟨fun q hq => (h.all q hq).den, by decide, by decide, fun q hq => Nat.lt_trans (h.all q hq).num (by decide)⟩
def colsM (many : Nat) (g : Bool) : Bx → Nat → List Col
  | _, 0 => []
  | b, n + 1 => colM b many g :: colsM many g (colB b many g) n
def colsB (many : Nat) (g : Bool) : Bx → Nat → Bx
  | b, 0 => b
  | b, n + 1 => colsB many g (colB b many g) n
theorem cols_outs (many : Nat) (g : Bool) {α : Type} : ∀ (xs : List α) (b : Bx), outs (fun b _ => dCol (colM b many g)) (fun b _ => colB b many g) b xs = (colsM many g b xs.length).map dCol
  | [], _ => rfl
  | x :: xs, b => by
    simp only [outs, List.length_cons, colsM, List.map_cons, cols_outs many g xs]
theorem cols_fold (many : Nat) (g : Bool) {α : Type} : ∀ (xs : List α) (b : Bx), xs.foldl (fun b _ => colB b many g) b = colsB many g b xs.length
  | [], _ => rfl
  | x :: xs, b => cols_fold many g xs _
theorem colsM_length (many : Nat) (g : Bool) : ∀ (n : Nat) (b : Bx), (colsM many g b n).length = n
  | 0, _ => rfl
  | n + 1, b => congrArg (· + 1) (colsM_length many g n _)
theorem colsM_ok {many : Nat} (hm : 0 < many) (g : Bool) : ∀ (n : Nat) (b : Bx), ∀ c ∈ colsM many g b n, DrCol many c
  | 0, _, q, h => by cases h
  | n + 1, b, q, h => by
    rcases List.mem_cons.mp h with e | h
    · rw [e]; exact col_ok b hm g
    · exact colsM_ok hm g n _ q h
theorem colsB_ok (many : Nat) (g : Bool) : ∀ (n : Nat) {b : Bx}, BxOk b → BxOk (colsB many g b n)
  | 0, _, h => h
  | n + 1, b, h => colsB_ok many g n (colB_ok h many g)
theorem lot_lt {x : Int} (h0 : 0 < x) (h : x.toNat ∣ 6993000) : x.natAbs < 2 ^ 9000 := by
  have h1 := Nat.le_of_dvd (by decide) h
  have h2 : x.natAbs ≤ 6993000 := by omega
  exact Nat.lt_of_le_of_lt h2 (by decide +kernel)
section
variable {vs : List Nat} {tg : PyData → Rho → Rho → Prop} {tst : Rho → Bool → Rho → Prop} {elt : Rho → PyData → Rho → Prop} {R : Bx → Rho} {g : Bool} {b : Bx} {n many : Nat}
theorem lc_worths (hb : BxOk b) (h : ∀ (b : Bx) (x : Nat), BxOk b → ∃ ρa ρb ρc, tg (.int (x : Nat)) (wipeR (R b) vs) ρa ∧ SameOwn (wipeR (R b) vs) ρa ∧ tst ρa true ρb ∧ elt ρb (dF (worthM b g)) ρc ∧ mrg (R b) ρc = R (worthB b g)) :
    Lc vs tg tst elt ((List.range n).map fun (i : Nat) => PyData.int (i : Nat)) (R b) ((wsM g b n).map dF) (R (wsB g b n)) := by
  have := (lc_fold (f := fun (i : Nat) => PyData.int (i : Nat)) (xs := List.range n) (b := b) (R := R) (step := fun b _ => worthB b g) (g := fun b _ => dF (worthM b g)) (J := BxOk) hb fun b x _ hj => ⟨worthB_ok hj g, h b x hj⟩).2
  rwa [ws_outs, ws_fold, List.length_range] at this
theorem lc_cols (hb : BxOk b) (h : ∀ (b : Bx) (x : Nat), BxOk b → ∃ ρa ρb ρc, tg (.int (x : Nat)) (wipeR (R b) vs) ρa ∧ SameOwn (wipeR (R b) vs) ρa ∧ tst ρa true ρb ∧ elt ρb (dCol (colM b many g)) ρc ∧ mrg (R b) ρc = R (colB b many g)) :
    Lc vs tg tst elt ((List.range n).map fun (i : Nat) => PyData.int (i : Nat)) (R b) ((colsM many g b n).map dCol) (R (colsB many g b n)) := by
  have := (lc_fold (f := fun (i : Nat) => PyData.int (i : Nat)) (xs := List.range n) (b := b) (R := R) (step := fun b _ => colB b many g) (g := fun b _ => dCol (colM b many g)) (J := BxOk) hb fun b x _ hj => ⟨colB_ok hj many g, h b x hj⟩).2
  rwa [cols_outs, cols_fold, List.length_range] at this
end
/-- of no great size -/
def Sz (B : Nat) (q : Rat) : Prop := q.num.natAbs < 2 ^ B ∧ q.den < 2 ^ B
theorem Fit.sz {l : List Rat} {M B : Nat} (h : Fit l M B) {q : Rat} (hq : q ∈ l) : Sz B q := ⟨h.num q hq, h.den hq⟩
theorem Sz.up {B C : Nat} {q : Rat} (h : Sz B q) (hBC : B ≤ C) : Sz C q := ⟨pow_lt h.1 hBC, pow_lt h.2 hBC⟩
theorem Sz.d {B : Nat} {q : Rat} (h : Sz B q) : ((q.den : Nat) : Int).natAbs < 2 ^ B := by rw [Int.natAbs_natCast]; exact h.2
theorem dd_toNat (a b : Nat) : ((a : Int) * (b : Int)).toNat = a * b := by rw [← Int.natCast_mul, Int.toNat_natCast]
theorem dd_pos (a b : Rat) : (0 : Int) < (a.den : Int) * (b.den : Int) := by
  rw [← Int.natCast_mul]
  have := Nat.mul_pos a.den_pos b.den_pos
  omega
theorem dot_qs (sh gs : List Rat) : sumR ((sh.zip gs).map fun p => p.1 * p.2) = dot sh gs := rfl
theorem fit_dot {sh gs : List Rat} {M N A B : Nat} (h : Fit sh M A) (h2 : Fit gs N B) : Fit ((sh.zip gs).map fun p => p.1 * p.2) (M * N) (A + B) := Fit.mulL h h2 fun q hq => by
  obtain ⟨p, hp, e⟩ := List.mem_map.mp hq
  exact ⟨p.1, (List.of_mem_zip hp).1, p.2, (List.of_mem_zip hp).2, e.symm⟩
theorem fit_ldot {ld : List Rat} {cols : List Col} {M A : Nat} {h : Col → Rat} (hl : Fit ld M A) (hc : ∀ c ∈ cols, Fit c.all 6993000 50) (hm : ∀ c ∈ cols, h c ∈ c.all) : Fit ((ld.zip cols).map fun p => p.1 * h p.2) (M * 6993000) (A + 50) where
  dv := fun q hq => by
    obtain ⟨p, hp, e⟩ := List.mem_map.mp hq
    have h2 := (List.of_mem_zip hp).2
    rw [← e]
    exact (Fit.mul1 hl (hc _ h2) (List.of_mem_zip hp).1 (hm _ h2)).1
  pos := Nat.mul_pos hl.pos (by decide)
  lt := by
    rw [Nat.pow_add]
    exact Nat.mul_lt_mul'' hl.lt (by decide)
  num := fun q hq => by
    obtain ⟨p, hp, e⟩ := List.mem_map.mp hq
    have h2 := (List.of_mem_zip hp).2
    rw [← e]
    exact (Fit.mul1 hl (hc _ h2) (List.of_mem_zip hp).1 (hm _ h2)).2
theorem zip_le {α β : Type} {l : List α} {r : List β} {n : Nat} (h : l.length ≤ n) : (l.zip r).length ≤ n := by
  rw [List.length_zip]
  omega
theorem fit_pair {c : Rat} {M N A : Nat} {col : Col} (h : Fit [c] N A) (hc : Fit col.all M 50) : Fit [c * col.ri, col.lt] (N * M) (A + 50) where
  dv := fun q hq => by
    rcases List.mem_cons.mp hq with e | hq
    · rw [e]
      exact (Fit.mul1 h hc (List.mem_singleton.mpr rfl) ri_mem).1
    · rw [List.mem_singleton.mp hq]
      exact Nat.dvd_trans (hc.dv _ lt_mem) (Nat.dvd_mul_left _ _)
  pos := Nat.mul_pos h.pos hc.pos
  lt := by
    rw [Nat.pow_add]
    exact Nat.mul_lt_mul'' h.lt hc.lt
  num := fun q hq => by
    rcases List.mem_cons.mp hq with e | hq
    · rw [e]
      exact (Fit.mul1 h hc (List.mem_singleton.mpr rfl) ri_mem).2
    · rw [List.mem_singleton.mp hq]
      exact pow_lt (hc.num _ lt_mem) (by omega)
theorem sum_pair (a b : Rat) : sumR [a, b] = a + b := by
  simp only [sumR]
  grind
theorem sz_worth {ld : List Rat} {cols : List Col} {N r : Nat} (hl : Fit ld N 900) (hc : ∀ c ∈ cols, Fit c.all 6993000 50) (hm : ∀ c ∈ cols, c.g.getD r default ∈ c.all) (hn : ld.length ≤ 100) : Sz 4000 (SL.worth ld cols r) := by
  have fd := fit_ldot hl hc (h := fun c => c.g.getD r default) hm
  have fl := fit_ldot hl hc (h := fun c => c.lt) fun c _ => SL.lt_mem
  have ll : ∀ h : Col → Rat, ((ld.zip cols).map fun p => p.1 * h p.2).length ≤ 1000 := fun h => by rw [List.length_map]; exact Nat.le_trans (zip_le hn) (by decide)
  have z1 := Fit.sz (Fit.sum fd (ll fun c => c.g.getD r default)) (List.mem_singleton.mpr rfl)
  have z2 := Fit.sz (Fit.sum fl (ll fun c => c.lt)) (List.mem_singleton.mpr rfl)
  have e : SL.worth ld cols r = sumR ((ld.zip cols).map fun p => p.1 * p.2.g.getD r default) - sumR ((ld.zip cols).map fun p => p.1 * p.2.lt) := rfl
  rw [e, sub_mk]
  generalize sumR ((ld.zip cols).map fun p => p.1 * p.2.g.getD r default) = x at *
  generalize sumR ((ld.zip cols).map fun p => p.1 * p.2.lt) = y at *
  have a := mul_lt z1.1 z2.d
  have b := mul_lt z2.1 z1.d
  refine ⟨mk_num ?_, ?_⟩
  · refine Nat.lt_of_lt_of_le (m := 2 ^ (1910 + 1910) + 2 ^ (1910 + 1910)) ?_ (by decide +kernel)
    have a' : (x.num * (y.den : Int)).natAbs < 2 ^ (1910 + 1910) := a
    have b' : (y.num * (x.den : Int)).natAbs < 2 ^ (1910 + 1910) := b
    generalize x.num * (y.den : Int) = u at *
    generalize y.num * (x.den : Int) = v at *
    generalize 2 ^ (1910 + 1910) = w at *
    omega
  · refine Nat.lt_of_le_of_lt (Nat.le_of_dvd (Nat.mul_pos x.den_pos y.den_pos) (mk_den (Nat.mul_pos x.den_pos y.den_pos))) ?_
    refine pow_lt (a := 1910 + 1910) ?_ (by decide)
    rw [Nat.pow_add]
    exact Nat.mul_lt_mul'' z1.2 z2.2
theorem one_le_num {q : Rat} (h : 1 ≤ q) : ¬ q.num < (q.den : Int) := fun z => by
  have := (Rat.lt_iff q 1).mpr (by
    show q.num * ((1 : Nat) : Int) < (1 : Int) * (q.den : Int)
    omega)
  exact Rat.not_lt.mpr h this
inductive Shown (cols : List Col) (many : Nat) : PyData → Str → Prop
  | kept {c : Rat} {sh ld : List Rat} : SL.Kept cols many c sh ld → Shown cols many (dKept c sh ld) "kept"
  | lost {ld : List Rat} : SL.Lost cols many ld → Shown cols many (dLost ld) "lost"
theorem map_filterF {α β : Type} (l : List α) (g : α → β) : (l.filter fun _ => false).map g = [] := by
  have : (l.filter fun _ => false) = [] := by simp
  rw [this]
  rfl
section
variable [KS] {ta tb : TE} {ρ ρ1 ρ2 : Rho} {K : PySem.W.Frag}
theorem ev_neNN (h : Ev ta ρ .none ρ1) (h2 : Ev tb ρ1 .none ρ2) : Ev (tOp (rNeU K) ta tb) ρ (.bool false) ρ2 := ev_opR h h2 fun B v w H Q rv rw' _ q => by
  cases rv
  cases rw'
  exact .inl ⟨rfl, q _ H (Same.refl H) (.bl _)⟩
end
theorem sv_for3 [KS] {pr ts : List Nat} {wi : TI} {g : TG} {tb : TS} {RB : Sl → Rho} {s0 : Sl} (hi : EvI wi (RB s0) ((List.range 3).map fun (i : Nat) => PyData.int (i : Nat)) (RB s0))
    (hb : ∀ (k : Nat) (s : Sl), k < 3 → ∃ ρ1 xs, Tg pr ts g (.int (k : Nat)) (RB s) ρ1 ∧ Sv pr tb ρ1 (.next (RB (.own xs)))) : ∃ xs, Sv pr (tFor wi g tb) (RB s0) (.next (RB (.own xs))) := by
  obtain ⟨ρ1, x1, t1, b1⟩ := hb 0 s0 (by decide)
  obtain ⟨ρ2, x2, t2, b2⟩ := hb 1 (.own x1) (by decide)
  obtain ⟨ρ3, x3, t3, b3⟩ := hb 2 (.own x2) (by decide)
  exact ⟨x3, sv_for hi (.nx t1 b1 (.nx t2 b2 (.nx t3 b3 .done)))⟩
def cntM (b : Bx) (g : Bool) : Nat := if g = true then (if tk b 3 = 0 then tk (tkB b 3) 41 else tk (tkB b 3) 9) else tk b 9
def cntB (b : Bx) (g : Bool) : Bx := if g = true then (if tk b 3 = 0 then tkB (tkB b 3) 41 else tkB (tkB b 3) 9) else tkB b 9
theorem cntM_lt (b : Bx) (g : Bool) : cntM b g ≤ 40 := by
  unfold cntM
  split
  · split
    · have := tk_lt (tkB b 3) (m := 41) (by decide); omega
    · have := tk_lt (tkB b 3) (m := 9) (by decide); omega
  · have := tk_lt b (m := 9) (by decide); omega
theorem cntB_ok {b : Bx} (h : BxOk b) (g : Bool) : BxOk (cntB b g) := by
  unfold cntB
  split
  · split <;> exact tkB_ok (tkB_ok h _) _
  · exact tkB_ok h _
/-- what best_shares is asked and gives -/
def Best (cols : List Col) (many : Nat) (d : PyData) : Prop := ∃ (w m : Nat) (T : Tab) (u : Int) (bs : List Int) (q : Option Nat) (n : Nat), FR.Run w m (firstT (cols.map Col.wc) many) 1 (bases0 (cols.map Col.wc).length many) T u bs q n ∧ Fin5 w m many (cols.map Col.wc) T u bs q ∧ d = dBest (cols.map Col.wc) many T u bs q
theorem best {cols : List Col} {m : Nat} (hn : cols.length ≤ 100) (hm : m ≤ 5) (hD : ∀ c ∈ cols, DrCol (m + 1) c) : ∃ d, Best cols (m + 1) d ∧ SL.Told cols (m + 1) d := by
  obtain ⟨T, u, bs, q, n, h1, h2, h3⟩ := SL.solve hn hm (fun c hc => (hD c hc).len) (fun c hc => ⟨_, (hD c hc).fit⟩) fun c hc => ((hD c hc).all _ SL.ri_mem).nn
  exact ⟨_, ⟨_, _, T, u, bs, q, n, h1, h2, rfl⟩, h3⟩
/-- two lots of the same columns -/
theorem both {cols other : List Col} {many : Nat} {d d' : PyData} (hg : ∀ c ∈ cols, c.g.length = many) (h1 : ∀ c ∈ cols, c ∈ other) (h2 : ∀ c ∈ other, c ∈ cols) (h : SL.Told cols many d) (h' : SL.Told other many d') :
    (∃ c sh ld sh' ld', d = dKept c sh ld ∧ d' = dKept c sh' ld' ∧ SL.Kept cols many c sh ld ∧ SL.Kept other many c sh' ld') ∨ (∃ ld ld', d = dLost ld ∧ d' = dLost ld' ∧ SL.Lost cols many ld ∧ SL.Lost other many ld') := by
  cases h with
  | @kept c sh ld k =>
    cases h' with
    | @kept c' sh' ld' k' =>
      have a := SL.same_c hg h1 k.ok k'.ok
      have b := SL.same_c (fun c hc => hg c (h2 c hc)) h2 k'.ok k.ok
      have e : c = c' := Rat.le_antisymm a b
      subst e
      exact .inl ⟨_, _, _, _, _, rfl, rfl, k, k'⟩
    | @lost ld' k' => exact absurd (SL.not_both (fun c hc => hg c (h2 c hc)) h2 k'.ok k.ok) id
  | @lost ld k =>
    cases h' with
    | @kept c' sh' ld' k' => exact absurd (SL.not_both hg h1 k.ok k'.ok) id
    | @lost ld' k' => exact .inr ⟨_, _, rfl, rfl, k, k'⟩
theorem ends {cols : List Col} {m : Nat} {d : PyData} (hm : m ≤ 5) (hD : ∀ c ∈ cols, DrCol (m + 1) c) (hT : SL.Told cols (m + 1) d) :
    (∃ c sh ld, d = dKept c sh ld ∧ SL.Kept cols (m + 1) c sh ld ∧ ∀ other : List Col, other.length ≤ 100 → (∀ c ∈ cols, c ∈ other) → (∀ c ∈ other, c ∈ cols) → ∃ sh' ld', Best other (m + 1) (dKept c sh' ld') ∧ SL.Kept other (m + 1) c sh' ld') ∨
    (∃ ld, d = dLost ld ∧ SL.Lost cols (m + 1) ld ∧ ∀ other : List Col, other.length ≤ 100 → (∀ c ∈ cols, c ∈ other) → (∀ c ∈ other, c ∈ cols) → ∃ ld', Best other (m + 1) (dLost ld') ∧ SL.Lost other (m + 1) ld') := by
  have hg : ∀ c ∈ cols, c.g.length = m + 1 := fun c hc => (hD c hc).len
  cases hT with
  | @kept c sh ld k =>
    refine .inl ⟨c, sh, ld, rfl, k, fun other hl h1 h2 => ?_⟩
    obtain ⟨d', hB, hT'⟩ := best hl hm fun c hc => hD c (h2 c hc)
    rcases both hg h1 h2 (.kept k) hT' with ⟨c1, sh1, ld1, sh', ld', e1, e2, _, k'⟩ | ⟨ld1, ld', e1, _, _, _⟩
    · have ec : c = c1 := by
        have e3 : dF c = dF c1 := by
          unfold dKept at e1
          injection e1 with e1
          injection e1 with _ e1
          injection e1 with e1 _
        cases hT' with
        | @kept c' sh2 ld2 k2 =>
          have a := SL.same_c hg h1 k.ok k2.ok
          have b := SL.same_c (fun c hc => hg c (h2 c hc)) h2 k2.ok k.ok
          have n1 : c.num = c1.num ∧ c.den = c1.den := by
            unfold dF at e3
            injection e3 with e3
            injection e3 with x1 x2
            injection x1 with x1
            injection x2 with x2 _
            injection x2 with x2
            exact ⟨x1, by omega⟩
          exact Rat.ext n1.1 n1.2
        | lost k2 => unfold dKept dLost at e2; cases e2
      subst ec
      rw [e2] at hB
      exact ⟨sh', ld', hB, k'⟩
    · unfold dKept dLost at e1
      cases e1
  | @lost ld k =>
    refine .inr ⟨ld, rfl, k, fun other hl h1 h2 => ?_⟩
    obtain ⟨d', hB, hT'⟩ := best hl hm fun c hc => hD c (h2 c hc)
    rcases both hg h1 h2 (.lost k) hT' with ⟨c1, sh1, ld1, sh', ld', e1, e2, _, k'⟩ | ⟨ld1, ld', e1, e2, _, k'⟩
    · unfold dKept dLost at e1
      cases e1
    · rw [e2] at hB
      exact ⟨ld', hB, k'⟩
theorem eqv_same (c : Rat) : PyData.eqv (dF c) (dF c) = true := by
  unfold dF
  simp [PyData.eqv, PyData.eqvAll]
end LW

end
section
set_option Elab.async false
set_option linter.all false
set_option maxRecDepth 100000
set_option maxHeartbeats 1000000
set_option exponentiation.threshold 20000
namespace K55
open PySem PySem.Spec PyProof.Rows L2 RZ EV FR LW
def topS (i : Nat) : Stmt := PySem.Challenge.pw_fairanyprice_k55_whole_shares_and_loads.main.body.getD i (.Pass ⟨0, 0, 0, 0⟩)
abbrev s_common_part : Stmt := topS 4
theorem sc_common_part : FnScope ["one", "two"] ["one", "two"] (defScope s_common_part) := ⟨rfl, rfl, rfl, by decide +kernel, rfl, by decide +kernel, by decide +kernel⟩
def G_common_part : Rho → PyData → Rho → Prop := gF (fun ds r => ∃ a b : Int, ds = [.int a, .int b] ∧ r = .int (Int.gcd a b))

abbrev s_fraction_of : Stmt := topS 5
theorem sc_fraction_of : FnScope ["n", "d", "part"] ["n", "d"] (defScope s_fraction_of) := ⟨rfl, rfl, rfl, by decide +kernel, rfl, by decide +kernel, by decide +kernel⟩
def G_fraction_of : Rho → PyData → Rho → Prop := gF (fun ds r => ∃ n d : Int, ds = [.int n, .int d] ∧ 0 < d ∧ d.natAbs < 2 ^ 9000 ∧ r = dF (mkRat n d.toNat))

abbrev s_common_under : Stmt := topS 7
theorem sc_common_under : FnScope ["some", "under", "n", "d"] ["some"] (defScope s_common_under) := ⟨rfl, rfl, rfl, by decide +kernel, rfl, by decide +kernel, by decide +kernel⟩
def G_common_under : Rho → PyData → Rho → Prop := gF (fun ds r => ∃ (qs : List Rat) (M : Nat), ds = [.tuple (qs.map dF)] ∧ (∀ q ∈ qs, q.den ∣ M) ∧ 0 < M ∧ M < 2 ^ 4000 ∧ r = .int (lcmL qs : Nat))

abbrev s_whole_column : Stmt := topS 8
theorem sc_whole_column : FnScope ["column", "gains", "rise", "let", "under", "found", "n", "d"] ["column"] (defScope s_whole_column) := ⟨rfl, rfl, rfl, by decide +kernel, rfl, by decide +kernel, by decide +kernel⟩
def G_whole_column : Rho → PyData → Rho → Prop := gF (fun ds r => ∃ (c : Col) (M : Nat), ds = [dCol c] ∧ c.g ≠ [] ∧ c.g.length ≤ 900 ∧ Fit c.all M 4000 ∧ r = dWC c.wc)

abbrev s_first_table : Stmt := topS 9
theorem sc_first_table : FnScope ["columns", "many", "rows", "row", "left", "other", "column"] ["columns", "many"] (defScope s_first_table) := ⟨rfl, rfl, rfl, by decide +kernel, rfl, by decide +kernel, by decide +kernel⟩
def G_first_table : Rho → PyData → Rho → Prop := gF (fun ds r => ∃ (cs : List WC) (many : Nat), ds = [.list (cs.map dWC), .int many] ∧ 1 ≤ many ∧ many ≤ 100 ∧ cs.length ≤ 100 ∧ (∀ c ∈ cs, c.g.length = many) ∧ r = dT (firstT cs many))

abbrev s_entering_place : Stmt := topS 10
theorem sc_entering_place : FnScope ["table", "place", "worth"] ["table"] (defScope s_entering_place) := ⟨rfl, rfl, rfl, by decide +kernel, rfl, by decide +kernel, by decide +kernel⟩
def G_entering_place : Rho → PyData → Rho → Prop := gF (fun ds r => ∃ T : Tab, ds = [dT T] ∧ T ≠ [] ∧ r = (match enterP T with | none => PyData.none | some p => .int (p : Nat)))

abbrev s_leaving_row : Stmt := topS 11
theorem sc_leaving_row : FnScope ["table", "bases", "place", "best", "row", "base", "here", "there"] ["table", "bases", "place"] (defScope s_leaving_row) := ⟨rfl, rfl, rfl, by decide +kernel, rfl, by decide +kernel, by decide +kernel⟩
def G_leaving_row : Rho → PyData → Rho → Prop := gF (fun ds r => ∃ (T : Tab) (bs : List Int) (p m w : Nat), ds = [dT T, .list (bs.map .int), .int (p : Nat)] ∧ GT T m w ∧ bs.length < m ∧ p < w ∧ r = optD (leaveP T bs p))

abbrev s_turned : Stmt := topS 12
theorem sc_turned : FnScope ["table", "under", "row", "place", "by", "found", "number", "line", "at", "one", "other"] ["table", "under", "row", "place"] (defScope s_turned) := ⟨rfl, rfl, rfl, by decide +kernel, rfl, by decide +kernel, by decide +kernel⟩
def G_turned : Rho → PyData → Rho → Prop := gF (fun ds d => ∃ (T : Tab) (u : Int) (r p m w : Nat), ds = [dT T, .int u, .int (r : Nat), .int (p : Nat)] ∧ GT T m w ∧ r < m ∧ p < w ∧ 0 < u ∧ u.natAbs < 2 ^ 800 ∧ d = dT (turnT T u r p))

abbrev s_searched : Stmt := topS 13
theorem sc_searched : FnScope ["columns", "many", "table", "under", "bases", "place", "row"] ["columns", "many"] (defScope s_searched) := ⟨rfl, rfl, rfl, by decide +kernel, rfl, by decide +kernel, by decide +kernel⟩
def G_searched : Rho → PyData → Rho → Prop := gF (fun ds d => ∃ (cs : List WC) (many w m : Nat) (T : Tab) (u : Int) (bs : List Int) (q : Option Nat) (n : Nat), ds = [.list (cs.map dWC), .int many] ∧ 1 ≤ many ∧ many ≤ 90 ∧ cs.length ≤ 100 ∧ (∀ c ∈ cs, c.g.length = many) ∧ Run w m (firstT cs many) 1 (bases0 cs.length many) T u bs q n ∧ d = dRes T u bs q)

abbrev s_kept_shares : Stmt := topS 14
theorem sc_kept_shares : FnScope ["columns", "many", "table", "under", "bases", "price", "shares", "loads", "row", "base", "column"] ["columns", "many", "table", "under", "bases"] (defScope s_kept_shares) := ⟨rfl, rfl, rfl, by decide +kernel, rfl, by decide +kernel, by decide +kernel⟩
def G_kept_shares : Rho → PyData → Rho → Prop := gF (fun ds d => ∃ (cs : List WC) (many : Nat) (T : Tab) (u : Int) (bs : List Int) (w m : Nat), ds = [.list (cs.map dWC), .int many, dT T, .int u, .list (bs.map .int)] ∧ Good w m T u bs ∧ cs.length + many < w ∧ cs.length ≤ 100 ∧ many ≤ 90 ∧ (∀ b ∈ bs, 0 ≤ b) ∧ (∀ c ∈ cs, c.un.natAbs < 2 ^ 4000) ∧ d = dKept (priceK T u) (sharesK cs many T u) (loadsK cs T u bs))

abbrev s_lost_loads : Stmt := topS 15
theorem sc_lost_loads : FnScope ["columns", "table", "under", "bases", "place", "gain", "loads", "row", "base", "column"] ["columns", "table", "under", "bases", "place"] (defScope s_lost_loads) := ⟨rfl, rfl, rfl, by decide +kernel, rfl, by decide +kernel, by decide +kernel⟩
def G_lost_loads : Rho → PyData → Rho → Prop := gF (fun ds d => ∃ (cs : List WC) (T : Tab) (u : Int) (bs : List Int) (p w m : Nat), ds = [.list (cs.map dWC), dT T, .int u, .list (bs.map .int), .int (p : Nat)] ∧ Good w m T u bs ∧ p < w ∧ 0 < gainL T p ∧ cs.length ≤ 100 ∧ (∀ b ∈ bs, 0 ≤ b) ∧ (∀ c ∈ cs, c.un.natAbs < 2 ^ 4000) ∧ d = dLost (loadsL cs T u bs p))

abbrev s_best_shares : Stmt := topS 16
theorem sc_best_shares : FnScope ["columns", "many", "found", "table", "under", "bases", "place", "column"] ["columns", "many"] (defScope s_best_shares) := ⟨rfl, rfl, rfl, by decide +kernel, rfl, by decide +kernel, by decide +kernel⟩
def G_best_shares : Rho → PyData → Rho → Prop := gF (fun ds d => ∃ (cols : List Col) (many w m : Nat) (T : Tab) (u : Int) (bs : List Int) (q : Option Nat) (n : Nat), ds = [.tuple (cols.map dCol), .int many] ∧ 1 ≤ many ∧ many ≤ 90 ∧ cols.length ≤ 100 ∧ (∀ c ∈ cols, c.g.length = many) ∧ (∀ c ∈ cols, c.g ≠ [] ∧ c.g.length ≤ 900 ∧ ∃ M, Fit c.all M 4000) ∧ FR.Run w m (firstT (cols.map Col.wc) many) 1 (bases0 (cols.map Col.wc).length many) T u bs q n ∧ Fin5 w m many (cols.map Col.wc) T u bs q ∧ d = dBest (cols.map Col.wc) many T u bs q)

abbrev s__law_take : Stmt := topS 19
theorem sc__law_take : FnScope ["box", "many", "digit", "raw"] ["box", "many"] (defScope s__law_take) := ⟨rfl, rfl, rfl, by decide +kernel, rfl, by decide +kernel, by decide +kernel⟩
def G__law_take : Rho → PyData → Rho → Prop := gB (fun bx ds r bx' => ∃ (b : Bx) (m : Nat), ds = [.int (m : Nat)] ∧ bx = dBx b ∧ bx' = dBx (tkB b m) ∧ 0 < m ∧ m < 2 ^ 60 ∧ BxOk b ∧ r = .int (tk b m : Nat))

abbrev s__law_pick : Stmt := topS 20
theorem sc__law_pick : FnScope ["box", "some"] ["box", "some"] (defScope s__law_pick) := ⟨rfl, rfl, rfl, by decide +kernel, rfl, by decide +kernel, by decide +kernel⟩
def G__law_pick : Rho → PyData → Rho → Prop := gB (fun bx ds r bx' => ∃ (b : Bx) (xs : List Int), ds = [.list (xs.map .int)] ∧ bx = dBx b ∧ bx' = dBx (tkB b xs.length) ∧ xs ≠ [] ∧ xs.length ≤ 100 ∧ BxOk b ∧ r = .int (xs.getD (tk b xs.length) default))

abbrev s__law_part : Stmt := topS 21
theorem sc__law_part : FnScope ["one", "two", "turn"] ["one", "two"] (defScope s__law_part) := ⟨rfl, rfl, rfl, by decide +kernel, rfl, by decide +kernel, by decide +kernel⟩
def G__law_part : Rho → PyData → Rho → Prop := gF (fun ds r => ∃ n d : Int, ds = [.int n, .int d] ∧ 0 < d ∧ d.natAbs < 2 ^ 9000 ∧ r = .int (Int.gcd n d : Nat))

abbrev s__law_frac : Stmt := topS 22
theorem sc__law_frac : FnScope ["n", "d", "part"] ["n", "d"] (defScope s__law_frac) := ⟨rfl, rfl, rfl, by decide +kernel, rfl, by decide +kernel, by decide +kernel⟩
def G__law_frac : Rho → PyData → Rho → Prop := gF (fun ds r => ∃ n d : Int, ds = [.int n, .int d] ∧ 0 < d ∧ d.natAbs < 2 ^ 9000 ∧ r = dF (mkRat n d.toNat))

abbrev s__law_is_frac : Stmt := topS 23
theorem sc__law_is_frac : FnScope ["value", "one"] ["value"] (defScope s__law_is_frac) := ⟨rfl, rfl, rfl, by decide +kernel, rfl, by decide +kernel, by decide +kernel⟩
def G__law_is_frac : Rho → PyData → Rho → Prop := gF (fun ds r => ∃ q : Rat, ds = [dF q] ∧ q.den < 2 ^ 9000 ∧ r = .bool true)

abbrev s__law_common : Stmt := topS 24
theorem sc__law_common : FnScope ["some", "found", "n", "d"] ["some"] (defScope s__law_common) := ⟨rfl, rfl, rfl, by decide +kernel, rfl, by decide +kernel, by decide +kernel⟩
def G__law_common : Rho → PyData → Rho → Prop := gF (fun ds r => ∃ (tp : Bool) (qs : List Rat) (M : Nat), ds = [sq tp (qs.map dF)] ∧ (∀ q ∈ qs, q.den ∣ M) ∧ 0 < M ∧ M < 2 ^ 4000 ∧ r = .int (lcmL qs : Nat))

abbrev s__law_worth : Stmt := topS 25
theorem sc__law_worth : FnScope ["box", "great", "kind"] ["box", "great"] (defScope s__law_worth) := ⟨rfl, rfl, rfl, by decide +kernel, rfl, by decide +kernel, by decide +kernel⟩
def G__law_worth : Rho → PyData → Rho → Prop := gB (fun bx ds r bx' => ∃ (b : Bx) (g : Bool), ds = [.bool g] ∧ bx = dBx b ∧ bx' = dBx (worthB b g) ∧ BxOk b ∧ r = dF (worthM b g))

abbrev s__law_column : Stmt := topS 26
theorem sc__law_column : FnScope ["box", "many", "great", "gains", "rise", "row"] ["box", "many", "great"] (defScope s__law_column) := ⟨rfl, rfl, rfl, by decide +kernel, rfl, by decide +kernel, by decide +kernel⟩
def G__law_column : Rho → PyData → Rho → Prop := gB (fun bx ds r bx' => ∃ (b : Bx) (many : Nat) (g : Bool), ds = [.int (many : Nat), .bool g] ∧ bx = dBx b ∧ bx' = dBx (colB b many g) ∧ 0 < many ∧ many ≤ 90 ∧ BxOk b ∧ r = dCol (colM b many g))

abbrev s__law_times : Stmt := topS 29
theorem sc__law_times : FnScope ["one", "two"] ["one", "two"] (defScope s__law_times) := ⟨rfl, rfl, rfl, by decide +kernel, rfl, by decide +kernel, by decide +kernel⟩
def G__law_times : Rho → PyData → Rho → Prop := gF (fun ds r => ∃ a b : Rat, ds = [dF a, dF b] ∧ Sz 4000 a ∧ Sz 4000 b ∧ r = dF (a * b))

abbrev s__law_less_than : Stmt := topS 30
theorem sc__law_less_than : FnScope ["one", "two"] ["one", "two"] (defScope s__law_less_than) := ⟨rfl, rfl, rfl, by decide +kernel, rfl, by decide +kernel, by decide +kernel⟩
def G__law_less_than : Rho → PyData → Rho → Prop := gF (fun ds r => ∃ a b : Rat, ds = [dF a, dF b] ∧ Sz 4000 a ∧ Sz 4000 b ∧ r = .bool (decide (a < b)))

abbrev s__law_sum : Stmt := topS 28
theorem sc__law_sum : FnScope ["some", "under", "n", "d"] ["some"] (defScope s__law_sum) := ⟨rfl, rfl, rfl, by decide +kernel, rfl, by decide +kernel, by decide +kernel⟩
def G__law_sum : Rho → PyData → Rho → Prop := gF (fun ds r => ∃ (tp : Bool) (qs : List Rat) (M : Nat), ds = [sq tp (qs.map dF)] ∧ Fit qs M 4000 ∧ qs.length ≤ 1000 ∧ r = dF (SL.sumR qs))

abbrev s__law_are_parts : Stmt := topS 27
theorem sc__law_are_parts : FnScope ["value", "many", "one"] ["value", "many"] (defScope s__law_are_parts) := ⟨rfl, rfl, rfl, by decide +kernel, rfl, by decide +kernel, by decide +kernel⟩
def G__law_are_parts : Rho → PyData → Rho → Prop := gF (fun ds r => ∃ (qs : List Rat) (n : Nat), ds = [.tuple (qs.map dF), .int (n : Nat)] ∧ qs.length = n ∧ qs.length ≤ 1000 ∧ (∀ q ∈ qs, 0 ≤ q ∧ q.den < 2 ^ 9000) ∧ r = .bool true)

abbrev s__law_pay : Stmt := topS 31
theorem sc__law_pay : FnScope ["columns", "c", "shares", "gains", "rise", "let", "paid", "one", "two"] ["columns", "c", "shares"] (defScope s__law_pay) := ⟨rfl, rfl, rfl, by decide +kernel, rfl, by decide +kernel, by decide +kernel⟩
def G__law_pay : Rho → PyData → Rho → Prop := gF (fun ds r => ∃ (cols : List Col) (c : Rat) (sh : List Rat) (N : Nat), ds = [.tuple (cols.map dCol), dF c, .tuple (sh.map dF)] ∧ Fit (c :: sh) N 900 ∧ (∀ col ∈ cols, Fit col.all 6993000 50) ∧ sh.length ≤ 90 ∧ (∀ col ∈ cols, SL.dot sh col.g ≤ c * col.ri + col.lt) ∧ r = .bool true)

abbrev s__law_worths : Stmt := topS 32
theorem sc__law_worths : FnScope ["columns", "loads", "many", "found", "row", "due", "let", "load", "column"] ["columns", "loads", "many"] (defScope s__law_worths) := ⟨rfl, rfl, rfl, by decide +kernel, rfl, by decide +kernel, by decide +kernel⟩
def G__law_worths : Rho → PyData → Rho → Prop := gF (fun ds r => ∃ (cols : List Col) (ld : List Rat) (many N : Nat), ds = [.tuple (cols.map dCol), .tuple (ld.map dF), .int (many : Nat)] ∧ Fit ld N 900 ∧ (∀ col ∈ cols, Fit col.all 6993000 50) ∧ (∀ col ∈ cols, col.g.length = many) ∧ ld.length ≤ 100 ∧ many ≤ 90 ∧ r = .list ((List.range many).map fun r => dF (SL.worth ld cols r)))

abbrev s__law_shown : Stmt := topS 33
theorem sc__law_shown : FnScope ["columns", "many", "told", "rise", "worths", "load", "column", "one"] ["columns", "many", "told"] (defScope s__law_shown) := ⟨rfl, rfl, rfl, by decide +kernel, rfl, by decide +kernel, by decide +kernel⟩
def G__law_shown : Rho → PyData → Rho → Prop := gF (fun ds r => ∃ (cols : List Col) (many : Nat) (told : PyData) (kind : Str), ds = [.tuple (cols.map dCol), .int (many : Nat), told] ∧ Shown cols many told kind ∧ cols.length ≤ 100 ∧ many ≤ 90 ∧ (∀ col ∈ cols, DrCol many col) ∧ r = .str kind)

abbrev s__law_box : Stmt := topS 18
theorem sc__law_box : FnScope ["script", "k", "cell"] ["script", "k"] (defScope s__law_box) := ⟨rfl, rfl, rfl, by decide +kernel, rfl, by decide +kernel, by decide +kernel⟩
def G__law_box : List PyData → List PyData → Prop := (fun ds xs => ∃ (ns : List Int) (k : Nat), ds = [.dict [(.list (ns.map .int), .none)], .int (k : Nat)] ∧ k < 3 ∧ xs = dBx (box0 ns k))

abbrev s_law : Stmt := topS 34
theorem sc_law : FnScope ["script", "k", "box", "many", "great", "count", "columns", "told", "kind", "other", "back", "turn"] ["script"] (defScope s_law) := ⟨rfl, rfl, rfl, by decide +kernel, rfl, by decide +kernel, by decide +kernel⟩
def G_law : Rho → PyData → Rho → Prop := gF (fun ds r => ∃ ns : List Int, ds = [.dict [(.list (ns.map .int), .none)]] ∧ r = .bool true)
end K55

end
section
set_option Elab.async false
set_option linter.all false
set_option maxRecDepth 100000
set_option maxHeartbeats 1000000
set_option exponentiation.threshold 20000
namespace K55
open PySem PySem.Spec PyProof.Rows L2 RZ EV FR LW
section
variable [KS] {P : Program} {w : World} {mg : Str → Option Value} {base : Heap}
theorem ok__law_box (T : TopF KS.K mg "_law_box" s__law_box) (m_len : mg "len" = none) (m_abs : mg "abs" = none) (m_int : mg "int" = none)  : CalF P w KS.K mg base 1 "_law_box" ["script", "k"] G__law_box := by
  refine cal_fresh T (fun _ _ _ _ _ _ us hl => match us, hl with | [_, _], _ => rfl) sc__law_box (fun ds r h => by obtain ⟨ns, k, rfl, _⟩ := h; rfl) fun f cdv A outer s H E hr => ⟨_, (pss_cons (ps_set (i := 2) sc__law_box.nd rfl (Or.inl rfl) (pe_op (addK (K := KS.K) rfl) (pe_op op_mulU pe_int (pv 1)) pe_int))
  (pss_cons (ps_if (pt_cmpR op_lt (pv 1) (pe_callB (lenK (K := KS.K) rfl) (by rfl) m_len PySem.boot_len (pa_cons (pv 0) pa_nil)) (nomark _)) (pss_one (ps_set (i := 2) sc__law_box.nd rfl (Or.inl rfl) (pe_callB call_abs (by rfl) m_abs (by decide +kernel) (pa_cons (pe_callTy call_int1 (by rfl) m_int (by decide +kernel) (pa_cons (pe_ix (ixK (K := KS.K) rfl) (pv 0) (pv 1) (fun _ _ => rfl)) pa_nil)) pa_nil)))) (pss_one (ps_if (pt_cmpR op_gt (pe_callB (lenK (K := KS.K) rfl) (by rfl) m_len PySem.boot_len (pa_cons (pv 0) pa_nil)) pe_int (nomark _)) (pss_one (ps_set (i := 2) sc__law_box.nd rfl (Or.inl rfl) (pe_op (addK (K := KS.K) rfl) (pv 2) (pe_op op_mulU (pe_op op_mod (pe_callTy call_int1 (by rfl) m_int (by decide +kernel) (pa_cons (pe_callB call_abs (by rfl) m_abs (by decide +kernel) (pa_cons (pe_callTy call_int1 (by rfl) m_int (by decide +kernel) (pa_cons (pe_ix (ixK (K := KS.K) rfl) (pv 0) (pe_op op_mod (pe_callTy call_int1 (by rfl) m_int (by decide +kernel) (pa_cons (pv 1) pa_nil)) (pe_callB (lenK (K := KS.K) rfl) (by rfl) m_len PySem.boot_len (pa_cons (pv 0) pa_nil))) (fun _ _ => rfl)) pa_nil)) pa_nil)) pa_nil)) pe_int) pe_int)))) pss_nil)))
  (pss_one (ps_ret (pe_lst (pa_cons (pe_ifExp (pt_cmpR op_ge (pv 2) (pe_op op_pow pe_int pe_int) (nomark _)) (pv 2) pe_int) (pa_cons (pe_op (addK (K := KS.K) rfl) (pe_op op_mod (pe_callTy call_int1 (by rfl) m_int (by decide +kernel) (pa_cons (pe_op (addK (K := KS.K) rfl) (pe_op op_mulU (pe_op op_mod (pe_callTy call_int1 (by rfl) m_int (by decide +kernel) (pa_cons (pv 2) pa_nil)) pe_int) pe_int) (pe_op op_mulU pe_int (pv 1))) pa_nil)) pe_int) pe_int) pa_nil))))))), ?_⟩

  rintro ds xs ⟨ns, k, rfl, hk, rfl⟩
  have hkb : ((k : Nat) : Int).natAbs < 2 ^ 40 := by
    have e2 : (2 : Nat) ^ 40 = 1099511627776 := by decide
    rw [e2, Int.natAbs_natCast]
    omega
  refine se_cons (sv_set (ev_add (ev_mul ev_int (ev_var rfl) ?a1) ev_int) (show 2 < 3 by decide) (by decide)) (se_cons (ρ1 := [.d (.dict [(.list (ns.map .int), .none)]), .d (.int (k : Nat)), .d (.int (cellB ns k))]) ?s1 (se_ret (ef_eq (ef_lst (ea_cons (ev_if (et_test (ev_op0b (ev_var rfl) (ev_opC ev_int ev_int ?g1))) (fun h => (ev_var rfl)) (fun h => ev_int)) (ea_cons (ev_add (ev_opC (ev_toInt (ev_add (ev_mul (ev_opC (ev_toInt (ev_var rfl)) ev_int ?g2) ev_int ?g3) (ev_mul ev_int (ev_var rfl) ?g4))) ev_int ?g5) ev_int) ea_nil)) (small_le (show 2 ≤ 1000 by decide))) ?fin)))
  case a1 => exact mulx (a := 40) (b := 40) (by decide) hkb
  case s1 =>
    unfold cellB
    by_cases h : k < ns.length
    · rw [if_pos h]
      refine sv_nx (sv_ifT (et_eq (et_test (ev_op0b (ev_var rfl) (ev_lenS (ev_var rfl)))) ?b1) (sv_set (ev_abs (ev_toInt (ev_ixS (d := .int (ns.getD k 0)) (ev_var rfl) (ev_var rfl) ?b2))) (show 2 < 3 by decide) (by decide))) (by rfl)
      case b1 => exact decide_eq_true (by rw [List.length_map]; omega)
      case b2 => exact at_nat (f := PyData.int) 0 h
    · rw [if_neg h]
      by_cases h2 : 0 < ns.length
      · rw [if_pos h2]
        have hl : (0 : Int) < ((ns.map PyData.int).length : Nat) := by rw [List.length_map]; omega
        refine sv_nx (sv_ifF (et_eq (et_test (ev_op0b (ev_var rfl) (ev_lenS (ev_var rfl)))) ?c1) (sv_ifT (et_eq (et_test (ev_op0b (ev_lenS (ev_var rfl)) ev_int)) ?c2) (sv_set (ev_add (ev_var rfl) (ev_mul (ev_opC (ev_toInt (ev_abs (ev_toInt (ev_ixS (d := .int (ns.getD (k % ns.length) 0)) (ev_var rfl) (ev_opC (ev_toInt (ev_var rfl)) (ev_lenS (ev_var rfl)) ?c3) ?c4)))) ev_int ?c5) ev_int ?c6)) (show 2 < 3 by decide) (by decide)))) (by rfl)
        case c1 => exact decide_eq_false (by rw [List.length_map]; omega)
        case c2 => exact decide_eq_true hl
        case c3 => exact hl
        case c4 =>
          have e : (k : Int) % ((ns.map PyData.int).length : Nat) = ((k % ns.length : Nat) : Int) := by rw [List.length_map]; rfl
          rw [e]
          exact at_nat (f := PyData.int) 0 (Nat.mod_lt _ h2)
        case c5 => show (0 : Int) < 2147483563; decide
        case c6 =>
          refine mulx (a := 40) (b := 40) ?_ (by decide)
          have e2 : (2 : Nat) ^ 40 = 1099511627776 := by decide
          have r0 := Int.emod_nonneg ((ns.getD (k % ns.length) 0).natAbs : Int) (b := 2147483563) (by decide)
          have r1 := Int.emod_lt_of_pos ((ns.getD (k % ns.length) 0).natAbs : Int) (b := 2147483563) (by decide)
          rw [e2]
          omega
      · rw [if_neg h2]
        refine sv_nx (sv_ifF (et_eq (et_test (ev_op0b (ev_var rfl) (ev_lenS (ev_var rfl)))) ?d1) (sv_ifF (et_eq (et_test (ev_op0b (ev_lenS (ev_var rfl)) ev_int)) ?d2) sv_next)) (by rfl)
        case d1 => exact decide_eq_false (by rw [List.length_map]; omega)
        case d2 => exact decide_eq_false (by rw [List.length_map]; omega)
  case g1 => exact ⟨by decide, by decide, by decide⟩
  case g2 => show (0 : Int) < 2147483563; decide
  case g3 =>
    refine mulx (a := 40) (b := 40) ?_ (by decide)
    have e2 : (2 : Nat) ^ 40 = 1099511627776 := by decide
    have r0 := Int.emod_nonneg (cellB ns k) (b := 2147483563) (by decide)
    have r1 := Int.emod_lt_of_pos (cellB ns k) (b := 2147483563) (by decide)
    rw [e2]
    omega
  case g4 => exact mulx (a := 40) (b := 40) (by decide) hkb
  case g5 => show (0 : Int) < 2147483563; decide
  case fin =>
    unfold dBx box0
    by_cases h : 10 ^ 18 ≤ cellB ns k
    · have h' : decide ((10 : Int) ^ (18 : Int).toNat ≤ cellB ns k) = true := decide_eq_true h
      rw [if_pos h, if_pos h']
    · have h' : decide ((10 : Int) ^ (18 : Int).toNat ≤ cellB ns k) = false := decide_eq_false h
      rw [if_neg h, h']
      rfl

end
end K55

end
section
set_option Elab.async false
set_option linter.all false
set_option maxRecDepth 100000
set_option maxHeartbeats 1000000
set_option exponentiation.threshold 20000
namespace K55
open PySem PySem.Spec PyProof.Rows L2 RZ EV FR LW
section
variable [KS] {P : Program} {w : World} {mg : Str → Option Value} {base : Heap}
theorem ok_entering_place (T : TopF KS.K mg "entering_place" s_entering_place) (m_enumerate : mg "enumerate" = none)  : Cal P w KS.K mg base 1 "entering_place" ["table"] G_entering_place := by
  refine cal_pure T (fun _ _ _ _ _ _ us hl => match us, hl with | [_], _ => rfl) sc_entering_place (fun ds r h => by obtain ⟨T, rfl, _⟩ := h; rfl) fun f cdv A outer s H E hr => ⟨_, (pss_cons (ps_for PassesOwn.never rfl (pi_enumK (K := KS.K) rfl (by rfl) m_enumerate (pe_slice (slK (K := KS.K) rfl) (pe_ix (ixK (K := KS.K) rfl) (pv 0) (pe_un un_neg pe_int) (fun _ _ => rfl)) po_none (po_some (pe_un un_neg pe_int)))) (pg_tupK (K := KS.K) (n := 2) rfl rfl (pgs_cons (pg_name (i := 1) sc_entering_place.nd rfl (Or.inl rfl)) (pgs_cons (pg_name (i := 2) sc_entering_place.nd rfl (Or.inl rfl)) pgs_nil))) (pss_one (ps_if (pt_cmpR op_lt (pv 2) pe_int (nomark _)) (pss_one (ps_ret (pv 1))) pss_nil)))
  (pss_one (ps_ret pe_non))), ?_⟩

  rintro ds r ⟨T, rfl, h1, rfl⟩
  have hcut : cutD ((T.getLastD []).map PyData.int) none (some (-1)) = (T.getLastD []).dropLast.map PyData.int := by
    rw [cut_one, List.map_dropLast]
  have loop : ∀ tb : TS, (∀ (x : Int) (i : Nat), decide (x < 0) = false → Sv [] tb [.d (dT T), .d (.int (i : Nat)), .d (.int x)] (.next [.d (dT T), .no, .no])) → (∀ (x : Int) (i : Nat), decide (x < 0) = true → ∃ ρe, Sv [] tb [.d (dT T), .d (.int (i : Nat)), .d (.int x)] (.ret (.int (i : Nat)) ρe)) → _ := fun tb hF hT =>
    lp_find (tg := Tg [] [1, 2] (gTup KS.K 2 (gCons (gName 1) (gCons (gName 2) gNil)))) (body := Sv [] tb) (ρ := [.d (dT T), .no, .no]) (xs := (T.getLastD []).dropLast.zipIdx) (f := fun q => .tuple [.int (q.2 : Nat), PyData.int q.1]) (p := fun q => decide (q.1 < 0)) (rt := fun q => .int (q.2 : Nat))
      (fun q hq hp => ⟨[.d (dT T), .d (.int (q.2 : Nat)), .d (.int q.1)], (tg_tup (tgs_cons (tg_name (show 1 < 3 by decide) (by decide) (by decide)) (tgs_cons (tg_name (show 2 < 3 by decide) (by decide) (by decide)) tgs_nil)) (by rfl)), hF q.1 q.2 hp⟩) (fun q hq hp => by
        obtain ⟨ρe, h⟩ := hT q.1 q.2 hp
        exact ⟨[.d (dT T), .d (.int (q.2 : Nat)), .d (.int q.1)], ρe, (tg_tup (tgs_cons (tg_name (show 1 < 3 by decide) (by decide) (by decide)) (tgs_cons (tg_name (show 2 < 3 by decide) (by decide) (by decide)) tgs_nil)) (by rfl)), h⟩)
  unfold enterP
  cases e : (T.getLastD []).dropLast.zipIdx.find? (fun q => decide (q.1 < 0)) with
  | none =>
    refine ⟨_, (sv_cons (sv_for (ts := [1, 2]) (ei_enumm (EvF.ev (ef_eq (ef_sliceL (Ev.rl (ev_ixL (d := (dR (T.getLastD []))) (ev_var rfl) (ev_neg ev_int) ?a1)) eo_none eo_neg) hcut))) (o := .next [.d (dT T), .no, .no]) ?a2)
   (sv_rt (sv_ret ev_non) ?fin))⟩
    case a1 => exact at_lastM (f := dR) [] h1
    case a2 =>
      refine (loop _ (fun x i h => ?_) fun x i h => ?_).1 e
      · refine sv_post (sv_ifF (et_eq (et_test (ev_op0b (ev_var rfl) ev_int)) ?f1) sv_next) (by repeat' (first | exact Wk.nil | apply Wk.same | apply Wk.drop))
        case f1 => exact h
      · exact ⟨_, (sv_ifT (et_eq (et_test (ev_op0b (ev_var rfl) ev_int)) h) (sv_rt (sv_ret (ev_var rfl)) rfl))⟩
    case fin => rfl
  | some q =>
    refine xr_stop (xr_for (ts := [1, 2]) (ei_enumm (EvF.ev (ef_eq (ef_sliceL (Ev.rl (ev_ixL (d := (dR (T.getLastD []))) (ev_var rfl) (ev_neg ev_int) ?a1)) eo_none eo_neg) hcut))) ((loop _ (fun x i h => ?_) fun x i h => ?_).2 q e))
    case a1 => exact at_lastM (f := dR) [] h1
    · exact sv_post (sv_ifF (et_eq (et_test (ev_op0b (ev_var rfl) ev_int)) h) sv_next) (by repeat' (first | exact Wk.nil | apply Wk.same | apply Wk.drop))
    · exact ⟨_, (sv_ifT (et_eq (et_test (ev_op0b (ev_var rfl) ev_int)) h) (sv_rt (sv_ret (ev_var rfl)) rfl))⟩

end
end K55

end
section
set_option Elab.async false
set_option linter.all false
set_option maxRecDepth 100000
set_option maxHeartbeats 1000000
set_option exponentiation.threshold 20000
namespace K55
open PySem PySem.Spec PyProof.Rows L2 RZ EV FR LW
section
variable [KS] {P : Program} {w : World} {mg : Str → Option Value} {base : Heap}
theorem ok_first_table (T : TopF KS.K mg "first_table" s_first_table) (m_range : mg "range" = none)  : Cal P w KS.K mg base 1 "first_table" ["columns", "many"] G_first_table := by
  refine cal_pure T (fun _ _ _ _ _ _ us hl => match us, hl with | [_, _], _ => rfl) sc_first_table (fun ds r h => by obtain ⟨cs, many, rfl, _⟩ := h; rfl) fun f cdv A outer s H E hr => ⟨_, (pss_cons (ps_set (i := 2) sc_first_table.nd rfl (Or.inl rfl) (pe_lst pa_nil))
  (pss_cons (ps_for PassesOwn.never rfl (pi_range2 (by rfl) m_range (pa_cons pe_int (pa_cons (pv 1) pa_nil))) (pg_name (i := 3) sc_first_table.nd rfl (Or.inr rfl)) (pss_cons (ps_set (i := 4) sc_first_table.nd rfl (Or.inl rfl) (pe_op (addK (K := KS.K) rfl) (pe_lst (pa_cons (pe_op op_sub pe_int pe_int) pa_nil)) (pe_lc (own := [("other", 5)]) rfl sc_first_table.nd (pi_range2 (by rfl) m_range (pa_cons pe_int (pa_cons (pv 1) pa_nil))) (blkOk_by (own := [("other", 5)]) (N := ["columns", "many", "rows", "row", "left", "other", "column"]) (sc := defScope s_first_table) (by decide +kernel))
   (fun _ _ _ _ _ => (pg_name (i := 5) sc_first_table.nd rfl (Or.inl rfl))) (fun _ _ _ _ _ => pts_nil)
   (fun _ _ _ _ _ => (pe_ifExp (pt_cmpR (eqK (K := KS.K) rfl hr.units) (pv 5) (pv 3) (nomark _)) pe_int pe_int)))))
  (pss_one (ps_expr (pe_appK (K := KS.K) rfl (pv 2) (pe_op (addK (K := KS.K) rfl) (pe_op (addK (K := KS.K) rfl) (pe_lc (own := [("column", 6)]) rfl sc_first_table.nd (pi_seqK (K := KS.K) rfl (pv 0)) (blkOk_by (own := [("column", 6)]) (N := ["columns", "many", "rows", "row", "left", "other", "column"]) (sc := defScope s_first_table) (by decide +kernel))
   (fun _ _ _ _ _ => (pg_name (i := 6) sc_first_table.nd rfl (Or.inl rfl))) (fun _ _ _ _ _ => pts_nil)
   (fun _ _ _ _ _ => (pe_op op_sub (pe_ix (ixK (K := KS.K) rfl) (pe_ix (ixK (K := KS.K) rfl) (pv 6) pe_int (fun _ _ => rfl)) pe_int (fun _ _ => rfl)) (pe_ix (ixK (K := KS.K) rfl) (pe_ix (ixK (K := KS.K) rfl) (pv 6) pe_int (fun _ _ => rfl)) (pv 3) (fun _ _ => rfl))))) (pv 4)) (pe_lst (pa_cons pe_int (pa_cons pe_int pa_nil)))))))))
  (pss_cons (ps_expr (pe_appK (K := KS.K) rfl (pv 2) (pe_op (addK (K := KS.K) rfl) (pe_op (addK (K := KS.K) rfl) (pe_lc (own := [("column", 6)]) rfl sc_first_table.nd (pi_seqK (K := KS.K) rfl (pv 0)) (blkOk_by (own := [("column", 6)]) (N := ["columns", "many", "rows", "row", "left", "other", "column"]) (sc := defScope s_first_table) (by decide +kernel))
   (fun _ _ _ _ _ => (pg_name (i := 6) sc_first_table.nd rfl (Or.inl rfl))) (fun _ _ _ _ _ => pts_nil)
   (fun _ _ _ _ _ => (pe_ix (ixK (K := KS.K) rfl) (pv 6) pe_int (fun _ _ => rfl)))) (pe_op op_mulU (pe_lst (pa_cons pe_int pa_nil)) (pv 1))) (pe_lst (pa_cons pe_int (pa_cons pe_int pa_nil))))))
  (pss_cons (ps_expr (pe_appK (K := KS.K) rfl (pv 2) (pe_op (addK (K := KS.K) rfl) (pe_op (addK (K := KS.K) rfl) (pe_op (addK (K := KS.K) rfl) (pe_lc (own := [("column", 6)]) rfl sc_first_table.nd (pi_seqK (K := KS.K) rfl (pv 0)) (blkOk_by (own := [("column", 6)]) (N := ["columns", "many", "rows", "row", "left", "other", "column"]) (sc := defScope s_first_table) (by decide +kernel))
   (fun _ _ _ _ _ => (pg_name (i := 6) sc_first_table.nd rfl (Or.inl rfl))) (fun _ _ _ _ _ => pts_nil)
   (fun _ _ _ _ _ => (pe_op op_sub (pe_ix (ixK (K := KS.K) rfl) (pv 6) pe_int (fun _ _ => rfl)) (pe_ix (ixK (K := KS.K) rfl) (pe_ix (ixK (K := KS.K) rfl) (pv 6) pe_int (fun _ _ => rfl)) pe_int (fun _ _ => rfl))))) (pe_lst (pa_cons pe_int pa_nil))) (pe_op op_mulU (pe_lst (pa_cons pe_int pa_nil)) (pv 1))) (pe_lst (pa_cons pe_int pa_nil)))))
  (pss_one (ps_ret (pv 2))))))), ?_⟩

  rintro ds r ⟨cs, many, rfl, h1, h2, h3, hg, rfl⟩
  have hz : ∀ n : Nat, n ≤ 1000 → n ≤ sizeLine := fun n h => small_le h
  refine ⟨_, (sv_cons (sv_setO (ef_lst ea_nil (small_le (show 0 ≤ 1000 by decide))) (show 2 < 7 by decide) (by decide))
   (sv_cons (sv_for (ts := [3]) (ei_range2 (ea_cons ev_int (ea_cons (ev_var rfl) ea_nil)) ?a1 ?a2) (o := .next [.d (.list (cs.map dWC)), .d (.int many), .own (((List.range (many - 1)).map (row1 cs many)).map dR), .no, .no, .no, .no]) ?a3)
   (sv_cons (sv_append (EvF.ev (ef_cat (EvF.ev (ef_cat (EvF.ev (ef_lc (ei_list (ev_var rfl)) (lc_map (fun x hx => ⟨_, _, _, (tg_name (show 6 < 7 by decide) (by decide) (by decide)), (by rfl), et_yes, (ev_ixT (ev_var rfl) ev_int (by rfl)), (by rfl)⟩)) (no_own (by rfl)) (by rfl) ?a4)) (EvF.ev (ef_rep (EvF.ev (ef_lst (ea_cons ev_int ea_nil) (small_le (show 1 ≤ 1000 by decide)))) (ev_var rfl) ?a5 ?a6)) ?a7)) (EvF.ev (ef_lst (ea_cons ev_int (ea_cons ev_int ea_nil)) (small_le (show 2 ≤ 1000 by decide)))) ?a8)) (by rfl) ?a9)
   (sv_cons (sv_append (EvF.ev (ef_cat (EvF.ev (ef_cat (EvF.ev (ef_cat (EvF.ev (ef_lc (ei_list (ev_var rfl)) (lc_map (fun x hx => ⟨_, _, _, (tg_name (show 6 < 7 by decide) (by decide) (by decide)), (by rfl), et_yes, (ev_op0 (ev_ixT (ev_var rfl) ev_int (by rfl)) (ev_ixL (d := .int (x.g.getD 0 0)) (ev_ixT (ev_var rfl) ev_int (by rfl)) ev_int ?a10)), (by rfl)⟩)) (no_own (by rfl)) (by rfl) ?a11)) (EvF.ev (ef_lst (ea_cons ev_int ea_nil) (small_le (show 1 ≤ 1000 by decide)))) ?a12)) (EvF.ev (ef_rep (EvF.ev (ef_lst (ea_cons ev_int ea_nil) (small_le (show 1 ≤ 1000 by decide)))) (ev_var rfl) ?a13 ?a14)) ?a15)) (EvF.ev (ef_lst (ea_cons ev_int ea_nil) (small_le (show 1 ≤ 1000 by decide)))) ?a16)) (by rfl) ?a17)
   (sv_rt (sv_retO (by rfl) (by decide)) ?fin)))))⟩
  case a1 => decide
  case a2 => exact ⟨by omega, by omega⟩
  case a3 =>
    have e : (((many : Nat) : Int) - 1).toNat = many - 1 := by omega
    rw [e]
    refine lp_rng (R := fun k => [.d (.list (cs.map dWC)), .d (.int many), .own (((List.range k).map (row1 cs many)).map dR), .no, .no, .no, .no]) fun i hi => ?_
    refine ⟨_, (tg_name (show 3 < 7 by decide) (by decide) (by decide)), sv_post (ρ' := [.d (.list (cs.map dWC)), .d (.int many), .own (((List.range (i + 1)).map (row1 cs many)).map dR), .d (.int (1 + (i : Int))), .d (.list (([-1] ++ idl many i).map .int)), .no, .no]) (sv_nx (sv_cons (sv_set (EvF.ev (ef_cat (EvF.ev (ef_lst (ea_cons (ev_op0 ev_int ev_int) ea_nil) (small_le (show 1 ≤ 1000 by decide)))) (EvF.ev (ef_lc (ei_range2 (ea_cons ev_int (ea_cons (ev_var rfl) ea_nil)) ?b1 ?b2) (lc_map (α := Nat) (g := fun j => .int (if (1 + (j : Int)) = 1 + (i : Int) then 1 else 0)) (fun x hx => ⟨_, _, _, (tg_name (show 5 < 7 by decide) (by decide) (by decide)), (by rfl), et_yes, (ev_eq (ev_if (et_test (ev_eqi (ev_var rfl) (ev_var rfl))) (fun h => ev_int) (fun h => ev_int)) ite_int), (by rfl)⟩)) (no_own (by rfl)) (by rfl) ?b3)) ?b4)) (show 4 < 7 by decide) (by decide))
   (sv_append (EvF.ev (ef_cat (EvF.ev (ef_cat (EvF.ev (ef_lc (ei_list (ev_var rfl)) (lc_map (fun x hx => ⟨_, _, _, (tg_name (show 6 < 7 by decide) (by decide) (by decide)), (by rfl), et_yes, (ev_op0 (ev_ixL (d := .int (x.g.getD 0 0)) (ev_ixT (ev_var rfl) ev_int (by rfl)) ev_int ?b5) (ev_ixL (d := .int (x.g.getD (1 + i) 0)) (ev_ixT (ev_var rfl) ev_int (by rfl)) (ev_var rfl) ?b6)), (by rfl)⟩)) (no_own (by rfl)) (by rfl) ?b7)) (ev_var rfl) ?b8)) (EvF.ev (ef_lst (ea_cons ev_int (ea_cons ev_int ea_nil)) (small_le (show 2 ≤ 1000 by decide)))) ?b9)) (by rfl) ?b10)) ?bfin) (by repeat' (first | exact Wk.nil | apply Wk.same | apply Wk.drop))⟩
    case bfin =>
      have hl2 : ([-1] ++ idl many i).map PyData.int = [PyData.int (0 - 1)] ++ (List.range (((many : Nat) : Int) - 1).toNat).map fun (j : Nat) => PyData.int (if (1 + (j : Int)) = 1 + (i : Int) then 1 else 0) := by
        unfold idl
        rw [List.map_append, List.map_map, e]
        rfl
      have hrow : dR (row1 cs many i) = .list (((cs.map fun x => PyData.int (x.g.getD 0 0 - x.g.getD (1 + i) 0)) ++ ([PyData.int (0 - 1)] ++ (List.range (((many : Nat) : Int) - 1).toNat).map fun (j : Nat) => PyData.int (if (1 + (j : Int)) = 1 + (i : Int) then 1 else 0))) ++ [.int 0, .int 0]) := by
        unfold dR row1
        rw [List.map_append, List.map_append, hl2, List.map_map]
        rfl
      rw [List.range_succ, List.map_append, List.map_append, List.map_singleton, List.map_singleton, hrow, hl2]
      rfl
    case b1 => decide
    case b2 => exact ⟨by omega, by omega⟩
    case b3 => exact hz _ (by unfold rngD; rw [List.length_map, List.length_range]; omega)
    case b4 => exact hz _ (by simp; omega)
    case b5 => exact at_nat (f := PyData.int) 0 (k := 0) (by rw [hg x hx]; omega)
    case b6 => exact at_nat (f := PyData.int) 0 (k := 1 + i) (by rw [hg x hx]; omega)
    case b7 => exact hz _ (by simp; omega)
    case b8 => exact hz _ (by simp; omega)
    case b9 => exact hz _ (by simp; omega)
    case b10 => exact L2.small1000 (by simp; omega)
  case a4 => exact hz _ (by simp; omega)
  case a5 => exact ⟨by omega, by omega⟩
  case a6 => exact hz _ (by simp; omega)
  case a7 => exact hz _ (by simp; omega)
  case a8 => exact hz _ (by simp; omega)
  case a9 => exact L2.small1000 (by simp; omega)
  case a10 => exact at_nat (f := PyData.int) 0 (k := 0) (by rw [hg x hx]; omega)
  case a11 => exact hz _ (by simp; omega)
  case a12 => exact hz _ (by simp; omega)
  case a13 => exact ⟨by omega, by omega⟩
  case a14 => exact hz _ (by simp; omega)
  case a15 => exact hz _ (by simp; omega)
  case a16 => exact hz _ (by simp; omega)
  case a17 => exact L2.small1000 (by simp; omega)
  case fin =>
    unfold dT firstT
    rw [List.map_append, List.map_append]
    have e2 : dR (row2 cs many) = .list (((cs.map fun x => PyData.int x.ri) ++ (List.replicate ((many : Nat) : Int).toNat [PyData.int 0]).flatten) ++ [.int 1, .int 1]) := by
      unfold row2 dR
      rw [List.map_append, List.map_append, zs_map, List.map_map, Int.toNat_natCast]
      rfl
    have e3 : dR (row3 cs many) = .list ((((cs.map fun x => PyData.int (x.lt - x.g.getD 0 0)) ++ [.int 1]) ++ (List.replicate ((many : Nat) : Int).toNat [PyData.int 0]).flatten) ++ [.int 0]) := by
      unfold row3 dR
      rw [List.map_append, List.map_append, List.map_append, zs_map, List.map_map, Int.toNat_natCast]
      rfl
    rw [List.map_singleton, List.map_singleton, e2, e3]

end
end K55

end
section
set_option Elab.async false
set_option linter.all false
set_option maxRecDepth 100000
set_option maxHeartbeats 1000000
set_option exponentiation.threshold 20000
namespace K55
open PySem PySem.Spec PyProof.Rows L2 RZ EV FR LW
section
variable [KS] {P : Program} {w : World} {mg : Str → Option Value} {base : Heap}
theorem ok_leaving_row (T : TopF KS.K mg "leaving_row" s_leaving_row) (m_enumerate : mg "enumerate" = none)  : Cal P w KS.K mg base 1 "leaving_row" ["table", "bases", "place"] G_leaving_row := by
  refine cal_pure T (fun _ _ _ _ _ _ us hl => match us, hl with | [_, _, _], _ => rfl) sc_leaving_row (fun ds r h => by obtain ⟨T, bs, p, m, w, rfl, _⟩ := h; rfl) fun f cdv A outer s H E hr => ⟨_, (pss_cons (ps_set (i := 3) sc_leaving_row.nd rfl (Or.inl rfl) pe_non)
  (pss_cons (ps_for PassesOwn.never rfl (pi_enumK (K := KS.K) rfl (by rfl) m_enumerate (pv 1)) (pg_tupK (K := KS.K) (n := 2) rfl rfl (pgs_cons (pg_name (i := 4) sc_leaving_row.nd rfl (Or.inl rfl)) (pgs_cons (pg_name (i := 5) sc_leaving_row.nd rfl (Or.inl rfl)) pgs_nil))) (pss_cons (ps_if (pt_cmpR op_le (pe_ix (ixK (K := KS.K) rfl) (pe_ix (ixK (K := KS.K) rfl) (pv 0) (pv 4) (fun _ _ => rfl)) (pv 2) (fun _ _ => rfl)) pe_int (nomark _)) (pss_one ps_continue) pss_nil)
  (pss_cons (ps_if (pt_cmpR op_notN (pv 3) pe_non (nomark _)) (pss_cons (ps_par (i := 6) (j := 7) rfl sc_leaving_row.nd rfl rfl (by decide) rfl rfl (pa_cons (pe_op op_mulU (pe_ix (ixK (K := KS.K) rfl) (pe_ix (ixK (K := KS.K) rfl) (pv 0) (pv 4) (fun _ _ => rfl)) (pe_un un_neg pe_int) (fun _ _ => rfl)) (pe_ix (ixK (K := KS.K) rfl) (pe_ix (ixK (K := KS.K) rfl) (pv 0) (pv 3) (fun _ _ => rfl)) (pv 2) (fun _ _ => rfl))) (pa_cons (pe_op op_mulU (pe_ix (ixK (K := KS.K) rfl) (pe_ix (ixK (K := KS.K) rfl) (pv 0) (pv 3) (fun _ _ => rfl)) (pe_un un_neg pe_int) (fun _ _ => rfl)) (pe_ix (ixK (K := KS.K) rfl) (pe_ix (ixK (K := KS.K) rfl) (pv 0) (pv 4) (fun _ _ => rfl)) (pv 2) (fun _ _ => rfl))) pa_nil)) (by rfl))
  (pss_one (ps_if (PW.pt (pw_or (pt_cmpR op_gt (pv 6) (pv 7) (nomark _)) (pw_or1 (PW.pt (pw_and (pt_cmpR (eqK (K := KS.K) rfl hr.units) (pv 6) (pv 7) (nomark _)) (pw_and1 (pt_cmpR op_gt (pv 5) (pe_ix (ixK (K := KS.K) rfl) (pv 1) (pv 3) (fun _ _ => rfl)) (nomark _)))))))) (pss_one ps_continue) pss_nil))) pss_nil)
  (pss_one (ps_set (i := 3) sc_leaving_row.nd rfl (Or.inl rfl) (pv 4))))))
  (pss_one (ps_ret (pv 3))))), ?_⟩

  rintro ds r ⟨T, bs, p, m, w, rfl, hG, hb, hp, rfl⟩
  refine ⟨_, (sv_cons (sv_set ev_non (show 3 < 8 by decide) (by decide))
   (sv_cons (sv_for (ts := [4, 5]) (ei_enumm (ev_var rfl)) (o := .next [.d (dT T), .d (.list (bs.map .int)), .d (.int (p : Nat)), .d (optD (leaveP T bs p)), .no, .no, .no, .no]) ?_)
   (sv_rt (sv_ret (ev_var rfl)) rfl)))⟩
  refine lp_natC (R := fun k => [.d (dT T), .d (.list (bs.map .int)), .d (.int (p : Nat)), .d (optD (lvK T bs p k)), .no, .no, .no, .no]) (by rw [List.length_map, List.length_zipIdx]) fun i d hi hd => ?_
  obtain ⟨_, rfl⟩ := enum_get default hd
  refine ⟨[.d (dT T), .d (.list (bs.map .int)), .d (.int (p : Nat)), .d (optD (lvK T bs p i)), .d (.int (i : Nat)), .d (.int (bs.getD i default)), .no, .no], (tg_tup (tgs_cons (tg_name (show 4 < 8 by decide) (by decide) (by decide)) (tgs_cons (tg_name (show 5 < 8 by decide) (by decide) (by decide)) tgs_nil)) (by rfl)), ?_⟩
  have hs := lvK_succ T bs p i
  unfold leaveS at hs
  by_cases h1 : ent T i p ≤ 0
  · rw [if_pos h1] at hs
    refine .inr (sv_postC (ρ' := [.d (dT T), .d (.list (bs.map .int)), .d (.int (p : Nat)), .d (optD (lvK T bs p (i + 1))), .d (.int (i : Nat)), .d (.int (bs.getD i default)), .no, .no]) ?_ (by repeat' (first | exact Wk.nil | apply Wk.same | apply Wk.drop)))
    rw [hs]
    refine (sv_stop (sv_ifT (et_eq (et_test (ev_op0b (ev_ixLn (f := PyData.int) (ev_ixLn (f := dR) (ev_var rfl) (ev_var rfl) ?a1) (ev_var rfl) ?a2) ev_int)) ?a3) sv_cont) (fun _ z => by cases z))
    case a1 => rw [hG.rows]; omega
    case a2 => rw [hG.len (by omega)]; omega
    case a3 => exact decide_eq_true h1
  · rw [if_neg h1] at hs
    cases e : lvK T bs p i with
    | none =>
      rw [e] at hs
      refine .inl (sv_post (ρ' := [.d (dT T), .d (.list (bs.map .int)), .d (.int (p : Nat)), .d (optD (lvK T bs p (i + 1))), .d (.int (i : Nat)), .d (.int (bs.getD i default)), .no, .no]) ?_ (by repeat' (first | exact Wk.nil | apply Wk.same | apply Wk.drop)))
      rw [hs]
      refine sv_nx (sv_cons (sv_ifF (et_eq (et_test (ev_op0b (ev_ixLn (f := PyData.int) (ev_ixLn (f := dR) (ev_var rfl) (ev_var rfl) ?b1) (ev_var rfl) ?b2) ev_int)) ?b3) sv_next)
   (sv_cons (sv_ifF (et_eq (et_test (ev_notN (by rfl) (ev_var rfl) ev_non)) ?b4) sv_next)
   (sv_set (ev_var rfl) (show 3 < 8 by decide) (by decide)))) (by rfl)
      case b1 => rw [hG.rows]; omega
      case b2 => rw [hG.len (by omega)]; omega
      case b3 => exact decide_eq_false h1
      case b4 => rfl
    | some k =>
      rw [e] at hs
      have hk := lvK_lt e
      by_cases h2 : worse T bs p i k = true
      · simp only [h2, if_true] at hs
        refine .inr (sv_postC (ρ' := [.d (dT T), .d (.list (bs.map .int)), .d (.int (p : Nat)), .d (optD (lvK T bs p (i + 1))), .d (.int (i : Nat)), .d (.int (bs.getD i default)), .d (.int (((T.getD i default).getLastD default) * (ent T k p))), .d (.int (((T.getD k default).getLastD default) * (ent T i p)))]) ?_ (by repeat' (first | exact Wk.nil | apply Wk.same | apply Wk.drop)))
        rw [hs]
        refine sv_ct (sv_cons (sv_ifF (et_eq (et_test (ev_op0b (ev_ixLn (f := PyData.int) (ev_ixLn (f := dR) (ev_var rfl) (ev_var rfl) ?c1) (ev_var rfl) ?c2) ev_int)) ?c3) sv_next)
   (sv_stop (sv_ifT (et_eq (et_test (ev_notN (by rfl) (ev_var rfl) ev_non)) ?c4) (sv_cons (sv_par (ea_cons (ev_mul (ev_ixLl (f := PyData.int) (ev_ixLn (f := dR) (ev_var rfl) (ev_var rfl) ?c5) (ev_neg ev_int) ?c6) (ev_ixLn (f := PyData.int) (ev_ixLn (f := dR) (ev_var rfl) (ev_var rfl) ?c7) (ev_var rfl) ?c8) ?c9) (ea_cons (ev_mul (ev_ixLl (f := PyData.int) (ev_ixLn (f := dR) (ev_var rfl) (ev_var rfl) ?c10) (ev_neg ev_int) ?c11) (ev_ixLn (f := PyData.int) (ev_ixLn (f := dR) (ev_var rfl) (ev_var rfl) ?c12) (ev_var rfl) ?c13) ?c14) ea_nil)) (show 6 < 8 by decide) (show 7 < 8 by decide) (by decide) (by decide))
   (sv_ifT (et_eq (et_or (et_test (ev_op0b (ev_var rfl) (ev_var rfl))) (fun h => (et_and (et_test (ev_eqi (ev_var rfl) (ev_var rfl))) (fun h => (et_test (ev_op0b (ev_var rfl) (ev_ixLn (f := PyData.int) (ev_var rfl) (ev_var rfl) ?c15))))))) ?c16) sv_cont))) (fun _ z => by cases z))) (by rfl)
        case c1 => exact (by rw [hG.rows]; omega)
        case c2 => exact (by rw [hG.len (by omega)]; omega)
        case c3 => exact (decide_eq_false h1)
        case c4 => exact rfl
        case c5 => exact (by rw [hG.rows]; omega)
        case c6 => exact (hG.ne (by omega))
        case c7 => exact (by rw [hG.rows]; omega)
        case c8 => exact (by rw [hG.len (by omega)]; omega)
        case c9 => exact (mulx (hG.last (by omega)) (hG.ent (i := k) (j := p) (by omega) hp))
        case c10 => exact (by rw [hG.rows]; omega)
        case c11 => exact (hG.ne (by omega))
        case c12 => exact (by rw [hG.rows]; omega)
        case c13 => exact (by rw [hG.len (by omega)]; omega)
        case c14 => exact (mulx (hG.last (by omega)) (hG.ent (i := i) (j := p) (by omega) hp))
        case c15 => exact (by omega)
        case c16 => exact h2
      · simp only [h2] at hs
        refine .inl (sv_post (ρ' := [.d (dT T), .d (.list (bs.map .int)), .d (.int (p : Nat)), .d (optD (lvK T bs p (i + 1))), .d (.int (i : Nat)), .d (.int (bs.getD i default)), .d (.int (((T.getD i default).getLastD default) * (ent T k p))), .d (.int (((T.getD k default).getLastD default) * (ent T i p)))]) ?_ (by repeat' (first | exact Wk.nil | apply Wk.same | apply Wk.drop)))
        rw [hs]
        refine sv_nx (sv_cons (sv_ifF (et_eq (et_test (ev_op0b (ev_ixLn (f := PyData.int) (ev_ixLn (f := dR) (ev_var rfl) (ev_var rfl) ?e1) (ev_var rfl) ?e2) ev_int)) ?e3) sv_next)
   (sv_cons (sv_ifT (et_eq (et_test (ev_notN (by rfl) (ev_var rfl) ev_non)) ?e4) (sv_cons (sv_par (ea_cons (ev_mul (ev_ixLl (f := PyData.int) (ev_ixLn (f := dR) (ev_var rfl) (ev_var rfl) ?e5) (ev_neg ev_int) ?e6) (ev_ixLn (f := PyData.int) (ev_ixLn (f := dR) (ev_var rfl) (ev_var rfl) ?e7) (ev_var rfl) ?e8) ?e9) (ea_cons (ev_mul (ev_ixLl (f := PyData.int) (ev_ixLn (f := dR) (ev_var rfl) (ev_var rfl) ?e10) (ev_neg ev_int) ?e11) (ev_ixLn (f := PyData.int) (ev_ixLn (f := dR) (ev_var rfl) (ev_var rfl) ?e12) (ev_var rfl) ?e13) ?e14) ea_nil)) (show 6 < 8 by decide) (show 7 < 8 by decide) (by decide) (by decide))
   (sv_ifF (et_eq (et_or (et_test (ev_op0b (ev_var rfl) (ev_var rfl))) (fun h => (et_and (et_test (ev_eqi (ev_var rfl) (ev_var rfl))) (fun h => (et_test (ev_op0b (ev_var rfl) (ev_ixLn (f := PyData.int) (ev_var rfl) (ev_var rfl) ?e15))))))) ?e16) sv_next)))
   (sv_set (ev_var rfl) (show 3 < 8 by decide) (by decide)))) (by rfl)
        case e1 => exact (by rw [hG.rows]; omega)
        case e2 => exact (by rw [hG.len (by omega)]; omega)
        case e3 => exact (decide_eq_false h1)
        case e4 => exact rfl
        case e5 => exact (by rw [hG.rows]; omega)
        case e6 => exact (hG.ne (by omega))
        case e7 => exact (by rw [hG.rows]; omega)
        case e8 => exact (by rw [hG.len (by omega)]; omega)
        case e9 => exact (mulx (hG.last (by omega)) (hG.ent (i := k) (j := p) (by omega) hp))
        case e10 => exact (by rw [hG.rows]; omega)
        case e11 => exact (hG.ne (by omega))
        case e12 => exact (by rw [hG.rows]; omega)
        case e13 => exact (by rw [hG.len (by omega)]; omega)
        case e14 => exact (mulx (hG.last (by omega)) (hG.ent (i := i) (j := p) (by omega) hp))
        case e15 => exact (by omega)
        case e16 => exact (Bool.eq_false_iff.mpr h2)


end
end K55

end
section
set_option Elab.async false
set_option linter.all false
set_option maxRecDepth 100000
set_option maxHeartbeats 1000000
set_option exponentiation.threshold 20000
namespace K55
open PySem PySem.Spec PyProof.Rows L2 RZ EV FR LW
section
variable [KS] {P : Program} {w : World} {mg : Str → Option Value} {base : Heap}
theorem ok_turned (T : TopF KS.K mg "turned" s_turned) (m_enumerate : mg "enumerate" = none) (m_zip : mg "zip" = none)  : Cal P w KS.K mg base 1 "turned" ["table", "under", "row", "place"] G_turned := by
  refine cal_pure T (fun _ _ _ _ _ _ us hl => match us, hl with | [_, _, _, _], _ => rfl) sc_turned (fun ds r h => by obtain ⟨T, u, r, p, m, w, rfl, _⟩ := h; rfl) fun f cdv A outer s H E hr => ⟨_, (pss_cons (ps_asg (pe_tup (pa_cons (pe_ix (ixK (K := KS.K) rfl) (pe_ix (ixK (K := KS.K) rfl) (pv 0) (pv 2) (fun _ _ => rfl)) (pv 3) (fun _ _ => rfl)) (pa_cons (pe_lst pa_nil) pa_nil))) (pg_tupK (K := KS.K) (n := 2) rfl rfl (pgs_cons (pg_name (i := 4) sc_turned.nd rfl (Or.inr rfl)) (pgs_cons (pg_name (i := 5) sc_turned.nd rfl (Or.inl rfl)) pgs_nil))))
  (pss_cons (ps_for PassesOwn.never rfl (pi_enumK (K := KS.K) rfl (by rfl) m_enumerate (pv 0)) (pg_tupK (K := KS.K) (n := 2) rfl rfl (pgs_cons (pg_name (i := 6) sc_turned.nd rfl (Or.inl rfl)) (pgs_cons (pg_name (i := 7) sc_turned.nd rfl (Or.inl rfl)) pgs_nil))) (pss_one (ps_if (pt_cmpR (eqK (K := KS.K) rfl hr.units) (pv 6) (pv 2) (nomark _)) (pss_one (ps_expr (pe_appK (K := KS.K) rfl (pv 5) (pv 7)))) (pss_cons (ps_set (i := 8) sc_turned.nd rfl (Or.inr rfl) (pe_ix (ixK (K := KS.K) rfl) (pv 7) (pv 3) (fun _ _ => rfl)))
  (pss_one (ps_expr (pe_appK (K := KS.K) rfl (pv 5) (pe_lc (own := [("one", 9), ("other", 10)]) rfl sc_turned.nd (pi_zipK (K := KS.K) rfl (by rfl) m_zip (pa_cons (pv 7) (pa_cons (pe_ix (ixK (K := KS.K) rfl) (pv 0) (pv 2) (fun _ _ => rfl)) pa_nil))) (blkOk_by (own := [("one", 9), ("other", 10)]) (N := ["table", "under", "row", "place", "by", "found", "number", "line", "at", "one", "other"]) (sc := defScope s_turned) (by decide +kernel))
   (fun _ _ _ _ _ => (pg_tupK (K := KS.K) (n := 2) rfl rfl (pgs_cons (pg_name (i := 9) sc_turned.nd rfl (Or.inl rfl)) (pgs_cons (pg_name (i := 10) sc_turned.nd rfl (Or.inl rfl)) pgs_nil)))) (fun _ _ _ _ _ => pts_nil)
   (fun _ _ _ _ _ => (pe_op op_fdivP (pe_op op_sub (pe_op op_mulU (pv 9) (pv 4)) (pe_op op_mulU (pv 8) (pv 10))) (pv 1)))))))))))
  (pss_one (ps_ret (pv 5))))), ?_⟩

  rintro ds d ⟨T, u, r, p, m, w, rfl, hG, hr', hp, hu, hul, rfl⟩
  refine ⟨_, (sv_cons (sv_asgN (n := 2) (is := [4, 5]) (en_d (ev_ixLn (f := PyData.int) (ev_ixLn (f := dR) (ev_var rfl) (ev_var rfl) ?a1) (ev_var rfl) ?a2) (en_o (ef_lst ea_nil (small_le (show 0 ≤ 1000 by decide))) en_nil)) (by rfl) (by rfl) (by rfl) (small_le (show 2 ≤ 1000 by decide)))
   (sv_cons (sv_for (ts := [6, 7]) (ei_enumm (ev_var rfl)) (o := .next [.d (dT T), .d (.int u), .d (.int (r : Nat)), .d (.int (p : Nat)), .d (.int (ent T r p)), .own (((List.range T.length).map (turnL T u r p)).map dR), .no, .no, .no, .no, .no]) ?_)
   (sv_rt (sv_retO (by rfl) (by decide)) ?fin)))⟩
  case a1 => rw [hG.rows]; exact hr'
  case a2 => rw [hG.len hr']; exact hp
  case fin =>
    unfold dT turnT
    rfl
  refine lp_natN (R := fun k => [.d (dT T), .d (.int u), .d (.int (r : Nat)), .d (.int (p : Nat)), .d (.int (ent T r p)), .own (((List.range k).map (turnL T u r p)).map dR), .no, .no, .no, .no, .no]) (by rw [List.length_map, List.length_zipIdx]) fun i d hi hd => ?_
  obtain ⟨_, rfl⟩ := enum_get default hd
  rw [hG.rows] at hi
  refine ⟨[.d (dT T), .d (.int u), .d (.int (r : Nat)), .d (.int (p : Nat)), .d (.int (ent T r p)), .own (((List.range i).map (turnL T u r p)).map dR), .d (.int (i : Nat)), .d (dR (T.getD i default)), .no, .no, .no], (tg_tup (tgs_cons (tg_name (show 6 < 11 by decide) (by decide) (by decide)) (tgs_cons (tg_name (show 7 < 11 by decide) (by decide) (by decide)) tgs_nil)) (by rfl)), ?_⟩
  have hl := hG.len hi
  by_cases h : i = r
  · refine sv_post (ρ' := [.d (dT T), .d (.int u), .d (.int (r : Nat)), .d (.int (p : Nat)), .d (.int (ent T r p)), .own (((List.range (i + 1)).map (turnL T u r p)).map dR), .d (.int (i : Nat)), .d (dR (T.getD i default)), .no, .no, .no]) (sv_nx (sv_ifT (et_eq (et_test (ev_eqi (ev_var rfl) (ev_var rfl))) ?b1) (sv_append (ev_var rfl) (by rfl) ?b2)) ?_) (by repeat' (first | exact Wk.nil | apply Wk.same | apply Wk.drop))
    case b1 => exact decide_eq_true (by omega)
    case b2 => exact L2.small1000 (by rw [List.length_map, List.length_map, List.length_range]; have := hG.ms; omega)
    rw [List.range_succ, List.map_append, List.map_append]
    have e : turnL T u r p i = T.getD i default := if_pos h
    show List.set _ _ _ = _
    rw [List.map_singleton, List.map_singleton, e]
    rfl
  · refine sv_post (ρ' := [.d (dT T), .d (.int u), .d (.int (r : Nat)), .d (.int (p : Nat)), .d (.int (ent T r p)), .own (((List.range (i + 1)).map (turnL T u r p)).map dR), .d (.int (i : Nat)), .d (dR (T.getD i default)), .d (.int ((T.getD i default).getD p default)), .no, .no]) (sv_nx (sv_ifF (et_eq (et_test (ev_eqi (ev_var rfl) (ev_var rfl))) ?c1) (sv_cons (sv_set (ev_ixLn (f := PyData.int) (ev_var rfl) (ev_var rfl) ?c2) (show 8 < 11 by decide) (by decide))
   (sv_append (EvF.ev (ef_lc (ei_zipLm (ea_cons (ev_var rfl) (ea_cons (ev_ixLn (f := dR) (ev_var rfl) (ev_var rfl) ?c3) ea_nil))) (lc_map (fun x hx => ⟨_, _, _, (tg_tup (tgs_cons (tg_name (show 9 < 11 by decide) (by decide) (by decide)) (tgs_cons (tg_name (show 10 < 11 by decide) (by decide) (by decide)) tgs_nil)) (by rfl)), (by rfl), et_yes, (ev_opC (ev_op0 (ev_mul (ev_var rfl) (ev_var rfl) ?c4) (ev_mul (ev_var rfl) (ev_var rfl) ?c5)) (ev_var rfl) ?c6), (by rfl)⟩)) (no_own (by rfl)) (by rfl) ?c7)) (by rfl) ?c8))) ?_) (by repeat' (first | exact Wk.nil | apply Wk.same | apply Wk.drop))
    case c1 => exact decide_eq_false (by omega)
    case c2 => rw [hl]; exact hp
    case c3 => rw [hG.rows]; exact hr'
    case c4 => exact mulx (hG.lt _ (hG.row hi) _ (List.of_mem_zip hx).1) (hG.ent hr' hp)
    case c5 => exact mulx (hG.ent hi hp) (hG.lt _ (hG.row hr') _ (List.of_mem_zip hx).2)
    case c6 => exact divp_lt hu (pow_lt hul (by decide))
    case c7 => exact small_le (by rw [List.length_map, List.length_zip, hl]; have := hG.ws; omega)
    case c8 => exact L2.small1000 (by rw [List.length_map, List.length_map, List.length_range]; have := hG.ms; omega)
    rw [List.range_succ, List.map_append, List.map_append]
    have e : dR (turnL T u r p i) = .list (((T.getD i default).zip (T.getD r default)).map fun q => PyData.int ((q.1 * ent T r p - (T.getD i default).getD p default * q.2) / u)) := by
      unfold turnL turnRow dR
      rw [if_neg h, List.map_map]
      rfl
    show List.set _ _ _ = _
    rw [List.map_singleton, List.map_singleton, e]
    rfl

end
end K55

end
section
set_option Elab.async false
set_option linter.all false
set_option maxRecDepth 100000
set_option maxHeartbeats 1000000
set_option exponentiation.threshold 20000
namespace K55
open PySem PySem.Spec PyProof.Rows L2 RZ EV FR LW
section
variable [KS] {P : Program} {w : World} {mg : Str → Option Value} {base : Heap}
theorem ok_searched (T : TopF KS.K mg "searched" s_searched) (m_len : mg "len" = none) (m_range : mg "range" = none) (C_entering_place : Cal P w KS.K mg base 1 "entering_place" ["table"] G_entering_place) (C_first_table : Cal P w KS.K mg base 1 "first_table" ["columns", "many"] G_first_table) (C_leaving_row : Cal P w KS.K mg base 1 "leaving_row" ["table", "bases", "place"] G_leaving_row) (C_turned : Cal P w KS.K mg base 1 "turned" ["table", "under", "row", "place"] G_turned) : Cal P w KS.K mg base 2 "searched" ["columns", "many"] G_searched := by
  refine cal_pure T (fun _ _ _ _ _ _ us hl => match us, hl with | [_, _], _ => rfl) sc_searched (fun ds r h => by obtain ⟨cs, many, w, m, T, u, bs, q, n, rfl, _⟩ := h; rfl) fun f cdv A outer s H E hr => ⟨_, (pss_cons (ps_par (i := 2) (j := 3) rfl sc_searched.nd rfl rfl (by decide) rfl rfl (pa_cons (calK (K := KS.K) C_first_table rfl rfl rfl rfl rfl (hr.mono (by decide)) (by rfl) (pa_cons (pv 0) (pa_cons (pv 1) pa_nil))) (pa_cons pe_int pa_nil)) (by rfl))
  (pss_cons (ps_setLc (i := 4) (own := [("row", 6)]) rfl sc_searched.nd rfl rfl (sw_true rfl rfl rfl (by decide +kernel)) (pi_range2 (by rfl) m_range (pa_cons pe_int (pa_cons (pe_op (addK (K := KS.K) rfl) (pv 1) pe_int) pa_nil))) (blkOk_by (own := [("row", 6)]) (N := ["columns", "many", "table", "under", "bases", "place", "row"]) (sc := defScope s_searched) (by decide +kernel))
   (fun _ _ _ _ _ => (pg_name (i := 6) sc_searched.nd rfl (Or.inl rfl))) (fun _ _ _ _ _ => pts_nil)
   (fun _ _ _ _ _ => (pe_op (addK (K := KS.K) rfl) (pe_callB (lenK (K := KS.K) rfl) (by rfl) m_len PySem.boot_len (pa_cons (pv 0) pa_nil)) (pv 6))))
  (pss_cons (ps_set (i := 5) sc_searched.nd rfl (Or.inl rfl) (calK (K := KS.K) C_entering_place rfl rfl rfl rfl rfl (hr.mono (by decide)) (by rfl) (pa_cons (pv 2) pa_nil)))
  (pss_cons (ps_while PassesOwn.never (pt_cmpR op_notN (pv 5) pe_non (nomark _)) (pss_cons (ps_set (i := 6) sc_searched.nd rfl (Or.inl rfl) (calK (K := KS.K) C_leaving_row rfl rfl rfl rfl rfl (hr.mono (by decide)) (by rfl) (pa_cons (pv 2) (pa_cons (pv 4) (pa_cons (pv 5) pa_nil)))))
  (pss_cons (ps_if (pt_cmpR op_isN (pv 6) pe_non (nomark _)) (pss_one (ps_ret (pe_tup (pa_cons (pv 2) (pa_cons (pv 3) (pa_cons (pv 4) (pa_cons (pv 5) pa_nil))))))) pss_nil)
  (pss_cons (ps_par (i := 2) (j := 3) rfl sc_searched.nd rfl rfl (by decide) rfl rfl (pa_cons (calK (K := KS.K) C_turned rfl rfl rfl rfl rfl (hr.mono (by decide)) (by rfl) (pa_cons (pv 2) (pa_cons (pv 3) (pa_cons (pv 6) (pa_cons (pv 5) pa_nil))))) (pa_cons (pe_ix (ixK (K := KS.K) rfl) (pe_ix (ixK (K := KS.K) rfl) (pv 2) (pv 6) (fun _ _ => rfl)) (pv 5) (fun _ _ => rfl)) pa_nil)) (by rfl))
  (pss_cons (ps_asg (pv 5) (pg_sub (pv 4) (pv 6) set_list))
  (pss_one (ps_set (i := 5) sc_searched.nd rfl (Or.inl rfl) (calK (K := KS.K) C_entering_place rfl rfl rfl rfl rfl (hr.mono (by decide)) (by rfl) (pa_cons (pv 2) pa_nil)))))))))
  (pss_one (ps_ret (pe_tup (pa_cons (pv 2) (pa_cons (pv 3) (pa_cons (pv 4) (pa_cons pe_non pa_nil))))))))))), ?_⟩

  rintro ds d ⟨cs, many, w, m, T, u, bs, q, n, rfl, h1, h2, h3, hg, hrun, rfl⟩
  have core := fun (tb : TS) hL hT => wh_run (w := w) (m := m) (tst := EvT (tTest (tOp (fun x y H Q => y = .non ∧ Q (.bl (!decide (x = .non))) H) (tVar 5) (tC .non)))) (body := Sv [] tb) (R := fun T u bs q => [.d (.list (cs.map dWC)), .d (.int (many : Nat)), .d (dT T), .d (.int u), .own (bs.map .int), .d (optD q), .no]) (D := fun T u bs p => dRes T u bs (some p)) (fun T u bs => (et_test (ev_notN (by rfl) (ev_var rfl) ev_non))) (fun T u bs p => (et_test (ev_notN (by rfl) (ev_var rfl) ev_non))) hL hT hrun
  refine xr_cons (sv_par (ea_cons (ev_call (r := dT (firstT cs many)) (ea_cons (ev_var rfl) (ea_cons (ev_var rfl) ea_nil)) ⟨_, (by rfl), ?a1, (by rfl)⟩) (ea_cons ev_int ea_nil)) (show 2 < 7 by decide) (show 3 < 7 by decide) (by decide) (by decide)) (xr_cons (sv_nx (sv_setO (ef_lc (ei_range2 (ea_cons ev_int (ea_cons (ev_add (ev_var rfl) ev_int) ea_nil)) ?b1 ?b2) (lc_map (fun x hx => ⟨_, _, _, (tg_name (show 6 < 7 by decide) (by decide) (by decide)), (by rfl), et_yes, (ev_add (ev_lenM (f := dWC) (Ev.rl (ev_var rfl))) (ev_var rfl)), (by rfl)⟩)) (no_own (by rfl)) (by rfl) ?b3) (show 4 < 7 by decide) (by decide)) (ρ2 := [.d (.list (cs.map dWC)), .d (.int (many : Nat)), .d (dT (firstT cs many)), .d (.int 1), .own ((bases0 cs.length many).map .int), .no, .no]) ?hb) (xr_cons (sv_nx (sv_set (ev_call (r := optD (enterP (firstT cs many))) (ea_cons (ev_var rfl) ea_nil) ⟨_, (by rfl), ?c1, (by rfl)⟩) (show 5 < 7 by decide) (by decide)) (ρ2 := [.d (.list (cs.map dWC)), .d (.int (many : Nat)), .d (dT (firstT cs many)), .d (.int 1), .own ((bases0 cs.length many).map .int), .d (optD (enterP (firstT cs many))), .no]) (by rfl)) ?main))
  case a1 => exact ⟨cs, many, rfl, h1, by omega, h3, hg, rfl⟩
  case b1 => decide
  case b2 => exact ⟨by omega, by omega⟩
  case b3 => exact small_le (by unfold rngD; rw [List.length_map, List.length_range]; omega)
  case c1 =>
    refine ⟨firstT cs many, rfl, ?_, by cases enterP (firstT cs many) <;> rfl⟩
    unfold firstT
    simp
  case hb =>
    have e : (((many : Nat) : Int) + 1 - 1).toNat = many := by omega
    unfold bases0
    rw [List.map_map, e]
    rfl
  case main =>
    cases q with
    | none =>
      refine xr_cons (sv_while ((core _ ?cl ?ct).1 rfl)) ⟨_, (sv_rt (sv_retT (ey_cons (ev_var rfl) (ey_cons (ev_var rfl) (ey_own (i := 4) (by rfl) (by decide) (ey_cons ev_non ey_nil)))) (small_le (show 4 ≤ 1000 by decide))) rfl)⟩
      case cl =>
        intro T u bs p hG hp hl
        refine ⟨_, (sv_cons (sv_set (ev_callX (r := (optD none)) (ex_cons (ev_var rfl) (ex_own (i := 4) (by rfl) (ex_cons (ev_var rfl) ex_nil))) ⟨_, (by rfl), ?l1, (by rfl)⟩ (by rfl)) (show 6 < 7 by decide) (by decide))
   (sv_stop (sv_ifT (et_eq (et_test (ev_isN (by rfl) (ev_var rfl) ev_non)) ?l2) (sv_rt (sv_retT (ey_cons (ev_var rfl) (ey_cons (ev_var rfl) (ey_own (i := 4) (by rfl) (by decide) (ey_cons (ev_var rfl) ey_nil)))) (small_le (show 4 ≤ 1000 by decide))) rfl)) (fun _ z => by cases z)))⟩
        case l1 => exact ⟨T, bs, p, m, w, rfl, hG.gt, by have := hG.len; omega, hp, by rw [hl]⟩
        case l2 => rfl
      case ct =>
        intro T u bs p r hG hp hl hG2
        have hrl := leaveP_lt hl
        have hlen := hG.len
        refine sv_post (ρ' := [.d (.list (cs.map dWC)), .d (.int (many : Nat)), .d (dT (turnT T u r p)), .d (.int (ent T r p)), .own ((bs.set r (p : Int)).map .int), .d (optD (enterP (turnT T u r p))), .d (.int (r : Nat))]) (sv_nx (sv_cons (sv_set (ev_callX (r := (optD (some r))) (ex_cons (ev_var rfl) (ex_own (i := 4) (by rfl) (ex_cons (ev_var rfl) ex_nil))) ⟨_, (by rfl), ?t1, (by rfl)⟩ (by rfl)) (show 6 < 7 by decide) (by decide))
   (sv_cons (sv_ifF (et_eq (et_test (ev_isN (by rfl) (ev_var rfl) ev_non)) ?t2) sv_next)
   (sv_cons (sv_par (ea_cons (ev_call (r := dT (turnT T u r p)) (ea_cons (ev_var rfl) (ea_cons (ev_var rfl) (ea_cons (ev_var rfl) (ea_cons (ev_var rfl) ea_nil)))) ⟨_, (by rfl), ?t3, (by rfl)⟩) (ea_cons (ev_ixLn (f := PyData.int) (ev_ixLn (f := dR) (ev_var rfl) (ev_var rfl) ?t4) (ev_var rfl) ?t5) ea_nil)) (show 2 < 7 by decide) (show 3 < 7 by decide) (by decide) (by decide))
   (sv_cons (sv_setLn (ev_var rfl) (ev_var rfl) (by rfl) ?t6)
   (sv_set (ev_call (r := optD (enterP (turnT T u r p))) (ea_cons (ev_var rfl) ea_nil) ⟨_, (by rfl), ?t7, (by rfl)⟩) (show 5 < 7 by decide) (by decide)))))) ?_) (by repeat' (first | exact Wk.nil | apply Wk.same | apply Wk.drop))
        case t1 => exact ⟨T, bs, p, m, w, rfl, hG.gt, by omega, hp, by rw [hl]⟩
        case t2 => rfl
        case t3 => exact ⟨T, u, r, p, m, w, rfl, hG.gt, by omega, hp, hG.pos, hG.lt, rfl⟩
        case t4 => rw [hG.gt.rows]; omega
        case t5 => rw [hG.gt.len (by omega)]; exact hp
        case t6 => rw [List.length_map]; exact hrl
        case t7 =>
          refine ⟨turnT T u r p, rfl, ?_, by cases enterP (turnT T u r p) <;> rfl⟩
          intro z
          have := hG2.gt.rows
          rw [z] at this
          have := hG2.gt.mp
          simp at *
          omega
        rw [List.map_set]
        rfl
    | some p =>
      refine xr_stop (xr_while ((core _ ?cl ?ct).2 p rfl))
      case cl =>
        intro T u bs p hG hp hl
        refine ⟨_, (sv_cons (sv_set (ev_callX (r := (optD none)) (ex_cons (ev_var rfl) (ex_own (i := 4) (by rfl) (ex_cons (ev_var rfl) ex_nil))) ⟨_, (by rfl), ?l1, (by rfl)⟩ (by rfl)) (show 6 < 7 by decide) (by decide))
   (sv_stop (sv_ifT (et_eq (et_test (ev_isN (by rfl) (ev_var rfl) ev_non)) ?l2) (sv_rt (sv_retT (ey_cons (ev_var rfl) (ey_cons (ev_var rfl) (ey_own (i := 4) (by rfl) (by decide) (ey_cons (ev_var rfl) ey_nil)))) (small_le (show 4 ≤ 1000 by decide))) rfl)) (fun _ z => by cases z)))⟩
        case l1 => exact ⟨T, bs, p, m, w, rfl, hG.gt, by have := hG.len; omega, hp, by rw [hl]⟩
        case l2 => rfl
      case ct =>
        intro T u bs p r hG hp hl hG2
        have hrl := leaveP_lt hl
        have hlen := hG.len
        refine sv_post (ρ' := [.d (.list (cs.map dWC)), .d (.int (many : Nat)), .d (dT (turnT T u r p)), .d (.int (ent T r p)), .own ((bs.set r (p : Int)).map .int), .d (optD (enterP (turnT T u r p))), .d (.int (r : Nat))]) (sv_nx (sv_cons (sv_set (ev_callX (r := (optD (some r))) (ex_cons (ev_var rfl) (ex_own (i := 4) (by rfl) (ex_cons (ev_var rfl) ex_nil))) ⟨_, (by rfl), ?t1, (by rfl)⟩ (by rfl)) (show 6 < 7 by decide) (by decide))
   (sv_cons (sv_ifF (et_eq (et_test (ev_isN (by rfl) (ev_var rfl) ev_non)) ?t2) sv_next)
   (sv_cons (sv_par (ea_cons (ev_call (r := dT (turnT T u r p)) (ea_cons (ev_var rfl) (ea_cons (ev_var rfl) (ea_cons (ev_var rfl) (ea_cons (ev_var rfl) ea_nil)))) ⟨_, (by rfl), ?t3, (by rfl)⟩) (ea_cons (ev_ixLn (f := PyData.int) (ev_ixLn (f := dR) (ev_var rfl) (ev_var rfl) ?t4) (ev_var rfl) ?t5) ea_nil)) (show 2 < 7 by decide) (show 3 < 7 by decide) (by decide) (by decide))
   (sv_cons (sv_setLn (ev_var rfl) (ev_var rfl) (by rfl) ?t6)
   (sv_set (ev_call (r := optD (enterP (turnT T u r p))) (ea_cons (ev_var rfl) ea_nil) ⟨_, (by rfl), ?t7, (by rfl)⟩) (show 5 < 7 by decide) (by decide)))))) ?_) (by repeat' (first | exact Wk.nil | apply Wk.same | apply Wk.drop))
        case t1 => exact ⟨T, bs, p, m, w, rfl, hG.gt, by omega, hp, by rw [hl]⟩
        case t2 => rfl
        case t3 => exact ⟨T, u, r, p, m, w, rfl, hG.gt, by omega, hp, hG.pos, hG.lt, rfl⟩
        case t4 => rw [hG.gt.rows]; omega
        case t5 => rw [hG.gt.len (by omega)]; exact hp
        case t6 => rw [List.length_map]; exact hrl
        case t7 =>
          refine ⟨turnT T u r p, rfl, ?_, by cases enterP (turnT T u r p) <;> rfl⟩
          intro z
          have := hG2.gt.rows
          rw [z] at this
          have := hG2.gt.mp
          simp at *
          omega
        rw [List.map_set]
        rfl

end
end K55

end
section
set_option Elab.async false
set_option linter.all false
set_option maxRecDepth 100000
set_option maxHeartbeats 1000000
set_option exponentiation.threshold 20000
namespace K55
open PySem PySem.Spec PyProof.Rows L2 RZ EV FR LW
section
variable [KS] {P : Program} {w : World} {mg : Str → Option Value} {base : Heap}
theorem wh_gcd {tst : Rho → Bool → Rho → Prop} {body : Rho → Out → Prop} {R : Int → Int → Rho} (h0 : ∀ a : Nat, tst (R a 0) false (R a 0)) (h1 : ∀ a b : Nat, 0 < b → tst (R a b) true (R a b)) (h2 : ∀ a b : Nat, 0 < b → body (R a b) (.next (R b (a % b : Nat)))) :
    ∀ n a b : Nat, b ≤ n → Wh tst body n (R a b) (.next (R (Nat.gcd a b : Nat) 0)) := fun n => by
  induction n with
  | zero =>
    intro a b hb
    have : b = 0 := by omega
    subst this
    rw [Nat.gcd_zero_right]
    exact .stop (h0 a)
  | succ n ih =>
    intro a b hb
    by_cases h : b = 0
    · subst h
      rw [Nat.gcd_zero_right]
      exact .stop (h0 a)
    · have hm := Nat.mod_lt a (Nat.pos_of_ne_zero h)
      have := ih b (a % b) (by omega)
      rw [Nat.gcd_comm b (a % b), ← Nat.gcd_rec b a, Nat.gcd_comm b a] at this
      exact .nx (h1 a b (by omega)) (h2 a b (by omega)) this
theorem ok_common_part (T : TopF KS.K mg "common_part" s_common_part) (m_abs : mg "abs" = none)  : Cal P w KS.K mg base 1 "common_part" ["one", "two"] G_common_part := by
  refine cal_pure T (fun _ _ _ _ _ _ us hl => match us, hl with | [_, _], _ => rfl) sc_common_part (fun ds r h => by obtain ⟨a, b, rfl, _⟩ := h; rfl) fun f cdv A outer s H E hr => ⟨_, (pss_cons (ps_par (i := 0) (j := 1) rfl sc_common_part.nd rfl rfl (by decide) rfl rfl (pa_cons (pe_callB call_abs (by rfl) m_abs (by decide +kernel) (pa_cons (pv 0) pa_nil)) (pa_cons (pe_callB call_abs (by rfl) m_abs (by decide +kernel) (pa_cons (pv 1) pa_nil)) pa_nil)) (by rfl))
  (pss_cons (ps_while PassesOwn.never (pt_cmpR op_gt (pv 1) pe_int (nomark _)) (pss_one (ps_par (i := 0) (j := 1) rfl sc_common_part.nd rfl rfl (by decide) rfl rfl (pa_cons (pv 1) (pa_cons (pe_op op_mod (pv 0) (pv 1)) pa_nil)) (by rfl))))
  (pss_one (ps_ret (pv 0))))), ?_⟩

  rintro ds r ⟨a, b, rfl, rfl⟩
  refine ⟨_, (sv_cons (sv_par (ea_cons (ev_abs (ev_var rfl)) (ea_cons (ev_abs (ev_var rfl)) ea_nil)) (show 0 < 2 by decide) (show 1 < 2 by decide) (by decide) (by decide))
   (sv_cons (sv_while (n := b.natAbs) (o := .next [.d (.int (Int.gcd a b)), .d (.int 0)]) ?_)
   (sv_rt (sv_ret (ev_var rfl)) rfl)))⟩
  refine wh_gcd (R := fun a b => [.d (.int a), .d (.int b)]) ?_ ?_ ?_ _ a.natAbs b.natAbs (Nat.le_refl _)
  · exact fun a => et_eq (et_test (ev_op0b (ev_var rfl) ev_int)) (by decide)
  · exact fun a b h => et_eq (et_test (ev_op0b (ev_var rfl) ev_int)) (decide_eq_true (by omega))
  · exact fun a b h => sv_nx (sv_par (ea_cons (ev_var rfl) (ea_cons (ev_opC (ev_var rfl) (ev_var rfl) (by show (0 : Int) < b; omega)) ea_nil)) (show 0 < 2 by decide) (show 1 < 2 by decide) (by decide) (by decide)) (by rfl)

end
end K55

end
section
set_option Elab.async false
set_option linter.all false
set_option maxRecDepth 100000
set_option maxHeartbeats 1000000
set_option exponentiation.threshold 20000
namespace K55
open PySem PySem.Spec PyProof.Rows L2 RZ EV FR LW
section
variable [KS] {P : Program} {w : World} {mg : Str → Option Value} {base : Heap}
theorem ok_fraction_of (T : TopF KS.K mg "fraction_of" s_fraction_of)  (C_common_part : Cal P w KS.K mg base 1 "common_part" ["one", "two"] G_common_part) : Cal P w KS.K mg base 2 "fraction_of" ["n", "d"] G_fraction_of := by
  refine cal_pure T (fun _ _ _ _ _ _ us hl => match us, hl with | [_, _], _ => rfl) sc_fraction_of (fun ds r h => by obtain ⟨n, d, rfl, _⟩ := h; rfl) fun f cdv A outer s H E hr => ⟨_, (pss_cons (ps_if (pt_cmpR (eqK (K := KS.K) rfl hr.units) (pv 1) pe_int (nomark _)) (pss_one ps_never) pss_nil)
  (pss_cons (ps_set (i := 2) sc_fraction_of.nd rfl (Or.inl rfl) (calK (K := KS.K) C_common_part rfl rfl rfl rfl rfl (hr.mono (by decide)) (by rfl) (pa_cons (pv 0) (pa_cons (pv 1) pa_nil))))
  (pss_cons (ps_if (pt_cmpR op_lt (pv 1) pe_int (nomark _)) (pss_one (ps_set (i := 2) sc_fraction_of.nd rfl (Or.inl rfl) (pe_op op_sub pe_int (pv 2)))) pss_nil)
  (pss_one (ps_ret (pe_tup (pa_cons (pe_op op_fdivP (pv 0) (pv 2)) (pa_cons (pe_op op_fdivP (pv 1) (pv 2)) pa_nil)))))))), ?_⟩

  rintro ds r ⟨n, d, rfl, hd, hs, rfl⟩
  have e : (d.toNat : Int) = d := Int.toNat_of_nonneg (Int.le_of_lt hd)
  rw [dF_mk n d.toNat (by omega), e]
  have hg : ((Int.gcd n d : Nat) : Int).natAbs < 2 ^ 9000 := by
    rw [Int.natAbs_natCast]
    exact Nat.lt_of_le_of_lt (gcd_le n hd) hs
  refine ⟨_, (sv_cons (sv_ifF (et_eq (et_test (ev_eqi (ev_var rfl) ev_int)) ?a1) sv_next)
   (sv_cons (sv_set (ev_call (r := _) (ea_cons (ev_var rfl) (ea_cons (ev_var rfl) ea_nil)) ⟨_, (by rfl), ?a2, (by rfl)⟩) (show 2 < 3 by decide) (by decide))
   (sv_cons (sv_ifF (et_eq (et_test (ev_op0b (ev_var rfl) ev_int)) ?a3) sv_next)
   (sv_rt (sv_ret (ev_tup (ea_cons (ev_opC (ev_var rfl) (ev_var rfl) ?a4) (ea_cons (ev_opC (ev_var rfl) (ev_var rfl) ?a5) ea_nil)) (small_le (show 2 ≤ 1000 by decide)))) rfl))))⟩
  case a1 => exact decide_eq_false (by omega)
  case a2 => exact ⟨n, d, rfl, rfl⟩
  case a3 => exact decide_eq_false (by omega)
  case a4 => exact divp_lt (gcd_pos n hd) hg
  case a5 => exact divp_lt (gcd_pos n hd) hg

end
end K55

end
section
set_option Elab.async false
set_option linter.all false
set_option maxRecDepth 100000
set_option maxHeartbeats 1000000
set_option exponentiation.threshold 20000
namespace K55
open PySem PySem.Spec PyProof.Rows L2 RZ EV FR LW
section
variable [KS] {P : Program} {w : World} {mg : Str → Option Value} {base : Heap}
theorem ok_lost_loads (T : TopF KS.K mg "lost_loads" s_lost_loads) (m_enumerate : mg "enumerate" = none) (m_len : mg "len" = none) (m_tuple : mg "tuple" = none) (C_fraction_of : Cal P w KS.K mg base 2 "fraction_of" ["n", "d"] G_fraction_of) : Cal P w KS.K mg base 3 "lost_loads" ["columns", "table", "under", "bases", "place"] G_lost_loads := by
  refine cal_pure T (fun _ _ _ _ _ _ us hl => match us, hl with | [_, _, _, _, _], _ => rfl) sc_lost_loads (fun ds r h => by obtain ⟨cs, T, u, bs, p, w, m, rfl, _⟩ := h; rfl) fun f cdv A outer s H E hr => ⟨_, (pss_cons (ps_set (i := 5) sc_lost_loads.nd rfl (Or.inl rfl) (pe_op op_sub pe_int (pe_ix (ixK (K := KS.K) rfl) (pe_ix (ixK (K := KS.K) rfl) (pv 1) (pe_un un_neg pe_int) (fun _ _ => rfl)) (pv 4) (fun _ _ => rfl))))
  (pss_cons (ps_setLc (i := 6) (own := [("column", 9)]) rfl sc_lost_loads.nd rfl rfl (sw_true rfl rfl rfl (by decide +kernel)) (pi_seqK (K := KS.K) rfl (pv 0)) (blkOk_by (own := [("column", 9)]) (N := ["columns", "table", "under", "bases", "place", "gain", "loads", "row", "base", "column"]) (sc := defScope s_lost_loads) (by decide +kernel))
   (fun _ _ _ _ _ => (pg_name (i := 9) sc_lost_loads.nd rfl (Or.inl rfl))) (fun _ _ _ _ _ => pts_nil)
   (fun _ _ _ _ _ => (pe_tup (pa_cons pe_int (pa_cons pe_int pa_nil)))))
  (pss_cons (ps_if (pt_cmpR op_lt (pv 4) (pe_callB (lenK (K := KS.K) rfl) (by rfl) m_len PySem.boot_len (pa_cons (pv 0) pa_nil)) (nomark _)) (pss_one (ps_asg (calK (K := KS.K) C_fraction_of rfl rfl rfl rfl rfl (hr.mono (by decide)) (by rfl) (pa_cons (pe_op op_mulU (pv 2) (pe_ix (ixK (K := KS.K) rfl) (pe_ix (ixK (K := KS.K) rfl) (pv 0) (pv 4) (fun _ _ => rfl)) pe_int (fun _ _ => rfl))) (pa_cons (pv 5) pa_nil))) (pg_sub (pv 6) (pv 4) set_list))) pss_nil)
  (pss_cons (ps_for PassesOwn.never rfl (pi_enumK (K := KS.K) rfl (by rfl) m_enumerate (pv 3)) (pg_tupK (K := KS.K) (n := 2) rfl rfl (pgs_cons (pg_name (i := 7) sc_lost_loads.nd rfl (Or.inl rfl)) (pgs_cons (pg_name (i := 8) sc_lost_loads.nd rfl (Or.inl rfl)) pgs_nil))) (pss_one (ps_if (pt_cmpR op_lt (pv 8) (pe_callB (lenK (K := KS.K) rfl) (by rfl) m_len PySem.boot_len (pa_cons (pv 0) pa_nil)) (nomark _)) (pss_one (ps_asg (calK (K := KS.K) C_fraction_of rfl rfl rfl rfl rfl (hr.mono (by decide)) (by rfl) (pa_cons (pe_op op_mulU (pe_op op_sub pe_int (pe_ix (ixK (K := KS.K) rfl) (pe_ix (ixK (K := KS.K) rfl) (pv 1) (pv 7) (fun _ _ => rfl)) (pv 4) (fun _ _ => rfl))) (pe_ix (ixK (K := KS.K) rfl) (pe_ix (ixK (K := KS.K) rfl) (pv 0) (pv 8) (fun _ _ => rfl)) pe_int (fun _ _ => rfl))) (pa_cons (pv 5) pa_nil))) (pg_sub (pv 6) (pv 8) set_list))) pss_nil)))
  (pss_one (ps_ret (pe_tup (pa_cons pe_str (pa_cons pe_non (pa_cons pe_non (pa_cons (pe_callTy (tupleK (K := KS.K) rfl) (by rfl) m_tuple (by decide +kernel) (pa_cons (pv 6) pa_nil)) pa_nil))))))))))), ?_⟩

  rintro ds d ⟨cs, T, u, bs, p, w, m, rfl, hG, hp, hg, hc, hb, hun, rfl⟩
  have hgt := hG.gt
  have hT : T ≠ [] := fun z => by
    have h1 := hgt.rows
    have h2 := hgt.mp
    rw [z] at h1
    simp at h1
    omega
  have hlast : T.getLastD default ∈ T := by
    rw [List.getLastD_eq_getLast?, List.getLast?_eq_getLast hT]
    exact List.getLast_mem _
  have hll := hgt.cols _ hlast
  have hpl : ((T.getLastD default).getD p default).natAbs < 2 ^ 800 := hgt.lt _ hlast _ (FR.getD_mem (by rw [hll]; exact hp))
  have hg9 : (gainL T p).natAbs < 2 ^ 9000 := by
    refine pow_lt (a := 800) ?_ (by decide)
    unfold gainL
    omega
  have hll0 : (if p < cs.length then (cs.map fun _ => (0 : Rat)).set p (mkRat (u * (cs.getD p default).un) (gainL T p).toNat) else cs.map fun _ => 0).length = cs.length := by
    split
    · rw [List.length_set, List.length_map]
    · rw [List.length_map]
  refine ⟨_, sv_cons (sv_nx (sv_set (ev_op0 ev_int (ev_ixLn (f := PyData.int) (ev_ixLl (f := dR) (ev_var rfl) (ev_neg ev_int) ?a1) (ev_var rfl) ?a2)) (show 5 < 10 by decide) (by decide)) (ρ2 := [.d (.list (cs.map dWC)), .d (dT T), .d (.int u), .d (.list (bs.map .int)), .d (.int (p : Nat)), .d (.int (gainL T p)), .no, .no, .no, .no]) ?aa) (sv_cons (sv_nx (sv_setO (ef_lc (ei_list (ev_var rfl)) (lc_map (fun x hx => ⟨_, _, _, (tg_name (show 9 < 10 by decide) (by decide) (by decide)), (by rfl), et_yes, (ev_tup (ea_cons ev_int (ea_cons ev_int ea_nil)) (small_le (show 2 ≤ 1000 by decide))), (by rfl)⟩)) (no_own (by rfl)) (by rfl) ?b1) (show 6 < 10 by decide) (by decide)) (ρ2 := [.d (.list (cs.map dWC)), .d (dT T), .d (.int u), .d (.list (bs.map .int)), .d (.int (p : Nat)), .d (.int (gainL T p)), .own ((cs.map fun _ => (0 : Rat)).map dF), .no, .no, .no]) ?cc) (sv_cons (ρ1 := [.d (.list (cs.map dWC)), .d (dT T), .d (.int u), .d (.list (bs.map .int)), .d (.int (p : Nat)), .d (.int (gainL T p)), .own ((if p < cs.length then (cs.map fun _ => (0 : Rat)).set p (mkRat (u * (cs.getD p default).un) (gainL T p).toNat) else cs.map fun _ => 0).map dF), .no, .no, .no]) ?iff (sv_cons (ρ1 := [.d (.list (cs.map dWC)), .d (dT T), .d (.int u), .d (.list (bs.map .int)), .d (.int (p : Nat)), .d (.int (gainL T p)), .own ((loadsL cs T u bs p).map dF), .no, .no, .no]) (sv_for (ts := [7, 8]) (ei_enumm (ev_var rfl)) ?lp) (sv_rt (sv_ret (ev_tup (ea_cons ev_str (ea_cons ev_non (ea_cons ev_non (ea_cons (ev_tuple (er_own (by rfl))) ea_nil)))) (small_le (show 4 ≤ 1000 by decide)))) rfl))))⟩
  case a1 => exact hT
  case a2 => rw [hll]; exact hp
  case aa => rfl
  case b1 => exact small_le (by rw [List.length_map]; omega)
  case cc =>
    rw [List.map_map]
    rfl
  case iff =>
    by_cases h : p < cs.length
    · have hcm : cs.getD p default ∈ cs := FR.getD_mem h
      refine sv_ifT (et_eq (et_test (ev_op0b (ev_var rfl) (ev_lenM (f := dWC) (Ev.rl (ev_var rfl))))) (decide_eq_true (by omega))) (sv_nx (sv_setLn (ev_call (r := dF (mkRat (u * (cs.getD p default).un) (gainL T p).toNat)) (ea_cons (ev_mul (ev_var rfl) (ev_ixT (ev_ixLn (f := dWC) (ev_var rfl) (ev_var rfl) ?s1) ev_int (by rfl)) ?s2) (ea_cons (ev_var rfl) ea_nil)) ⟨_, (by rfl), ?s3, (by rfl)⟩) (ev_var rfl) (by rfl) ?s4) ?_)
      case s1 => exact h
      case s2 => exact mulx hG.lt (hun _ hcm)
      case s3 => exact ⟨_, gainL T p, rfl, hg, hg9, rfl⟩
      case s4 => rw [List.length_map, List.length_map]; exact h
      rw [if_pos h, List.map_set]
      rfl
    · rw [if_neg h]
      exact sv_ifF (et_eq (et_test (ev_op0b (ev_var rfl) (ev_lenM (f := dWC) (Ev.rl (ev_var rfl))))) (decide_eq_false (by omega))) sv_next
  case lp =>
      refine lp_natN (R := fun k => [.d (.list (cs.map dWC)), .d (dT T), .d (.int u), .d (.list (bs.map .int)), .d (.int (p : Nat)), .d (.int (gainL T p)), .own ((ldK cs.length bs (lostX cs T (gainL T p) bs p) (if p < cs.length then (cs.map fun _ => (0 : Rat)).set p (mkRat (u * (cs.getD p default).un) (gainL T p).toNat) else cs.map fun _ => 0) k).map dF), .no, .no, .no]) (by rw [List.length_map, List.length_zipIdx]) fun i d hi hd => ?_
      obtain ⟨_, rfl⟩ := enum_get default hd
      refine ⟨[.d (.list (cs.map dWC)), .d (dT T), .d (.int u), .d (.list (bs.map .int)), .d (.int (p : Nat)), .d (.int (gainL T p)), .own ((ldK cs.length bs (lostX cs T (gainL T p) bs p) (if p < cs.length then (cs.map fun _ => (0 : Rat)).set p (mkRat (u * (cs.getD p default).un) (gainL T p).toNat) else cs.map fun _ => 0) i).map dF), .d (.int (i : Nat)), .d (.int (bs.getD i default)), .no], (tg_tup (tgs_cons (tg_name (show 7 < 10 by decide) (by decide) (by decide)) (tgs_cons (tg_name (show 8 < 10 by decide) (by decide) (by decide)) tgs_nil)) (by rfl)), ?_⟩
      have hlen := hG.len
      have hb0 : 0 ≤ bs.getD i default := hb _ (FR.getD_mem hi)
      have hs := ldK_succ cs.length bs (lostX cs T (gainL T p) bs p) (if p < cs.length then (cs.map fun _ => (0 : Rat)).set p (mkRat (u * (cs.getD p default).un) (gainL T p).toNat) else cs.map fun _ => 0) i
      unfold ldStep at hs
      by_cases h : bs.getD i default < (cs.length : Int)
      · rw [if_pos h] at hs
        have hcm : cs.getD (bs.getD i default).toNat default ∈ cs := FR.getD_mem (by omega)
        refine sv_post (ρ' := [.d (.list (cs.map dWC)), .d (dT T), .d (.int u), .d (.list (bs.map .int)), .d (.int (p : Nat)), .d (.int (gainL T p)), .own ((ldK cs.length bs (lostX cs T (gainL T p) bs p) (if p < cs.length then (cs.map fun _ => (0 : Rat)).set p (mkRat (u * (cs.getD p default).un) (gainL T p).toNat) else cs.map fun _ => 0) (i + 1)).map dF), .d (.int (i : Nat)), .d (.int (bs.getD i default)), .no]) (sv_nx (sv_ifT (et_eq (et_test (ev_op0b (ev_var rfl) (ev_lenM (f := dWC) (Ev.rl (ev_var rfl))))) ?t1) (sv_setLi (ev_call (r := dF (lostX cs T (gainL T p) bs p i)) (ea_cons (ev_mul (ev_op0 ev_int (ev_ixLn (f := PyData.int) (ev_ixLn (f := dR) (ev_var rfl) (ev_var rfl) ?t2) (ev_var rfl) ?t3)) (ev_ixT (ev_ixLi (f := dWC) (ev_var rfl) (ev_var rfl) ?t4) ev_int (by rfl)) ?t5) (ea_cons (ev_var rfl) ea_nil)) ⟨_, (by rfl), ?t6, (by rfl)⟩) (ev_var rfl) (by rfl) ?t7)) ?_) (by repeat' (first | exact Wk.nil | apply Wk.same | apply Wk.drop))
        case t1 => exact decide_eq_true h
        case t2 => rw [hgt.rows]; omega
        case t3 => rw [hgt.len (by omega)]; exact hp
        case t4 => exact ⟨hb0, h⟩
        case t5 =>
          refine mulx (a := 801) ?_ (hun _ hcm)
          have := hgt.ent (i := i) (j := p) (by omega) hp
          show (0 - ent T i p).natAbs < 2 ^ 801
          rw [Nat.pow_succ]
          omega
        case t6 => exact ⟨_, gainL T p, rfl, hg, hg9, rfl⟩
        case t7 => exact ⟨hb0, by rw [List.length_map, ldK_length, hll0]; exact h⟩
        rw [hs, List.map_set]
        rfl
      · rw [if_neg h] at hs
        refine sv_post (ρ' := [.d (.list (cs.map dWC)), .d (dT T), .d (.int u), .d (.list (bs.map .int)), .d (.int (p : Nat)), .d (.int (gainL T p)), .own ((ldK cs.length bs (lostX cs T (gainL T p) bs p) (if p < cs.length then (cs.map fun _ => (0 : Rat)).set p (mkRat (u * (cs.getD p default).un) (gainL T p).toNat) else cs.map fun _ => 0) (i + 1)).map dF), .d (.int (i : Nat)), .d (.int (bs.getD i default)), .no]) (sv_ifF (et_eq (et_test (ev_op0b (ev_var rfl) (ev_lenM (f := dWC) (Ev.rl (ev_var rfl))))) ?f1) ?_) (by repeat' (first | exact Wk.nil | apply Wk.same | apply Wk.drop))
        case f1 => exact decide_eq_false h
        rw [hs]
        exact sv_next

end
end K55

end
section
set_option Elab.async false
set_option linter.all false
set_option maxRecDepth 100000
set_option maxHeartbeats 1000000
set_option exponentiation.threshold 20000
namespace K55
open PySem PySem.Spec PyProof.Rows L2 RZ EV FR LW
section
variable [KS] {P : Program} {w : World} {mg : Str → Option Value} {base : Heap}
theorem ok_common_under (T : TopF KS.K mg "common_under" s_common_under)  (C_fraction_of : Cal P w KS.K mg base 2 "fraction_of" ["n", "d"] G_fraction_of) : Cal P w KS.K mg base 3 "common_under" ["some"] G_common_under := by
  refine cal_pure T (fun _ _ _ _ _ _ us hl => match us, hl with | [_], _ => rfl) sc_common_under (fun ds r h => by obtain ⟨qs, M, rfl, _⟩ := h; rfl) fun f cdv A outer s H E hr => ⟨_, (pss_cons (ps_set (i := 1) sc_common_under.nd rfl (Or.inl rfl) pe_int)
  (pss_cons (ps_for PassesOwn.never rfl (pi_seqK (K := KS.K) rfl (pv 0)) (pg_tupK (K := KS.K) (n := 2) rfl rfl (pgs_cons (pg_name (i := 2) sc_common_under.nd rfl (Or.inl rfl)) (pgs_cons (pg_name (i := 3) sc_common_under.nd rfl (Or.inl rfl)) pgs_nil))) (pss_one (ps_set (i := 1) sc_common_under.nd rfl (Or.inl rfl) (pe_op op_mulU (pv 1) (pe_ix (ixK (K := KS.K) rfl) (calK (K := KS.K) C_fraction_of rfl rfl rfl rfl rfl (hr.mono (by decide)) (by rfl) (pa_cons (pv 1) (pa_cons (pv 3) pa_nil))) pe_int (fun _ _ => rfl))))))
  (pss_one (ps_ret (pv 1))))), ?_⟩

  rintro ds r ⟨qs, M, rfl, hM, h0, hs, rfl⟩
  refine ⟨_, (sv_cons (sv_set ev_int (show 1 < 4 by decide) (by decide))
   (sv_cons (sv_for (ts := [2, 3]) (ei_tup (ev_var rfl)) (o := .next [.d (.tuple (qs.map dF)), .d (.int (lcmL qs : Nat)), .no, .no]) ?_)
   (sv_rt (sv_ret (ev_var rfl)) rfl)))⟩
  refine (lp_fold (f := dF) (xs := qs) (R := fun (u : Nat) => [.d (.tuple (qs.map dF)), .d (.int (u : Int)), .no, .no]) (step := fun u q => Nat.lcm u q.den) (J := fun u => 0 < u ∧ u ∣ M) (b := 1) ⟨Nat.one_pos, Nat.one_dvd M⟩ fun u q hq ⟨u0, uM⟩ => ⟨⟨Nat.lcm_pos u0 q.den_pos, Nat.lcm_dvd uM (hM q hq)⟩, _, (tg_tup (tgs_cons (tg_name (show 2 < 4 by decide) (by decide) (by decide)) (tgs_cons (tg_name (show 3 < 4 by decide) (by decide) (by decide)) tgs_nil)) (by rfl)), ?_⟩).2
  have hqM := Nat.le_of_dvd h0 (hM q hq)
  have huM := Nat.le_of_dvd h0 uM
  have hq0 := q.den_pos
  have hb : ((q.den : Nat) : Int).natAbs < 2 ^ 4000 := by omega
  have hb2 : ((u : Nat) : Int).natAbs < 2 ^ 4000 := by omega
  show Sv [] _ _ (.next [.d (.tuple (qs.map dF)), .d (.int ((Nat.lcm u q.den : Nat) : Int)), .no, .no])
  rw [lcm_step u q.den (by omega), Int.natCast_mul]
  refine sv_post (ρ' := [.d (.tuple (qs.map dF)), .d (.int ((u : Int) * ((mkRat (u : Int) q.den).den : Int))), .d (.int q.num), .d (.int q.den)]) (sv_set (ev_mul (ev_var rfl) (ev_ixT (ev_call (r := dF (mkRat (u : Int) q.den)) (ea_cons (ev_var rfl) (ea_cons (ev_var rfl) ea_nil)) ⟨_, (by rfl), ?a1, (by rfl)⟩) ev_int (by rfl)) ?a2) (show 1 < 4 by decide) (by decide)) (by repeat' (first | exact Wk.nil | apply Wk.same | apply Wk.drop))
  case a1 => exact ⟨(u : Int), q.den, rfl, by omega, pow_lt hb (by decide), by rw [Int.toNat_natCast]⟩
  case a2 =>
    refine mulx hb2 (b := 4000) ?_
    have : (mkRat (u : Int) q.den).den ≤ q.den := by
      rw [Rat.den_mkRat, if_neg (by omega)]
      exact Nat.div_le_self _ _
    omega

end
end K55

end
section
set_option Elab.async false
set_option linter.all false
set_option maxRecDepth 100000
set_option maxHeartbeats 1000000
set_option exponentiation.threshold 20000
namespace K55
open PySem PySem.Spec PyProof.Rows L2 RZ EV FR LW
section
variable [KS] {P : Program} {w : World} {mg : Str → Option Value} {base : Heap}
theorem ok_whole_column (T : TopF KS.K mg "whole_column" s_whole_column)  (C_common_under : Cal P w KS.K mg base 3 "common_under" ["some"] G_common_under) : Cal P w KS.K mg base 4 "whole_column" ["column"] G_whole_column := by
  refine cal_pure T (fun _ _ _ _ _ _ us hl => match us, hl with | [_], _ => rfl) sc_whole_column (fun ds r h => by obtain ⟨c, M, rfl, _⟩ := h; rfl) fun f cdv A outer s H E hr => ⟨_, (pss_cons (ps_asg (pv 0) (pg_tupK (K := KS.K) (n := 3) rfl rfl (pgs_cons (pg_name (i := 1) sc_whole_column.nd rfl (Or.inl rfl)) (pgs_cons (pg_name (i := 2) sc_whole_column.nd rfl (Or.inl rfl)) (pgs_cons (pg_name (i := 3) sc_whole_column.nd rfl (Or.inl rfl)) pgs_nil)))))
  (pss_cons (ps_set (i := 4) sc_whole_column.nd rfl (Or.inr rfl) (calK (K := KS.K) C_common_under rfl rfl rfl rfl rfl (hr.mono (by decide)) (by rfl) (pa_cons (pe_op (addK (K := KS.K) rfl) (pv 1) (pe_tup (pa_cons (pv 2) (pa_cons (pv 3) pa_nil)))) pa_nil)))
  (pss_cons (ps_setLc (i := 5) (own := [("n", 6), ("d", 7)]) rfl sc_whole_column.nd rfl rfl (sw_true rfl rfl rfl (by decide +kernel)) (pi_seqK (K := KS.K) rfl (pe_op (addK (K := KS.K) rfl) (pv 1) (pe_tup (pa_cons (pv 2) (pa_cons (pv 3) pa_nil))))) (blkOk_by (own := [("n", 6), ("d", 7)]) (N := ["column", "gains", "rise", "let", "under", "found", "n", "d"]) (sc := defScope s_whole_column) (by decide +kernel))
   (fun _ _ _ _ _ => (pg_tupK (K := KS.K) (n := 2) rfl rfl (pgs_cons (pg_name (i := 6) sc_whole_column.nd rfl (Or.inl rfl)) (pgs_cons (pg_name (i := 7) sc_whole_column.nd rfl (Or.inl rfl)) pgs_nil)))) (fun _ _ _ _ _ => pts_nil)
   (fun _ _ _ _ _ => (pe_op op_mulU (pv 6) (pe_op op_fdivP (pv 4) (pv 7)))))
  (pss_one (ps_ret (pe_tup (pa_cons (pe_slice (slK (K := KS.K) rfl) (pv 5) po_none (po_some (pe_un un_neg pe_int))) (pa_cons (pe_ix (ixK (K := KS.K) rfl) (pv 5) (pe_un un_neg pe_int) (fun _ _ => rfl)) (pa_cons (pe_ix (ixK (K := KS.K) rfl) (pv 5) (pe_un un_neg pe_int) (fun _ _ => rfl)) (pa_cons (pv 4) pa_nil)))))))))), ?_⟩

  rintro ds r ⟨c, M, rfl, hg, hl, hF, rfl⟩
  have hall : c.g.map dF ++ [dF c.ri, dF c.lt] = c.all.map dF := by
    unfold Col.all
    rw [List.map_append]
    rfl
  have hal : c.all.length = c.g.length + 2 := by
    unfold Col.all
    rw [List.length_append]
    rfl
  have hu : c.un < 2 ^ 4000 := hF.lcm
  have hm : c.all.map (fun q : Rat => PyData.int (q.num * ((c.un : Int) / (q.den : Int)))) = c.g.map (fun q : Rat => PyData.int (q.num * ((c.un : Int) / (q.den : Int)))) ++ [(fun q : Rat => PyData.int (q.num * ((c.un : Int) / (q.den : Int)))) c.ri, (fun q : Rat => PyData.int (q.num * ((c.un : Int) / (q.den : Int)))) c.lt] := by
    unfold Col.all
    rw [List.map_append]
    rfl
  have hne : c.g.map dF ≠ [] := by simpa using hg
  have hcl : (c.g.map dF).length + [dF c.ri, dF c.lt].length ≤ sizeLine := by
    refine small_le ?_
    rw [List.length_map]
    show c.g.length + 2 ≤ 1000
    omega
  refine ⟨_, (sv_cons (sv_asg (ts := [1, 2, 3]) (ev_var rfl) (tg_tup (tgs_cons (tg_name (show 1 < 8 by decide) (by decide) (by decide)) (tgs_cons (tg_name (show 2 < 8 by decide) (by decide) (by decide)) (tgs_cons (tg_name (show 3 < 8 by decide) (by decide) (by decide)) tgs_nil))) (by rfl)))
   (sv_cons (sv_set (ev_call (r := .int (c.un : Nat)) (ea_cons (ev_catT (ev_var rfl) (ev_tup (ea_cons (ev_var rfl) (ea_cons (ev_var rfl) ea_nil)) (small_le (show 2 ≤ 1000 by decide))) ?a1 ?a2) ea_nil) ⟨_, (by rfl), ?a3, (by rfl)⟩) (show 4 < 8 by decide) (by decide))
   (sv_cons (sv_set (EvF.ev (ef_lc (ei_tup (ev_eq (ev_catT (ev_var rfl) (ev_tup (ea_cons (ev_var rfl) (ea_cons (ev_var rfl) ea_nil)) (small_le (show 2 ≤ 1000 by decide))) ?a4 ?a5) (congrArg PyData.tuple hall))) (lc_map (g := (fun q : Rat => PyData.int (q.num * ((c.un : Int) / (q.den : Int))))) (fun x hx => ⟨_, _, _, (tg_tup (tgs_cons (tg_name (show 6 < 8 by decide) (by decide) (by decide)) (tgs_cons (tg_name (show 7 < 8 by decide) (by decide) (by decide)) tgs_nil)) (by rfl)), (by rfl), et_yes, (ev_mul (ev_var rfl) (ev_opC (ev_var rfl) (ev_var rfl) ?a6) ?a7), (by rfl)⟩)) (no_own (by rfl)) (by rfl) ?a8)) (show 5 < 8 by decide) (by decide))
   (sv_rt (sv_ret (ev_tup (ea_cons (EvF.ev (ef_sliceL (Ev.rl (ev_var rfl)) eo_none eo_neg)) (ea_cons (ev_ixL (d := (.int (whole c.un c.ri))) (ev_var rfl) (ev_neg ev_int) ?a9) (ea_cons (ev_ixL (d := (.int (whole c.un c.lt))) (ev_var rfl) (ev_neg ev_int) ?a10) (ea_cons (ev_var rfl) ea_nil)))) (small_le (show 4 ≤ 1000 by decide)))) ?fin))))⟩
  case a1 => exact hne
  case a2 => exact hcl
  case a3 => exact ⟨c.all, M, by rw [hall], hF.dv, hF.pos, hF.lt, rfl⟩
  case a4 => exact hne
  case a5 => exact hcl
  case a6 => exact divp_lt (by have := x.den_pos; omega) (pow_lt (b := 9000) (hF.den hx) (by decide))
  case a7 => exact mulx (hF.num x hx) (div_lt hu)
  case a8 => exact small_le (by rw [List.length_map]; omega)
  case a9 => rw [hm]; exact at_last2
  case a10 => rw [hm]; exact at_last1
  case fin =>
    rw [hm, cut_two]
    unfold dWC Col.wc dR
    rw [List.map_map]
    rfl

end
end K55

end
section
set_option Elab.async false
set_option linter.all false
set_option maxRecDepth 100000
set_option maxHeartbeats 1000000
set_option exponentiation.threshold 20000
namespace K55
open PySem PySem.Spec PyProof.Rows L2 RZ EV FR LW
section
variable [KS] {P : Program} {w : World} {mg : Str → Option Value} {base : Heap}
theorem ok_kept_shares (T : TopF KS.K mg "kept_shares" s_kept_shares) (m_tuple : mg "tuple" = none) (m_enumerate : mg "enumerate" = none) (m_range : mg "range" = none) (m_len : mg "len" = none) (C_fraction_of : Cal P w KS.K mg base 2 "fraction_of" ["n", "d"] G_fraction_of) : Cal P w KS.K mg base 3 "kept_shares" ["columns", "many", "table", "under", "bases"] G_kept_shares := by
  refine cal_pure T (fun _ _ _ _ _ _ us hl => match us, hl with | [_, _, _, _, _], _ => rfl) sc_kept_shares (fun ds r h => by obtain ⟨cs, many, T, u, bs, w, m, rfl, _⟩ := h; rfl) fun f cdv A outer s H E hr => ⟨_, (pss_cons (ps_set (i := 5) sc_kept_shares.nd rfl (Or.inl rfl) (calK (K := KS.K) C_fraction_of rfl rfl rfl rfl rfl (hr.mono (by decide)) (by rfl) (pa_cons (pe_ix (ixK (K := KS.K) rfl) (pe_ix (ixK (K := KS.K) rfl) (pv 2) (pe_un un_neg pe_int) (fun _ _ => rfl)) (pe_un un_neg pe_int) (fun _ _ => rfl)) (pa_cons (pv 3) pa_nil))))
  (pss_cons (ps_set (i := 6) sc_kept_shares.nd rfl (Or.inl rfl) (pe_callTy (tupleK (K := KS.K) rfl) (by rfl) m_tuple (by decide +kernel) (pa_cons (pe_lc (own := [("row", 8)]) rfl sc_kept_shares.nd (pi_range1 (by rfl) m_range (pa_cons (pv 1) pa_nil)) (blkOk_by (own := [("row", 8)]) (N := ["columns", "many", "table", "under", "bases", "price", "shares", "loads", "row", "base", "column"]) (sc := defScope s_kept_shares) (by decide +kernel))
   (fun _ _ _ _ _ => (pg_name (i := 8) sc_kept_shares.nd rfl (Or.inl rfl))) (fun _ _ _ _ _ => pts_nil)
   (fun _ _ _ _ _ => (calK (K := KS.K) C_fraction_of rfl rfl rfl rfl rfl (hr.mono (by decide)) (by rfl) (pa_cons (pe_ix (ixK (K := KS.K) rfl) (pe_ix (ixK (K := KS.K) rfl) (pv 2) (pe_un un_neg pe_int) (fun _ _ => rfl)) (pe_op (addK (K := KS.K) rfl) (pe_callB (lenK (K := KS.K) rfl) (by rfl) m_len PySem.boot_len (pa_cons (pv 0) pa_nil)) (pv 8)) (fun _ _ => rfl)) (pa_cons (pv 3) pa_nil))))) pa_nil)))
  (pss_cons (ps_setLc (i := 7) (own := [("column", 10)]) rfl sc_kept_shares.nd rfl rfl (sw_true rfl rfl rfl (by decide +kernel)) (pi_seqK (K := KS.K) rfl (pv 0)) (blkOk_by (own := [("column", 10)]) (N := ["columns", "many", "table", "under", "bases", "price", "shares", "loads", "row", "base", "column"]) (sc := defScope s_kept_shares) (by decide +kernel))
   (fun _ _ _ _ _ => (pg_name (i := 10) sc_kept_shares.nd rfl (Or.inl rfl))) (fun _ _ _ _ _ => pts_nil)
   (fun _ _ _ _ _ => (pe_tup (pa_cons pe_int (pa_cons pe_int pa_nil)))))
  (pss_cons (ps_if (pt_cmpR op_gt (pe_ix (ixK (K := KS.K) rfl) (pv 5) pe_int (fun _ _ => rfl)) pe_int (nomark _)) (pss_one (ps_for PassesOwn.never rfl (pi_enumK (K := KS.K) rfl (by rfl) m_enumerate (pv 4)) (pg_tupK (K := KS.K) (n := 2) rfl rfl (pgs_cons (pg_name (i := 8) sc_kept_shares.nd rfl (Or.inl rfl)) (pgs_cons (pg_name (i := 9) sc_kept_shares.nd rfl (Or.inl rfl)) pgs_nil))) (pss_one (ps_if (pt_cmpR op_lt (pv 9) (pe_callB (lenK (K := KS.K) rfl) (by rfl) m_len PySem.boot_len (pa_cons (pv 0) pa_nil)) (nomark _)) (pss_one (ps_asg (calK (K := KS.K) C_fraction_of rfl rfl rfl rfl rfl (hr.mono (by decide)) (by rfl) (pa_cons (pe_op op_mulU (pe_ix (ixK (K := KS.K) rfl) (pe_ix (ixK (K := KS.K) rfl) (pv 2) (pv 8) (fun _ _ => rfl)) (pe_un un_neg pe_int) (fun _ _ => rfl)) (pe_ix (ixK (K := KS.K) rfl) (pe_ix (ixK (K := KS.K) rfl) (pv 0) (pv 9) (fun _ _ => rfl)) pe_int (fun _ _ => rfl))) (pa_cons (pv 3) pa_nil))) (pg_sub (pv 7) (pv 9) set_list))) pss_nil)))) pss_nil)
  (pss_one (ps_ret (pe_tup (pa_cons pe_str (pa_cons (pv 5) (pa_cons (pv 6) (pa_cons (pe_callTy (tupleK (K := KS.K) rfl) (by rfl) m_tuple (by decide +kernel) (pa_cons (pv 7) pa_nil)) pa_nil))))))))))), ?_⟩

  rintro ds d ⟨cs, many, T, u, bs, w, m, rfl, hG, hw, hc, hm, hb, hun, rfl⟩
  have hgt := hG.gt
  have hT : T ≠ [] := fun z => by
    have h1 := hgt.rows
    have h2 := hgt.mp
    rw [z] at h1
    simp at h1
    omega
  have hlast : T.getLastD default ∈ T := by
    rw [List.getLastD_eq_getLast?, List.getLast?_eq_getLast hT]
    exact List.getLast_mem _
  have hll := hgt.cols _ hlast
  have hlne : T.getLastD default ≠ [] := fun z => by
    rw [z] at hll
    have := hgt.wp
    simp at hll
    omega
  have hu9 : u.natAbs < 2 ^ 9000 := pow_lt hG.lt (by decide)
  refine ⟨_, sv_cons (sv_set (ev_call (r := dF (priceK T u)) (ea_cons (ev_ixLl (f := PyData.int) (ev_ixLl (f := dR) (ev_var rfl) (ev_neg ev_int) ?a1) (ev_neg ev_int) ?a2) (ea_cons (ev_var rfl) ea_nil)) ⟨_, (by rfl), ?a3, (by rfl)⟩) (show 5 < 11 by decide) (by decide)) (sv_cons (sv_nx (sv_set (ev_tuple (Ev.rl (EvF.ev (ef_lc (ei_rangeN (ea_cons (ev_var rfl) ea_nil) ?b1) (lc_map (fun x hx => ⟨_, _, _, (tg_name (show 8 < 11 by decide) (by decide) (by decide)), (by rfl), et_yes, (ev_call (r := dF (mkRat ((T.getLastD default).getD (cs.length + x) default) u.toNat)) (ea_cons (ev_ixLn (f := PyData.int) (ev_ixLl (f := dR) (ev_var rfl) (ev_neg ev_int) ?b2) (ev_addN (ev_lenM (f := dWC) (Ev.rl (ev_var rfl))) (ev_var rfl)) ?b3) (ea_cons (ev_var rfl) ea_nil)) ⟨_, (by rfl), ?b4, (by rfl)⟩), (by rfl)⟩)) (no_own (by rfl)) (by rfl) ?b5)))) (show 6 < 11 by decide) (by decide)) (ρ2 := [.d (.list (cs.map dWC)), .d (.int (many : Nat)), .d (dT T), .d (.int u), .d (.list (bs.map .int)), .d (dF (priceK T u)), .d (.tuple ((sharesK cs many T u).map dF)), .no, .no, .no, .no]) ?bb) (sv_cons (sv_nx (sv_setO (ef_lc (ei_list (ev_var rfl)) (lc_map (fun x hx => ⟨_, _, _, (tg_name (show 10 < 11 by decide) (by decide) (by decide)), (by rfl), et_yes, (ev_tup (ea_cons ev_int (ea_cons ev_int ea_nil)) (small_le (show 2 ≤ 1000 by decide))), (by rfl)⟩)) (no_own (by rfl)) (by rfl) ?c1) (show 7 < 11 by decide) (by decide)) (ρ2 := [.d (.list (cs.map dWC)), .d (.int (many : Nat)), .d (dT T), .d (.int u), .d (.list (bs.map .int)), .d (dF (priceK T u)), .d (.tuple ((sharesK cs many T u).map dF)), .own ((cs.map fun _ => (0 : Rat)).map dF), .no, .no, .no]) ?cc) (sv_cons (ρ1 := [.d (.list (cs.map dWC)), .d (.int (many : Nat)), .d (dT T), .d (.int u), .d (.list (bs.map .int)), .d (dF (priceK T u)), .d (.tuple ((sharesK cs many T u).map dF)), .own ((loadsK cs T u bs).map dF), .no, .no, .no]) ?iff (sv_rt (sv_ret (ev_tup (ea_cons ev_str (ea_cons (ev_var rfl) (ea_cons (ev_var rfl) (ea_cons (ev_tuple (er_own (by rfl))) ea_nil)))) (small_le (show 4 ≤ 1000 by decide)))) rfl))))⟩
  case a1 => exact hT
  case a2 => exact hlne
  case a3 => exact ⟨_, u, rfl, hG.pos, hu9, rfl⟩
  case b1 => omega
  case b2 => exact hT
  case b3 => rw [hll]; have := List.mem_range.mp hx; omega
  case b4 => exact ⟨_, u, rfl, hG.pos, hu9, rfl⟩
  case b5 => exact small_le (by rw [List.length_map, List.length_range]; omega)
  case bb =>
    unfold sharesK
    rw [List.map_map]
    rfl
  case c1 => exact small_le (by rw [List.length_map]; omega)
  case cc =>
    rw [List.map_map]
    rfl
  case iff =>
    by_cases hp : 0 < (priceK T u).num
    · refine sv_ifT (et_eq (et_test (ev_op0b (ev_ixT (ev_var rfl) ev_int (by rfl)) ev_int)) (decide_eq_true hp)) (sv_for (ts := [8, 9]) (ei_enumm (ev_var rfl)) ?_)
      have hl : loadsK cs T u bs = (ldK cs.length bs (keptX cs T u bs) (cs.map fun _ => 0) bs.length) := if_pos hp
      rw [hl]
      refine lp_natN (R := fun k => [.d (.list (cs.map dWC)), .d (.int (many : Nat)), .d (dT T), .d (.int u), .d (.list (bs.map .int)), .d (dF (priceK T u)), .d (.tuple ((sharesK cs many T u).map dF)), .own ((ldK cs.length bs (keptX cs T u bs) (cs.map fun _ => 0) k).map dF), .no, .no, .no]) (by rw [List.length_map, List.length_zipIdx]) fun i d hi hd => ?_
      obtain ⟨_, rfl⟩ := enum_get default hd
      refine ⟨[.d (.list (cs.map dWC)), .d (.int (many : Nat)), .d (dT T), .d (.int u), .d (.list (bs.map .int)), .d (dF (priceK T u)), .d (.tuple ((sharesK cs many T u).map dF)), .own ((ldK cs.length bs (keptX cs T u bs) (cs.map fun _ => 0) i).map dF), .d (.int (i : Nat)), .d (.int (bs.getD i default)), .no], (tg_tup (tgs_cons (tg_name (show 8 < 11 by decide) (by decide) (by decide)) (tgs_cons (tg_name (show 9 < 11 by decide) (by decide) (by decide)) tgs_nil)) (by rfl)), ?_⟩
      have hlen := hG.len
      have hb0 : 0 ≤ bs.getD i default := hb _ (FR.getD_mem hi)
      have hs := ldK_succ cs.length bs (keptX cs T u bs) (cs.map fun _ => 0) i
      unfold ldStep at hs
      by_cases h : bs.getD i default < (cs.length : Int)
      · rw [if_pos h] at hs
        have hcm : cs.getD (bs.getD i default).toNat default ∈ cs := FR.getD_mem (by omega)
        refine sv_post (ρ' := [.d (.list (cs.map dWC)), .d (.int (many : Nat)), .d (dT T), .d (.int u), .d (.list (bs.map .int)), .d (dF (priceK T u)), .d (.tuple ((sharesK cs many T u).map dF)), .own ((ldK cs.length bs (keptX cs T u bs) (cs.map fun _ => 0) (i + 1)).map dF), .d (.int (i : Nat)), .d (.int (bs.getD i default)), .no]) (sv_nx (sv_ifT (et_eq (et_test (ev_op0b (ev_var rfl) (ev_lenM (f := dWC) (Ev.rl (ev_var rfl))))) ?t1) (sv_setLi (ev_call (r := dF (keptX cs T u bs i)) (ea_cons (ev_mul (ev_ixLl (f := PyData.int) (ev_ixLn (f := dR) (ev_var rfl) (ev_var rfl) ?t2) (ev_neg ev_int) ?t3) (ev_ixT (ev_ixLi (f := dWC) (ev_var rfl) (ev_var rfl) ?t4) ev_int (by rfl)) ?t5) (ea_cons (ev_var rfl) ea_nil)) ⟨_, (by rfl), ?t6, (by rfl)⟩) (ev_var rfl) (by rfl) ?t7)) ?_) (by repeat' (first | exact Wk.nil | apply Wk.same | apply Wk.drop))
        case t1 => exact decide_eq_true h
        case t2 => rw [hgt.rows]; omega
        case t3 => exact hgt.ne (by omega)
        case t4 => exact ⟨hb0, h⟩
        case t5 => exact mulx (hgt.last (by omega)) (hun _ hcm)
        case t6 => exact ⟨_, u, rfl, hG.pos, hu9, rfl⟩
        case t7 => exact ⟨hb0, by rw [List.length_map, ldK_length, List.length_map]; exact h⟩
        rw [hs, List.map_set]
        rfl
      · rw [if_neg h] at hs
        refine sv_post (ρ' := [.d (.list (cs.map dWC)), .d (.int (many : Nat)), .d (dT T), .d (.int u), .d (.list (bs.map .int)), .d (dF (priceK T u)), .d (.tuple ((sharesK cs many T u).map dF)), .own ((ldK cs.length bs (keptX cs T u bs) (cs.map fun _ => 0) (i + 1)).map dF), .d (.int (i : Nat)), .d (.int (bs.getD i default)), .no]) (sv_ifF (et_eq (et_test (ev_op0b (ev_var rfl) (ev_lenM (f := dWC) (Ev.rl (ev_var rfl))))) ?f1) ?_) (by repeat' (first | exact Wk.nil | apply Wk.same | apply Wk.drop))
        case f1 => exact decide_eq_false h
        rw [hs]
        exact sv_next
    · have hl : loadsK cs T u bs = cs.map fun _ => 0 := if_neg hp
      rw [hl]
      exact sv_ifF (et_eq (et_test (ev_op0b (ev_ixT (ev_var rfl) ev_int (by rfl)) ev_int)) (decide_eq_false hp)) sv_next

end
end K55

end
section
set_option Elab.async false
set_option linter.all false
set_option maxRecDepth 100000
set_option maxHeartbeats 1000000
set_option exponentiation.threshold 20000
namespace K55
open PySem PySem.Spec PyProof.Rows L2 RZ EV FR LW
section
variable [KS] {P : Program} {w : World} {mg : Str → Option Value} {base : Heap}
theorem ok_best_shares (T : TopF KS.K mg "best_shares" s_best_shares)  (C_searched : Cal P w KS.K mg base 2 "searched" ["columns", "many"] G_searched) (C_lost_loads : Cal P w KS.K mg base 3 "lost_loads" ["columns", "table", "under", "bases", "place"] G_lost_loads) (C_whole_column : Cal P w KS.K mg base 4 "whole_column" ["column"] G_whole_column) (C_kept_shares : Cal P w KS.K mg base 3 "kept_shares" ["columns", "many", "table", "under", "bases"] G_kept_shares) : Cal P w KS.K mg base 5 "best_shares" ["columns", "many"] G_best_shares := by
  refine cal_pure T (fun _ _ _ _ _ _ us hl => match us, hl with | [_, _], _ => rfl) sc_best_shares (fun ds r h => by obtain ⟨cols, many, w, m, T, u, bs, q, n, rfl, _⟩ := h; rfl) fun f cdv A outer s H E hr => ⟨_, (pss_cons (ps_setLc (i := 2) (own := [("column", 7)]) rfl sc_best_shares.nd rfl rfl (sw_true rfl rfl rfl (by decide +kernel)) (pi_seqK (K := KS.K) rfl (pv 0)) (blkOk_by (own := [("column", 7)]) (N := ["columns", "many", "found", "table", "under", "bases", "place", "column"]) (sc := defScope s_best_shares) (by decide +kernel))
   (fun _ _ _ _ _ => (pg_name (i := 7) sc_best_shares.nd rfl (Or.inl rfl))) (fun _ _ _ _ _ => pts_nil)
   (fun _ _ _ _ _ => (calK (K := KS.K) C_whole_column rfl rfl rfl rfl rfl (hr.mono (by decide)) (by rfl) (pa_cons (pv 7) pa_nil))))
  (pss_cons (ps_asg (calK (K := KS.K) C_searched rfl rfl rfl rfl rfl (hr.mono (by decide)) (by rfl) (pa_cons (pv 2) (pa_cons (pv 1) pa_nil))) (pg_tupK (K := KS.K) (n := 4) rfl rfl (pgs_cons (pg_name (i := 3) sc_best_shares.nd rfl (Or.inl rfl)) (pgs_cons (pg_name (i := 4) sc_best_shares.nd rfl (Or.inl rfl)) (pgs_cons (pg_name (i := 5) sc_best_shares.nd rfl (Or.inl rfl)) (pgs_cons (pg_name (i := 6) sc_best_shares.nd rfl (Or.inl rfl)) pgs_nil))))))
  (pss_cons (ps_if (pt_cmpR op_isN (pv 6) pe_non (nomark _)) (pss_one (ps_ret (calK (K := KS.K) C_kept_shares rfl rfl rfl rfl rfl (hr.mono (by decide)) (by rfl) (pa_cons (pv 2) (pa_cons (pv 1) (pa_cons (pv 3) (pa_cons (pv 4) (pa_cons (pv 5) pa_nil)))))))) pss_nil)
  (pss_one (ps_ret (calK (K := KS.K) C_lost_loads rfl rfl rfl rfl rfl (hr.mono (by decide)) (by rfl) (pa_cons (pv 2) (pa_cons (pv 3) (pa_cons (pv 4) (pa_cons (pv 5) (pa_cons (pv 6) pa_nil))))))))))), ?_⟩

  rintro ds d ⟨cols, many, w, m, T, u, bs, q, n, rfl, h1, h2, h3, hg, hcol, hrun, hF, rfl⟩
  have hgl : ∀ c ∈ (cols.map Col.wc), c.g.length = many := fun c hc => by
    obtain ⟨x, hx, rfl⟩ := List.mem_map.mp hc
    show (x.g.map _).length = many
    rw [List.length_map]
    exact hg x hx
  cases q with
  | none =>
    refine ⟨_, (sv_cons (sv_set (EvF.ev (ef_lc (ei_tup (ev_var rfl)) (lc_map (f := dCol) (g := fun x => dWC x.wc) (fun x hx => ⟨_, _, _, (tg_name (show 7 < 8 by decide) (by decide) (by decide)), (by rfl), et_yes, (ev_call (r := dWC x.wc) (ea_cons (ev_var rfl) ea_nil) ⟨_, (by rfl), ?k1, (by rfl)⟩), (by rfl)⟩)) (no_own (by rfl)) (by rfl) ?k2)) (show 2 < 8 by decide) (by decide))
   (sv_cons (sv_asg (ts := [3, 4, 5, 6]) (ev_call (r := dRes T u bs none) (ea_cons (ev_var rfl) (ea_cons (ev_var rfl) ea_nil)) ⟨_, (by rfl), ?k3, (by rfl)⟩) (tg_tup (tgs_cons (tg_name (show 3 < 8 by decide) (by decide) (by decide)) (tgs_cons (tg_name (show 4 < 8 by decide) (by decide) (by decide)) (tgs_cons (tg_name (show 5 < 8 by decide) (by decide) (by decide)) (tgs_cons (tg_name (show 6 < 8 by decide) (by decide) (by decide)) tgs_nil)))) (by rfl)))
   (sv_stop (sv_ifT (et_eq (et_test (ev_isN (by rfl) (ev_var rfl) ev_non)) ?k4) (sv_rt (sv_ret (ev_call (r := dKept (priceK T u) (sharesK (cols.map Col.wc) many T u) (loadsK (cols.map Col.wc) T u bs)) (ea_cons (ev_var rfl) (ea_cons (ev_var rfl) (ea_cons (ev_var rfl) (ea_cons (ev_var rfl) (ea_cons (ev_var rfl) ea_nil))))) ⟨_, (by rfl), ?k5, (by rfl)⟩)) rfl)) (fun _ z => by cases z))))⟩
    case k1 => 
      obtain ⟨h1, h2, M, hM⟩ := hcol x hx
      exact ⟨x, M, rfl, h1, h2, hM, rfl⟩
    case k2 => exact small_le (by rw [List.length_map]; omega)
    case k3 => exact ⟨(cols.map Col.wc), many, w, m, T, u, bs, _, n, by rw [List.map_map]; rfl, h1, h2, by rw [List.length_map]; exact h3, hgl, hrun, rfl⟩
    case k4 => rfl
    case k5 => exact ⟨(cols.map Col.wc), many, T, u, bs, w, m, by rw [List.map_map]; rfl, hF.good, hF.wide, by rw [List.length_map]; exact h3, h2, hF.nn, hF.un, rfl⟩
  | some p =>
    obtain ⟨hp, hgp⟩ := hF.pl p rfl
    refine ⟨_, (sv_cons (sv_set (EvF.ev (ef_lc (ei_tup (ev_var rfl)) (lc_map (f := dCol) (g := fun x => dWC x.wc) (fun x hx => ⟨_, _, _, (tg_name (show 7 < 8 by decide) (by decide) (by decide)), (by rfl), et_yes, (ev_call (r := dWC x.wc) (ea_cons (ev_var rfl) ea_nil) ⟨_, (by rfl), ?l1, (by rfl)⟩), (by rfl)⟩)) (no_own (by rfl)) (by rfl) ?l2)) (show 2 < 8 by decide) (by decide))
   (sv_cons (sv_asg (ts := [3, 4, 5, 6]) (ev_call (r := dRes T u bs (some p)) (ea_cons (ev_var rfl) (ea_cons (ev_var rfl) ea_nil)) ⟨_, (by rfl), ?l3, (by rfl)⟩) (tg_tup (tgs_cons (tg_name (show 3 < 8 by decide) (by decide) (by decide)) (tgs_cons (tg_name (show 4 < 8 by decide) (by decide) (by decide)) (tgs_cons (tg_name (show 5 < 8 by decide) (by decide) (by decide)) (tgs_cons (tg_name (show 6 < 8 by decide) (by decide) (by decide)) tgs_nil)))) (by rfl)))
   (sv_cons (sv_ifF (et_eq (et_test (ev_isN (by rfl) (ev_var rfl) ev_non)) ?l4) sv_next)
   (sv_rt (sv_ret (ev_call (r := dLost (loadsL (cols.map Col.wc) T u bs p)) (ea_cons (ev_var rfl) (ea_cons (ev_var rfl) (ea_cons (ev_var rfl) (ea_cons (ev_var rfl) (ea_cons (ev_var rfl) ea_nil))))) ⟨_, (by rfl), ?l5, (by rfl)⟩)) rfl))))⟩
    case l1 => 
      obtain ⟨h1, h2, M, hM⟩ := hcol x hx
      exact ⟨x, M, rfl, h1, h2, hM, rfl⟩
    case l2 => exact small_le (by rw [List.length_map]; omega)
    case l3 => exact ⟨(cols.map Col.wc), many, w, m, T, u, bs, _, n, by rw [List.map_map]; rfl, h1, h2, by rw [List.length_map]; exact h3, hgl, hrun, rfl⟩
    case l4 => rfl
    case l5 => exact ⟨(cols.map Col.wc), T, u, bs, p, w, m, by rw [List.map_map]; rfl, hF.good, hp, hgp, by rw [List.length_map]; exact h3, hF.nn, hF.un, rfl⟩

end
end K55

end
section
set_option Elab.async false
set_option linter.all false
set_option maxRecDepth 100000
set_option maxHeartbeats 1000000
set_option exponentiation.threshold 20000
namespace K55
open PySem PySem.Spec PyProof.Rows L2 RZ EV FR LW
section
variable [KS] {P : Program} {w : World} {mg : Str → Option Value} {base : Heap}
theorem ok__law_part (T : TopF KS.K mg "_law_part" s__law_part) (m_abs : mg "abs" = none) (m_range : mg "range" = none) (m_int : mg "int" = none)  : Cal P w KS.K mg base 1 "_law_part" ["one", "two"] G__law_part := by
  refine cal_pure T (fun _ _ _ _ _ _ us hl => match us, hl with | [_, _], _ => rfl) sc__law_part (fun ds r h => by obtain ⟨n, d, rfl, _⟩ := h; rfl) fun f cdv A outer s H E hr => ⟨_, (pss_cons (ps_set (i := 0) sc__law_part.nd rfl (Or.inl rfl) (pe_callB call_abs (by rfl) m_abs (by decide +kernel) (pa_cons (pe_callTy call_int1 (by rfl) m_int (by decide +kernel) (pa_cons (pv 0) pa_nil)) pa_nil)))
  (pss_cons (ps_for PassesOwn.never rfl (pi_range1 (by rfl) m_range (pa_cons (pe_op (addK (K := KS.K) rfl) (pe_op op_mulU pe_int (pe_bits (pe_callTy call_int1 (by rfl) m_int (by decide +kernel) (pa_cons (pv 1) pa_nil)))) pe_int) pa_nil)) (pg_name (i := 2) sc__law_part.nd rfl (Or.inl rfl)) (pss_cons (ps_if (pt_cmpR (eqK (K := KS.K) rfl hr.units) (pv 1) pe_int (nomark _)) (pss_one ps_break) pss_nil)
  (pss_one (ps_par (i := 0) (j := 1) rfl sc__law_part.nd rfl rfl (by decide) rfl rfl (pa_cons (pv 1) (pa_cons (pe_op op_mod (pe_callTy call_int1 (by rfl) m_int (by decide +kernel) (pa_cons (pv 0) pa_nil)) (pv 1)) pa_nil)) (by rfl)))))
  (pss_one (ps_ret (pv 0))))), ?_⟩

  rintro ds r ⟨n, d, rfl, hd, hs, rfl⟩
  obtain ⟨d, rfl⟩ : ∃ d' : Nat, d = (d' : Int) := ⟨d.natAbs, by omega⟩
  rw [Int.natAbs_natCast] at hs
  have hbit := bits_lt hs
  have hlt := lt_bits d
  refine ⟨_, (sv_cons (sv_set (ev_abs (ev_toInt (ev_var rfl))) (show 0 < 3 by decide) (by decide))
   (sv_cons (sv_for (ts := [2]) (ei_range1 (ea_cons (ev_add (ev_mul ev_int (ev_bits (ev_toInt (ev_var rfl))) ?a1) ev_int) ea_nil) ?a2) (o := .next [.d (.int (Nat.gcd n.natAbs d : Nat)), .d (.int 0), .no]) ?lp)
   (sv_rt (sv_ret (ev_var rfl)) rfl)))⟩
  case a1 => exact mulx (a := 40) (b := 40) (by decide) (by rw [Int.natAbs_natCast]; exact Nat.lt_of_le_of_lt hbit (by decide))
  case a2 => exact ⟨by omega, by omega⟩
  case lp =>
    have e : rngD 0 ((2 : Int) * (Builtin.Int.intBits d : Nat) + 2).toNat = ((List.range (2 * Builtin.Int.intBits d + 2)).map fun (i : Nat) => (i : Int)).map PyData.int := by
      rw [List.map_map]
      unfold rngD
      have : ((2 : Int) * (Builtin.Int.intBits d : Nat) + 2).toNat = 2 * Builtin.Int.intBits d + 2 := by omega
      rw [this]
      exact List.map_congr_left fun i _ => by show PyData.int (0 + (i : Int)) = PyData.int (i : Int); rw [Int.zero_add]
    show Lp _ _ (rngD 0 ((2 : Int) * (Builtin.Int.intBits d : Nat) + 2).toNat) _ _
    rw [e]
    refine lp_gcd (R := fun a b => [.d (.int (a : Nat)), .d (.int (b : Nat)), .no]) (fun d a => ⟨_, (tg_name (show 2 < 3 by decide) (by decide) (by decide)), sv_postB (sv_stop (sv_ifT (et_eq (et_test (ev_eqi (ev_var rfl) ev_int)) ?b1) sv_break) (fun _ z => by cases z)) (by repeat' (first | exact Wk.nil | apply Wk.same | apply Wk.drop))⟩) (fun d a b hb => ⟨_, (tg_name (show 2 < 3 by decide) (by decide) (by decide)), sv_post (sv_cons (sv_ifF (et_eq (et_test (ev_eqi (ev_var rfl) ev_int)) ?c1) sv_next)
   (sv_par (ea_cons (ev_var rfl) (ea_cons (ev_opC (ev_toInt (ev_var rfl)) (ev_var rfl) ?c2) ea_nil)) (show 0 < 3 by decide) (show 1 < 3 by decide) (by decide) (by decide))) (by repeat' (first | exact Wk.nil | apply Wk.same | apply Wk.drop))⟩) (Builtin.Int.intBits d) ((List.range (2 * Builtin.Int.intBits d + 2)).map fun (i : Nat) => (i : Int)) n.natAbs d hlt (by simp)
    case b1 => rfl
    case c1 => exact decide_eq_false (by omega)
    case c2 => show (0 : Int) < b; omega

end
end K55

end
section
set_option Elab.async false
set_option linter.all false
set_option maxRecDepth 100000
set_option maxHeartbeats 1000000
set_option exponentiation.threshold 20000
namespace K55
open PySem PySem.Spec PyProof.Rows L2 RZ EV FR LW
section
variable [KS] {P : Program} {w : World} {mg : Str → Option Value} {base : Heap}
theorem ok__law_common (T : TopF KS.K mg "_law_common" s__law_common)  (C__law_part : Cal P w KS.K mg base 1 "_law_part" ["one", "two"] G__law_part) : Cal P w KS.K mg base 2 "_law_common" ["some"] G__law_common := by
  refine cal_pure T (fun _ _ _ _ _ _ us hl => match us, hl with | [_], _ => rfl) sc__law_common (fun ds r h => by obtain ⟨tp, qs, M, rfl, _⟩ := h; rfl) fun f cdv A outer s H E hr => ⟨_, (pss_cons (ps_set (i := 1) sc__law_common.nd rfl (Or.inl rfl) pe_int)
  (pss_cons (ps_for PassesOwn.never rfl (pi_seqK (K := KS.K) rfl (pv 0)) (pg_tupK (K := KS.K) (n := 2) rfl rfl (pgs_cons (pg_name (i := 2) sc__law_common.nd rfl (Or.inl rfl)) (pgs_cons (pg_name (i := 3) sc__law_common.nd rfl (Or.inl rfl)) pgs_nil))) (pss_one (ps_set (i := 1) sc__law_common.nd rfl (Or.inl rfl) (pe_op op_fdivP (pe_op op_mulU (pv 1) (pv 3)) (calK (K := KS.K) C__law_part rfl rfl rfl rfl rfl (hr.mono (by decide)) (by rfl) (pa_cons (pv 1) (pa_cons (pv 3) pa_nil)))))))
  (pss_one (ps_ret (pv 1))))), ?_⟩

  rintro ds r ⟨tp, qs, M, rfl, hM, h0, hs, rfl⟩
  refine ⟨_, (sv_cons (sv_set ev_int (show 1 < 4 by decide) (by decide))
   (sv_cons (sv_for (ts := [2, 3]) (ei_sq (ev_var rfl)) (o := .next [.d (sq tp (qs.map dF)), .d (.int (lcmL qs : Nat)), .no, .no]) ?_)
   (sv_rt (sv_ret (ev_var rfl)) rfl)))⟩
  refine (lp_fold (f := dF) (xs := qs) (R := fun (u : Nat) => [.d (sq tp (qs.map dF)), .d (.int (u : Int)), .no, .no]) (step := fun u q => Nat.lcm u q.den) (J := fun u => 0 < u ∧ u ∣ M) (b := 1) ⟨Nat.one_pos, Nat.one_dvd M⟩ fun u q hq ⟨u0, uM⟩ => ⟨⟨Nat.lcm_pos u0 q.den_pos, Nat.lcm_dvd uM (hM q hq)⟩, _, (tg_tup (tgs_cons (tg_name (show 2 < 4 by decide) (by decide) (by decide)) (tgs_cons (tg_name (show 3 < 4 by decide) (by decide) (by decide)) tgs_nil)) (by rfl)), ?_⟩).2
  have hqM := Nat.le_of_dvd h0 (hM q hq)
  have huM := Nat.le_of_dvd h0 uM
  have hq0 := q.den_pos
  have hb : ((q.den : Nat) : Int).natAbs < 2 ^ 4000 := by omega
  have hb2 : ((u : Nat) : Int).natAbs < 2 ^ 4000 := by omega
  have hgd : ((Int.gcd (u : Int) (q.den : Int) : Nat) : Int).natAbs < 2 ^ 9000 := by
    rw [Int.natAbs_natCast]
    exact Nat.lt_of_le_of_lt (gcd_le _ (by omega)) (pow_lt hb (by decide))
  have e : (u : Int) * (q.den : Int) / ((Int.gcd (u : Int) (q.den : Int) : Nat) : Int) = ((Nat.lcm u q.den : Nat) : Int) := by
    rw [← Int.natCast_mul, ← Int.natCast_ediv]
    rfl
  show Sv [] _ _ (.next [.d (sq tp (qs.map dF)), .d (.int ((Nat.lcm u q.den : Nat) : Int)), .no, .no])
  rw [← e]
  refine sv_post (sv_set (ev_opC (ev_mul (ev_var rfl) (ev_var rfl) ?a1) (ev_call (r := .int (Int.gcd u q.den : Nat)) (ea_cons (ev_var rfl) (ea_cons (ev_var rfl) ea_nil)) ⟨_, (by rfl), ?a2, (by rfl)⟩) ?a3) (show 1 < 4 by decide) (by decide)) (by repeat' (first | exact Wk.nil | apply Wk.same | apply Wk.drop))
  case a1 => exact mulx hb2 hb
  case a2 => exact ⟨(u : Int), q.den, rfl, by omega, pow_lt hb (by decide), rfl⟩
  case a3 => exact divp_lt (gcd_pos _ (by omega)) hgd

end
end K55

end
section
set_option Elab.async false
set_option linter.all false
set_option maxRecDepth 100000
set_option maxHeartbeats 1000000
set_option exponentiation.threshold 20000
namespace K55
open PySem PySem.Spec PyProof.Rows L2 RZ EV FR LW
section
variable [KS] {P : Program} {w : World} {mg : Str → Option Value} {base : Heap}
theorem ok__law_frac (T : TopF KS.K mg "_law_frac" s__law_frac)  (C__law_part : Cal P w KS.K mg base 1 "_law_part" ["one", "two"] G__law_part) : Cal P w KS.K mg base 2 "_law_frac" ["n", "d"] G__law_frac := by
  refine cal_pure T (fun _ _ _ _ _ _ us hl => match us, hl with | [_, _], _ => rfl) sc__law_frac (fun ds r h => by obtain ⟨n, d, rfl, _⟩ := h; rfl) fun f cdv A outer s H E hr => ⟨_, (pss_cons (ps_set (i := 2) sc__law_frac.nd rfl (Or.inl rfl) (calK (K := KS.K) C__law_part rfl rfl rfl rfl rfl (hr.mono (by decide)) (by rfl) (pa_cons (pv 0) (pa_cons (pv 1) pa_nil))))
  (pss_one (ps_ret (pe_tup (pa_cons (pe_op op_fdivP (pv 0) (pv 2)) (pa_cons (pe_op op_fdivP (pv 1) (pv 2)) pa_nil)))))), ?_⟩

  rintro ds r ⟨n, d, rfl, hd, hs, rfl⟩
  have e : (d.toNat : Int) = d := Int.toNat_of_nonneg (Int.le_of_lt hd)
  rw [dF_mk n d.toNat (by omega), e]
  have hg : ((Int.gcd n d : Nat) : Int).natAbs < 2 ^ 9000 := by
    rw [Int.natAbs_natCast]
    exact Nat.lt_of_le_of_lt (gcd_le n hd) hs
  refine ⟨_, (sv_cons (sv_set (ev_call (r := .int (Int.gcd n d : Nat)) (ea_cons (ev_var rfl) (ea_cons (ev_var rfl) ea_nil)) ⟨_, (by rfl), ?a1, (by rfl)⟩) (show 2 < 3 by decide) (by decide))
   (sv_rt (sv_ret (ev_tup (ea_cons (ev_opC (ev_var rfl) (ev_var rfl) ?a2) (ea_cons (ev_opC (ev_var rfl) (ev_var rfl) ?a3) ea_nil)) (small_le (show 2 ≤ 1000 by decide)))) rfl))⟩
  case a1 => exact ⟨n, d, rfl, hd, hs, rfl⟩
  case a2 => exact divp_lt (gcd_pos n hd) hg
  case a3 => exact divp_lt (gcd_pos n hd) hg

end
end K55

end
section
set_option Elab.async false
set_option linter.all false
set_option maxRecDepth 100000
set_option maxHeartbeats 1000000
set_option exponentiation.threshold 20000
namespace K55
open PySem PySem.Spec PyProof.Rows L2 RZ EV FR LW
section
variable [KS] {P : Program} {w : World} {mg : Str → Option Value} {base : Heap}
theorem ok__law_sum (T : TopF KS.K mg "_law_sum" s__law_sum) (m_sum : mg "sum" = none) (C__law_common : Cal P w KS.K mg base 2 "_law_common" ["some"] G__law_common) (C__law_frac : Cal P w KS.K mg base 2 "_law_frac" ["n", "d"] G__law_frac) : Cal P w KS.K mg base 3 "_law_sum" ["some"] G__law_sum := by
  refine cal_pure T (fun _ _ _ _ _ _ us hl => match us, hl with | [_], _ => rfl) sc__law_sum (fun ds r h => by obtain ⟨tp, qs, M, rfl, _⟩ := h; rfl) fun f cdv A outer s H E hr => ⟨_, (pss_cons (ps_set (i := 1) sc__law_sum.nd rfl (Or.inr rfl) (calK (K := KS.K) C__law_common rfl rfl rfl rfl rfl (hr.mono (by decide)) (by rfl) (pa_cons (pv 0) pa_nil)))
  (pss_one (ps_ret (calK (K := KS.K) C__law_frac rfl rfl rfl rfl rfl (hr.mono (by decide)) (by rfl) (pa_cons (pe_callB (sumK (K := KS.K) rfl rfl) (by rfl) m_sum (by decide +kernel) (pa_cons (pe_lc (own := [("n", 2), ("d", 3)]) rfl sc__law_sum.nd (pi_seqK (K := KS.K) rfl (pv 0)) (blkOk_by (own := [("n", 2), ("d", 3)]) (N := ["some", "under", "n", "d"]) (sc := defScope s__law_sum) (by decide +kernel))
   (fun _ _ _ _ _ => (pg_tupK (K := KS.K) (n := 2) rfl rfl (pgs_cons (pg_name (i := 2) sc__law_sum.nd rfl (Or.inl rfl)) (pgs_cons (pg_name (i := 3) sc__law_sum.nd rfl (Or.inl rfl)) pgs_nil)))) (fun _ _ _ _ _ => pts_nil)
   (fun _ _ _ _ _ => (pe_op op_mulU (pv 2) (pe_op op_fdivP (pv 1) (pv 3))))) pa_nil)) (pa_cons (pv 1) pa_nil)))))), ?_⟩

  rintro ds r ⟨tp, qs, M, rfl, hF, hl, rfl⟩
  obtain ⟨u1, u2, u3, u4⟩ := lcm_of hF
  refine ⟨_, (sv_cons (sv_set (ev_call (r := .int (lcmL qs : Nat)) (ea_cons (ev_var rfl) ea_nil) ⟨_, (by rfl), ?a1, (by rfl)⟩) (show 1 < 4 by decide) (by decide))
   (sv_rt (sv_ret (ev_call (r := dF (SL.sumR qs)) (ea_cons (ev_sumF (f := whole (lcmL qs)) (xs := qs) (Ev.rl (EvF.ev (ef_lc (ei_sq (ev_var rfl)) (lc_map (f := dF) (g := fun q => .int (whole (lcmL qs) q)) (fun x hx => ⟨_, _, _, (tg_tup (tgs_cons (tg_name (show 2 < 4 by decide) (by decide) (by decide)) (tgs_cons (tg_name (show 3 < 4 by decide) (by decide) (by decide)) tgs_nil)) (by rfl)), (by rfl), et_yes, (ev_mul (ev_var rfl) (ev_opC (ev_var rfl) (ev_var rfl) ?a2) ?a3), (by rfl)⟩)) (no_own (by rfl)) (by rfl) ?a4)))) (ea_cons (ev_var rfl) ea_nil)) ⟨_, (by rfl), ?a5, (by rfl)⟩)) rfl))⟩
  case a1 => exact ⟨tp, qs, M, rfl, hF.dv, hF.pos, hF.lt, rfl⟩
  case a2 => exact divp_lt (by have := x.den_pos; omega) (by rw [Int.natAbs_natCast]; exact pow_lt (hF.den hx) (by decide))
  case a3 => exact mulx (hF.num x hx) (div_lt u3)
  case a4 => exact small_le (by rw [List.length_map]; omega)
  case a5 => exact ⟨_, (lcmL qs : Nat), rfl, by omega, by rw [Int.natAbs_natCast]; exact pow_lt u3 (by decide), by rw [Int.toNat_natCast, sum_eq hF]⟩

end
end K55

end
section
set_option Elab.async false
set_option linter.all false
set_option maxRecDepth 100000
set_option maxHeartbeats 1000000
set_option exponentiation.threshold 20000
namespace K55
open PySem PySem.Spec PyProof.Rows L2 RZ EV FR LW
section
variable [KS] {P : Program} {w : World} {mg : Str → Option Value} {base : Heap}
theorem ok__law_times (T : TopF KS.K mg "_law_times" s__law_times)  (C__law_frac : Cal P w KS.K mg base 2 "_law_frac" ["n", "d"] G__law_frac) : Cal P w KS.K mg base 3 "_law_times" ["one", "two"] G__law_times := by
  refine cal_pure T (fun _ _ _ _ _ _ us hl => match us, hl with | [_, _], _ => rfl) sc__law_times (fun ds r h => by obtain ⟨a, b, rfl, _⟩ := h; rfl) fun f cdv A outer s H E hr => ⟨_, (pss_one (ps_ret (calK (K := KS.K) C__law_frac rfl rfl rfl rfl rfl (hr.mono (by decide)) (by rfl) (pa_cons (pe_op op_mulU (pe_ix (ixK (K := KS.K) rfl) (pv 0) pe_int (fun _ _ => rfl)) (pe_ix (ixK (K := KS.K) rfl) (pv 1) pe_int (fun _ _ => rfl))) (pa_cons (pe_op op_mulU (pe_ix (ixK (K := KS.K) rfl) (pv 0) pe_int (fun _ _ => rfl)) (pe_ix (ixK (K := KS.K) rfl) (pv 1) pe_int (fun _ _ => rfl))) pa_nil))))), ?_⟩

  rintro ds r ⟨a, b, rfl, ha, hb, rfl⟩
  refine ⟨_, (sv_rt (sv_ret (ev_call (r := dF (a * b)) (ea_cons (ev_mul (ev_ixT (ev_var rfl) ev_int (by rfl)) (ev_ixT (ev_var rfl) ev_int (by rfl)) ?a1) (ea_cons (ev_mul (ev_ixT (ev_var rfl) ev_int (by rfl)) (ev_ixT (ev_var rfl) ev_int (by rfl)) ?a2) ea_nil)) ⟨_, (by rfl), ?a3, (by rfl)⟩)) rfl)⟩
  case a1 => exact mulx ha.1 hb.1
  case a2 => exact mulx ha.d hb.d
  case a3 => exact ⟨a.num * b.num, (a.den : Int) * (b.den : Int), rfl, dd_pos a b, pow_lt (mul_lt ha.d hb.d) (by decide), by rw [dd_toNat, ← mul_mk]⟩

end
end K55

end
section
set_option Elab.async false
set_option linter.all false
set_option maxRecDepth 100000
set_option maxHeartbeats 1000000
set_option exponentiation.threshold 20000
namespace K55
open PySem PySem.Spec PyProof.Rows L2 RZ EV FR LW
section
variable [KS] {P : Program} {w : World} {mg : Str → Option Value} {base : Heap}
theorem ok__law_worths (T : TopF KS.K mg "_law_worths" s__law_worths) (m_range : mg "range" = none) (m_zip : mg "zip" = none) (C__law_sum : Cal P w KS.K mg base 3 "_law_sum" ["some"] G__law_sum) (C__law_frac : Cal P w KS.K mg base 2 "_law_frac" ["n", "d"] G__law_frac) (C__law_times : Cal P w KS.K mg base 3 "_law_times" ["one", "two"] G__law_times) : Cal P w KS.K mg base 4 "_law_worths" ["columns", "loads", "many"] G__law_worths := by
  refine cal_pure T (fun _ _ _ _ _ _ us hl => match us, hl with | [_, _, _], _ => rfl) sc__law_worths (fun ds r h => by obtain ⟨cols, ld, many, N, rfl, _⟩ := h; rfl) fun f cdv A outer s H E hr => ⟨_, (pss_cons (ps_set (i := 3) sc__law_worths.nd rfl (Or.inl rfl) (pe_lst pa_nil))
  (pss_cons (ps_for PassesOwn.never rfl (pi_range1 (by rfl) m_range (pa_cons (pv 2) pa_nil)) (pg_name (i := 4) sc__law_worths.nd rfl (Or.inr rfl)) (pss_cons (ps_set (i := 5) sc__law_worths.nd rfl (Or.inl rfl) (calK (K := KS.K) C__law_sum rfl rfl rfl rfl rfl (hr.mono (by decide)) (by rfl) (pa_cons (pe_lc (own := [("load", 7), ("column", 8)]) rfl sc__law_worths.nd (pi_zipK (K := KS.K) rfl (by rfl) m_zip (pa_cons (pv 1) (pa_cons (pv 0) pa_nil))) (blkOk_by (own := [("load", 7), ("column", 8)]) (N := ["columns", "loads", "many", "found", "row", "due", "let", "load", "column"]) (sc := defScope s__law_worths) (by decide +kernel))
   (fun _ _ _ _ _ => (pg_tupK (K := KS.K) (n := 2) rfl rfl (pgs_cons (pg_name (i := 7) sc__law_worths.nd rfl (Or.inl rfl)) (pgs_cons (pg_name (i := 8) sc__law_worths.nd rfl (Or.inl rfl)) pgs_nil)))) (fun _ _ _ _ _ => pts_nil)
   (fun _ _ _ _ _ => (calK (K := KS.K) C__law_times rfl rfl rfl rfl rfl (hr.mono (by decide)) (by rfl) (pa_cons (pv 7) (pa_cons (pe_ix (ixK (K := KS.K) rfl) (pe_ix (ixK (K := KS.K) rfl) (pv 8) pe_int (fun _ _ => rfl)) (pv 4) (fun _ _ => rfl)) pa_nil))))) pa_nil)))
  (pss_cons (ps_set (i := 6) sc__law_worths.nd rfl (Or.inl rfl) (calK (K := KS.K) C__law_sum rfl rfl rfl rfl rfl (hr.mono (by decide)) (by rfl) (pa_cons (pe_lc (own := [("load", 7), ("column", 8)]) rfl sc__law_worths.nd (pi_zipK (K := KS.K) rfl (by rfl) m_zip (pa_cons (pv 1) (pa_cons (pv 0) pa_nil))) (blkOk_by (own := [("load", 7), ("column", 8)]) (N := ["columns", "loads", "many", "found", "row", "due", "let", "load", "column"]) (sc := defScope s__law_worths) (by decide +kernel))
   (fun _ _ _ _ _ => (pg_tupK (K := KS.K) (n := 2) rfl rfl (pgs_cons (pg_name (i := 7) sc__law_worths.nd rfl (Or.inl rfl)) (pgs_cons (pg_name (i := 8) sc__law_worths.nd rfl (Or.inl rfl)) pgs_nil)))) (fun _ _ _ _ _ => pts_nil)
   (fun _ _ _ _ _ => (calK (K := KS.K) C__law_times rfl rfl rfl rfl rfl (hr.mono (by decide)) (by rfl) (pa_cons (pv 7) (pa_cons (pe_ix (ixK (K := KS.K) rfl) (pv 8) pe_int (fun _ _ => rfl)) pa_nil))))) pa_nil)))
  (pss_one (ps_expr (pe_appK (K := KS.K) rfl (pv 3) (calK (K := KS.K) C__law_frac rfl rfl rfl rfl rfl (hr.mono (by decide)) (by rfl) (pa_cons (pe_op op_sub (pe_op op_mulU (pe_ix (ixK (K := KS.K) rfl) (pv 5) pe_int (fun _ _ => rfl)) (pe_ix (ixK (K := KS.K) rfl) (pv 6) pe_int (fun _ _ => rfl))) (pe_op op_mulU (pe_ix (ixK (K := KS.K) rfl) (pv 6) pe_int (fun _ _ => rfl)) (pe_ix (ixK (K := KS.K) rfl) (pv 5) pe_int (fun _ _ => rfl)))) (pa_cons (pe_op op_mulU (pe_ix (ixK (K := KS.K) rfl) (pv 5) pe_int (fun _ _ => rfl)) (pe_ix (ixK (K := KS.K) rfl) (pv 6) pe_int (fun _ _ => rfl))) pa_nil)))))))))
  (pss_one (ps_ret (pv 3))))), ?_⟩

  rintro ds r ⟨cols, ld, many, N, rfl, hF, hC, hg, hl, hm, rfl⟩
  have ll : ∀ h : Col → Rat, ((ld.zip cols).map fun p => p.1 * h p.2).length ≤ 1000 := fun h => by rw [List.length_map]; exact Nat.le_trans (zip_le hl) (by decide)
  refine ⟨_, (sv_cons (sv_setO (ef_lst ea_nil (small_le (show 0 ≤ 1000 by decide))) (show 3 < 9 by decide) (by decide))
   (sv_cons (sv_for (ts := [4]) (ei_rangeN (ea_cons (ev_var rfl) ea_nil) ?a1) (o := .next [.d (.tuple (cols.map dCol)), .d (.tuple (ld.map dF)), .d (.int (many : Nat)), .own ((List.range many).map fun r => dF (SL.worth ld cols r)), .no, .no, .no, .no, .no]) ?lp)
   (sv_rt (sv_retO (by rfl) (by decide)) rfl)))⟩
  case a1 => omega
  case lp =>
    refine lp_natN (R := fun i => [.d (.tuple (cols.map dCol)), .d (.tuple (ld.map dF)), .d (.int (many : Nat)), .own ((List.range i).map fun r => dF (SL.worth ld cols r)), .no, .no, .no, .no, .no]) (by rw [List.length_map, List.length_range]) fun i d hi hd => ?_
    obtain ⟨y, hy, rfl⟩ := map_get (f := fun (i : Nat) => PyData.int (i : Nat)) hd
    rw [List.getElem?_range hi] at hy
    cases hy
    have hgm : ∀ c ∈ cols, c.g.getD i default ∈ c.all := fun c hc => SL.g_mem (by rw [hg c hc]; exact hi)
    have fd := fit_ldot hF hC (h := fun c => c.g.getD i default) hgm
    have fl := fit_ldot hF hC (h := fun c => c.lt) fun c _ => SL.lt_mem
    have z1 := Fit.sz (Fit.sum fd (ll fun c => c.g.getD i default)) (List.mem_singleton.mpr rfl)
    have z2 := Fit.sz (Fit.sum fl (ll fun c => c.lt)) (List.mem_singleton.mpr rfl)
    have z1' : Sz 4000 (SL.ldot ld cols fun c => c.g.getD i default) := z1.up (by decide)
    have z2' : Sz 4000 (SL.ldot ld cols fun c => c.lt) := z2.up (by decide)
    have e : ((List.range (i + 1)).map fun r => dF (SL.worth ld cols r)) = ((List.range i).map fun r => dF (SL.worth ld cols r)) ++ [dF (SL.worth ld cols i)] := by rw [List.range_succ, List.map_append]; rfl
    refine ⟨_, (tg_name (show 4 < 9 by decide) (by decide) (by decide)), ?_⟩
    show Sv [] _ _ (.next [.d (.tuple (cols.map dCol)), .d (.tuple (ld.map dF)), .d (.int (many : Nat)), .own ((List.range (i + 1)).map fun r => dF (SL.worth ld cols r)), .no, .no, .no, .no, .no])
    rw [e]
    refine sv_post (sv_cons (sv_set (ev_call (r := dF (SL.ldot ld cols fun c => c.g.getD i default)) (ea_cons (EvF.ev (ef_lc (ei_zipTm (ea_cons (ev_var rfl) (ea_cons (ev_var rfl) ea_nil))) (lc_map (g := fun (x : Rat × Col) => dF (x.1 * x.2.g.getD i default)) (fun x hx => ⟨_, _, _, (tg_tup (tgs_cons (tg_name (show 7 < 9 by decide) (by decide) (by decide)) (tgs_cons (tg_name (show 8 < 9 by decide) (by decide) (by decide)) tgs_nil)) (by rfl)), (by rfl), et_yes, (ev_call (r := dF (x.1 * x.2.g.getD i default)) (ea_cons (ev_var rfl) (ea_cons (ev_ixTn (f := dF) (ev_ixT (ev_var rfl) ev_int (by rfl)) (ev_var rfl) ?b1) ea_nil)) ⟨_, (by rfl), ?b2, (by rfl)⟩), (by rfl)⟩)) (no_own (by rfl)) (by rfl) ?b3)) ea_nil) ⟨_, (by rfl), ?b4, (by rfl)⟩) (show 5 < 9 by decide) (by decide))
   (sv_cons (sv_set (ev_call (r := dF (SL.ldot ld cols fun c => c.lt)) (ea_cons (EvF.ev (ef_lc (ei_zipTm (ea_cons (ev_var rfl) (ea_cons (ev_var rfl) ea_nil))) (lc_map (g := fun (x : Rat × Col) => dF (x.1 * x.2.lt)) (fun x hx => ⟨_, _, _, (tg_tup (tgs_cons (tg_name (show 7 < 9 by decide) (by decide) (by decide)) (tgs_cons (tg_name (show 8 < 9 by decide) (by decide) (by decide)) tgs_nil)) (by rfl)), (by rfl), et_yes, (ev_call (r := dF (x.1 * x.2.lt)) (ea_cons (ev_var rfl) (ea_cons (ev_ixT (ev_var rfl) ev_int (by rfl)) ea_nil)) ⟨_, (by rfl), ?b5, (by rfl)⟩), (by rfl)⟩)) (no_own (by rfl)) (by rfl) ?b6)) ea_nil) ⟨_, (by rfl), ?b7, (by rfl)⟩) (show 6 < 9 by decide) (by decide))
   (sv_append (ev_call (r := dF (SL.worth ld cols i)) (ea_cons (ev_op0 (ev_mul (ev_ixT (ev_var rfl) ev_int (by rfl)) (ev_ixT (ev_var rfl) ev_int (by rfl)) ?b8) (ev_mul (ev_ixT (ev_var rfl) ev_int (by rfl)) (ev_ixT (ev_var rfl) ev_int (by rfl)) ?b9)) (ea_cons (ev_mul (ev_ixT (ev_var rfl) ev_int (by rfl)) (ev_ixT (ev_var rfl) ev_int (by rfl)) ?b10) ea_nil)) ⟨_, (by rfl), ?b11, (by rfl)⟩) (by rfl) ?b12))) (by repeat' (first | exact Wk.nil | apply Wk.same | apply Wk.drop))
    case b1 => rw [hg _ (List.of_mem_zip hx).2]; exact hi
    case b2 => exact ⟨x.1, _, rfl, (Fit.sz hF (List.of_mem_zip hx).1).up (by decide), (Fit.sz (hC _ (List.of_mem_zip hx).2) (hgm _ (List.of_mem_zip hx).2)).up (by decide), rfl⟩
    case b3 => exact small_le (by rw [List.length_map]; exact Nat.le_trans (zip_le hl) (by decide))
    case b4 => exact ⟨false, (ld.zip cols).map fun p => p.1 * p.2.g.getD i default, _, by rw [List.map_map]; rfl, SL.Fit.up fd (by decide), ll (fun c => c.g.getD i default), rfl⟩
    case b5 => exact ⟨x.1, _, rfl, (Fit.sz hF (List.of_mem_zip hx).1).up (by decide), (Fit.sz (hC _ (List.of_mem_zip hx).2) SL.lt_mem).up (by decide), rfl⟩
    case b6 => exact small_le (by rw [List.length_map]; exact Nat.le_trans (zip_le hl) (by decide))
    case b7 => exact ⟨false, (ld.zip cols).map fun p => p.1 * p.2.lt, _, by rw [List.map_map]; rfl, SL.Fit.up fl (by decide), ll (fun c => c.lt), rfl⟩
    case b8 => exact mulx z1'.1 z2'.d
    case b9 => exact mulx z2'.1 z1'.d
    case b10 => exact mulx z1'.d z2'.d
    case b11 => exact ⟨_, _, rfl, dd_pos _ _, pow_lt (mul_lt z1'.d z2'.d) (by decide), by rw [dd_toNat, ← sub_mk]; rfl⟩
    case b12 => exact L2.small1000 (by rw [List.length_map, List.length_range]; omega)

end
end K55

end
section
set_option Elab.async false
set_option linter.all false
set_option maxRecDepth 100000
set_option maxHeartbeats 1000000
set_option exponentiation.threshold 20000
namespace K55
open PySem PySem.Spec PyProof.Rows L2 RZ EV FR LW
section
variable [KS] {P : Program} {w : World} {mg : Str → Option Value} {base : Heap}
theorem ok__law_is_frac (T : TopF KS.K mg "_law_is_frac" s__law_is_frac) (m_isinstance : mg "isinstance" = none) (m_tuple : mg "tuple" = none) (m_len : mg "len" = none) (m_bool : mg "bool" = none) (m_int : mg "int" = none) (C__law_part : Cal P w KS.K mg base 1 "_law_part" ["one", "two"] G__law_part) : Cal P w KS.K mg base 2 "_law_is_frac" ["value"] G__law_is_frac := by
  refine cal_pure T (fun _ _ _ _ _ _ us hl => match us, hl with | [_], _ => rfl) sc__law_is_frac (fun ds r h => by obtain ⟨q, rfl, _⟩ := h; rfl) fun f cdv A outer s H E hr => ⟨_, (pss_cons (ps_if (PW.pt (pw_or (pt_not (pt_val (pe_callB (isiK (K := KS.K) rfl) (by rfl) m_isinstance (by decide +kernel) (pa_cons (pv 0) (pa_cons (pe_bltn (v := .ty "tuple") (by rfl) m_tuple (by decide +kernel) rfl) pa_nil))))) (pw_or (pt_cmpR (neK (K := KS.K) rfl hr.units) (pe_callB (lenK (K := KS.K) rfl) (by rfl) m_len PySem.boot_len (pa_cons (pv 0) pa_nil)) pe_int (nomark _)) (pw_or1 (pt_cmpR (neK (K := KS.K) rfl hr.units) (pe_lc (own := [("one", 1)]) rfl sc__law_is_frac.nd (pi_seqK (K := KS.K) rfl (pv 0)) (blkOk_by (own := [("one", 1)]) (N := ["value", "one"]) (sc := defScope s__law_is_frac) (by decide +kernel))
   (fun _ _ _ _ _ => (pg_name (i := 1) sc__law_is_frac.nd rfl (Or.inl rfl))) (fun _ _ _ _ _ => (pts_one (PW.pt (pw_or (pt_not (pt_val (pe_callB (isiK (K := KS.K) rfl) (by rfl) m_isinstance (by decide +kernel) (pa_cons (pv 1) (pa_cons (pe_bltn (v := .ty "int") (by rfl) m_int (by decide +kernel) rfl) pa_nil))))) (pw_or1 (pt_val (pe_callB (isiK (K := KS.K) rfl) (by rfl) m_isinstance (by decide +kernel) (pa_cons (pv 1) (pa_cons (pe_bltn (v := .ty "bool") (by rfl) m_bool (by decide +kernel) rfl) pa_nil)))))))))
   (fun _ _ _ _ _ => pe_int)) (pe_lst pa_nil) (nomark _)))))) (pss_one (ps_ret pe_bl)) pss_nil)
  (pss_one (ps_ret (pe_and (pe_cmpR op_ge (pe_ix (ixK (K := KS.K) rfl) (pv 0) pe_int (fun _ _ => rfl)) pe_int (nomark _)) (pe_one (pe_cmpR (eqK (K := KS.K) rfl hr.units) (calK (K := KS.K) C__law_part rfl rfl rfl rfl rfl (hr.mono (by decide)) (by rfl) (pa_cons (pe_ix (ixK (K := KS.K) rfl) (pv 0) pe_int (fun _ _ => rfl)) (pa_cons (pe_ix (ixK (K := KS.K) rfl) (pv 0) pe_int (fun _ _ => rfl)) pa_nil))) pe_int (nomark _))))))), ?_⟩

  rintro ds r ⟨q, rfl, hq, rfl⟩
  have hp := q.den_pos
  refine ⟨_, (sv_cons (sv_ifF (et_eq (et_or (et_not (et_b (ev_isi (ev_var rfl) (by rfl)))) (fun h => (et_or (et_test (ev_nei (ev_len (Ev.rt (ev_var rfl))) ev_int)) (fun h => (et_test (ev_ned (EvF.ev (ef_lc (ei_tup (ds := [q.num, (q.den : Int)].map PyData.int) (ev_var rfl)) (lc_filter (f := PyData.int) (xs := [q.num, (q.den : Int)]) (g := fun _ => .int 1) (p := fun _ => false) (fun x hx => ⟨_, _, (tg_name (show 1 < 2 by decide) (by decide) (by decide)), (by rfl), (et_eq (et_or (et_not (et_b (ev_isi (ev_var rfl) (by rfl)))) (fun h => (et_b (ev_isi (ev_var rfl) (by rfl))))) (by rfl)), (by rfl), fun hp => ⟨_, ev_int, (by rfl)⟩⟩)) (no_own (by rfl)) (by rfl) ?a1)) (EvF.ev (ef_lst ea_nil (small_le (show 0 ≤ 1000 by decide)))) ?a2 ?a3 ?a4 ?a5)))))) ?a6) sv_next)
   (sv_rt (sv_ret (ev_and (ev_op0b (ev_ixT (ev_var rfl) ev_int (by rfl)) ev_int) (fun h => (ev_eqi (ev_call (r := .int (Int.gcd q.num q.den : Nat)) (ea_cons (ev_ixT (ev_var rfl) ev_int (by rfl)) (ea_cons (ev_ixT (ev_var rfl) ev_int (by rfl)) ea_nil)) ⟨_, (by rfl), ?a7, (by rfl)⟩) ev_int)))) ?fin))⟩
  case a1 => exact small_le (by show 2 ≤ 1000; decide)
  case a2 => rfl
  case a3 => rfl
  case a4 => rfl
  case a5 => rfl
  case a6 => rfl
  case a7 => exact ⟨q.num, q.den, rfl, by omega, by rw [Int.natAbs_natCast]; exact hq, rfl⟩
  case fin =>
    have h1 : Int.gcd q.num q.den = 1 := q.reduced
    rw [h1]
    have h2 : decide ((1 : Int) ≤ (q.den : Int)) = true := decide_eq_true (by omega)
    rw [h2]
    rfl

end
end K55

end
section
set_option Elab.async false
set_option linter.all false
set_option maxRecDepth 100000
set_option maxHeartbeats 1000000
set_option exponentiation.threshold 20000
namespace K55
open PySem PySem.Spec PyProof.Rows L2 RZ EV FR LW
section
variable [KS] {P : Program} {w : World} {mg : Str → Option Value} {base : Heap}
theorem ok__law_are_parts (T : TopF KS.K mg "_law_are_parts" s__law_are_parts) (m_isinstance : mg "isinstance" = none) (m_tuple : mg "tuple" = none) (m_len : mg "len" = none) (C__law_is_frac : Cal P w KS.K mg base 2 "_law_is_frac" ["value"] G__law_is_frac) : Cal P w KS.K mg base 3 "_law_are_parts" ["value", "many"] G__law_are_parts := by
  refine cal_pure T (fun _ _ _ _ _ _ us hl => match us, hl with | [_, _], _ => rfl) sc__law_are_parts (fun ds r h => by obtain ⟨qs, n, rfl, _⟩ := h; rfl) fun f cdv A outer s H E hr => ⟨_, (pss_one (ps_ret (pe_and (pe_callB (isiK (K := KS.K) rfl) (by rfl) m_isinstance (by decide +kernel) (pa_cons (pv 0) (pa_cons (pe_bltn (v := .ty "tuple") (by rfl) m_tuple (by decide +kernel) rfl) pa_nil))) (pe_and (pe_cmpR (eqK (K := KS.K) rfl hr.units) (pe_callB (lenK (K := KS.K) rfl) (by rfl) m_len PySem.boot_len (pa_cons (pv 0) pa_nil)) (pv 1) (nomark _)) (pe_one (pe_cmpR (eqK (K := KS.K) rfl hr.units) (pe_lc (own := [("one", 2)]) rfl sc__law_are_parts.nd (pi_seqK (K := KS.K) rfl (pv 0)) (blkOk_by (own := [("one", 2)]) (N := ["value", "many", "one"]) (sc := defScope s__law_are_parts) (by decide +kernel))
   (fun _ _ _ _ _ => (pg_name (i := 2) sc__law_are_parts.nd rfl (Or.inl rfl))) (fun _ _ _ _ _ => (pts_one (PW.pt (pw_or (pt_not (pt_val (calK (K := KS.K) C__law_is_frac rfl rfl rfl rfl rfl (hr.mono (by decide)) (by rfl) (pa_cons (pv 2) pa_nil)))) (pw_or1 (pt_cmpR op_lt (pe_ix (ixK (K := KS.K) rfl) (pv 2) pe_int (fun _ _ => rfl)) pe_int (nomark _)))))))
   (fun _ _ _ _ _ => pe_int)) (pe_lst pa_nil) (nomark _))))))), ?_⟩

  rintro ds r ⟨qs, n, rfl, rfl, hl, hq, rfl⟩
  refine ⟨_, (sv_rt (sv_ret (ev_and (ev_isi (ev_var rfl) (by rfl)) (fun h => (ev_and (ev_eqi (ev_lenM (f := dF) (Ev.rt (ev_var rfl))) (ev_var rfl)) (fun h => (ev_eqd (EvF.ev (ef_lc (ei_tup (ev_var rfl)) (lc_filter (f := dF) (g := fun _ => .int 1) (p := fun _ => false) (fun x hx => ⟨_, _, (tg_name (show 2 < 3 by decide) (by decide) (by decide)), (by rfl), (et_eq (et_or (et_not (et_b (ev_call (r := .bool true) (ea_cons (ev_var rfl) ea_nil) ⟨_, (by rfl), ?a1, (by rfl)⟩))) (fun h => (et_test (ev_op0b (ev_ixT (ev_var rfl) ev_int (by rfl)) ev_int)))) ?tt), (by rfl), fun hp => ⟨_, ev_int, (by rfl)⟩⟩)) (no_own (by rfl)) (by rfl) ?a2)) (EvF.ev (ef_lst ea_nil (small_le (show 0 ≤ 1000 by decide)))) ?a3 ?a4 ?a5 ?a6)))))) ?fin)⟩
  case a1 => exact ⟨x, rfl, (hq x hx).2, rfl⟩
  case tt =>
    have := Rat.num_nonneg.mpr (hq x hx).1
    have h : decide (x.num < 0) = false := decide_eq_false (by omega)
    rw [h]
    rfl
  case a2 => exact small_le (by rw [List.length_map]; exact hl)
  case a3 =>
    have : (qs.filter fun _ => false) = [] := by simp
    rw [this]
    rfl
  case a4 => rfl
  case a5 =>
    have : (qs.filter fun _ => false) = [] := by simp
    rw [this]
    rfl
  case a6 => rfl
  case fin =>
    have : (qs.filter fun _ => false) = [] := by simp
    rw [this]
    have h2 : decide ((qs.length : Int) = (qs.length : Int)) = true := decide_eq_true rfl
    rw [h2]
    rfl

end
end K55

end
section
set_option Elab.async false
set_option linter.all false
set_option maxRecDepth 100000
set_option maxHeartbeats 1000000
set_option exponentiation.threshold 20000
namespace K55
open PySem PySem.Spec PyProof.Rows L2 RZ EV FR LW
section
variable [KS] {P : Program} {w : World} {mg : Str → Option Value} {base : Heap}
theorem ok__law_less_than (T : TopF KS.K mg "_law_less_than" s__law_less_than)   : Cal P w KS.K mg base 1 "_law_less_than" ["one", "two"] G__law_less_than := by
  refine cal_pure T (fun _ _ _ _ _ _ us hl => match us, hl with | [_, _], _ => rfl) sc__law_less_than (fun ds r h => by obtain ⟨a, b, rfl, _⟩ := h; rfl) fun f cdv A outer s H E hr => ⟨_, (pss_one (ps_ret (pe_cmpR op_lt (pe_op op_mulU (pe_ix (ixK (K := KS.K) rfl) (pv 0) pe_int (fun _ _ => rfl)) (pe_ix (ixK (K := KS.K) rfl) (pv 1) pe_int (fun _ _ => rfl))) (pe_op op_mulU (pe_ix (ixK (K := KS.K) rfl) (pv 1) pe_int (fun _ _ => rfl)) (pe_ix (ixK (K := KS.K) rfl) (pv 0) pe_int (fun _ _ => rfl))) (nomark _)))), ?_⟩

  rintro ds r ⟨a, b, rfl, ha, hb, rfl⟩
  refine ⟨_, (sv_rt (sv_ret (ev_op0b (ev_mul (ev_ixT (ev_var rfl) ev_int (by rfl)) (ev_ixT (ev_var rfl) ev_int (by rfl)) ?a1) (ev_mul (ev_ixT (ev_var rfl) ev_int (by rfl)) (ev_ixT (ev_var rfl) ev_int (by rfl)) ?a2))) ?fin)⟩
  case a1 => exact mulx ha.1 hb.d
  case a2 => exact mulx hb.1 ha.d
  case fin => exact congrArg PyData.bool (decide_eq_decide.mpr (Rat.lt_iff a b).symm)

end
end K55

end
section
set_option Elab.async false
set_option linter.all false
set_option maxRecDepth 100000
set_option maxHeartbeats 1000000
set_option exponentiation.threshold 20000
namespace K55
open PySem PySem.Spec PyProof.Rows L2 RZ EV FR LW
section
variable [KS] {P : Program} {w : World} {mg : Str → Option Value} {base : Heap}
theorem ok__law_pay (T : TopF KS.K mg "_law_pay" s__law_pay) (m_zip : mg "zip" = none) (C__law_sum : Cal P w KS.K mg base 3 "_law_sum" ["some"] G__law_sum) (C__law_less_than : Cal P w KS.K mg base 1 "_law_less_than" ["one", "two"] G__law_less_than) (C__law_times : Cal P w KS.K mg base 3 "_law_times" ["one", "two"] G__law_times) : Cal P w KS.K mg base 4 "_law_pay" ["columns", "c", "shares"] G__law_pay := by
  refine cal_pure T (fun _ _ _ _ _ _ us hl => match us, hl with | [_, _, _], _ => rfl) sc__law_pay (fun ds r h => by obtain ⟨cols, c, sh, N, rfl, _⟩ := h; rfl) fun f cdv A outer s H E hr => ⟨_, (pss_cons (ps_for PassesOwn.never rfl (pi_seqK (K := KS.K) rfl (pv 0)) (pg_tupK (K := KS.K) (n := 3) rfl rfl (pgs_cons (pg_name (i := 3) sc__law_pay.nd rfl (Or.inl rfl)) (pgs_cons (pg_name (i := 4) sc__law_pay.nd rfl (Or.inl rfl)) (pgs_cons (pg_name (i := 5) sc__law_pay.nd rfl (Or.inl rfl)) pgs_nil)))) (pss_cons (ps_set (i := 6) sc__law_pay.nd rfl (Or.inl rfl) (calK (K := KS.K) C__law_sum rfl rfl rfl rfl rfl (hr.mono (by decide)) (by rfl) (pa_cons (pe_lc (own := [("one", 7), ("two", 8)]) rfl sc__law_pay.nd (pi_zipK (K := KS.K) rfl (by rfl) m_zip (pa_cons (pv 2) (pa_cons (pv 3) pa_nil))) (blkOk_by (own := [("one", 7), ("two", 8)]) (N := ["columns", "c", "shares", "gains", "rise", "let", "paid", "one", "two"]) (sc := defScope s__law_pay) (by decide +kernel))
   (fun _ _ _ _ _ => (pg_tupK (K := KS.K) (n := 2) rfl rfl (pgs_cons (pg_name (i := 7) sc__law_pay.nd rfl (Or.inl rfl)) (pgs_cons (pg_name (i := 8) sc__law_pay.nd rfl (Or.inl rfl)) pgs_nil)))) (fun _ _ _ _ _ => pts_nil)
   (fun _ _ _ _ _ => (calK (K := KS.K) C__law_times rfl rfl rfl rfl rfl (hr.mono (by decide)) (by rfl) (pa_cons (pv 7) (pa_cons (pv 8) pa_nil))))) pa_nil)))
  (pss_one (ps_if (pt_val (calK (K := KS.K) C__law_less_than rfl rfl rfl rfl rfl (hr.mono (by decide)) (by rfl) (pa_cons (calK (K := KS.K) C__law_sum rfl rfl rfl rfl rfl (hr.mono (by decide)) (by rfl) (pa_cons (pe_lst (pa_cons (calK (K := KS.K) C__law_times rfl rfl rfl rfl rfl (hr.mono (by decide)) (by rfl) (pa_cons (pv 1) (pa_cons (pv 4) pa_nil))) (pa_cons (pv 5) pa_nil))) pa_nil)) (pa_cons (pv 6) pa_nil)))) (pss_one (ps_ret pe_bl)) pss_nil))))
  (pss_one (ps_ret pe_bl))), ?_⟩

  rintro ds r ⟨cols, c, sh, N, rfl, hF, hC, hl, hp, rfl⟩
  have hs : Fit sh N 900 := SL.Fit.sub hF fun q hq => List.mem_cons_of_mem _ hq
  have hc : Fit [c] N 900 := SL.Fit.sub hF fun q hq => by rw [List.mem_singleton.mp hq]; exact List.mem_cons_self
  refine ⟨_, (sv_cons (sv_for (ts := [3, 4, 5]) (ei_tup (ev_var rfl)) (o := .next [.d (.tuple (cols.map dCol)), .d (dF c), .d (.tuple (sh.map dF)), .no, .no, .no, .no, .no, .no]) ?lp)
   (sv_rt (sv_ret ev_bl) rfl))⟩
  case lp =>
    refine (lp_find (ρ := [.d (.tuple (cols.map dCol)), .d (dF c), .d (.tuple (sh.map dF)), .no, .no, .no, .no, .no, .no]) (f := dCol) (p := fun _ => false) (rt := fun _ => PyData.none) (fun col hcol _ => ?bd) (fun x hx h => by cases h)).1 (by simp)
    have hg : Fit col.g 6993000 50 := SL.Fit.sub (hC col hcol) fun q hq => List.mem_append_left _ hq
    have hcp := hC col hcol
    have fd := fit_dot hs hg
    have fdl : ((sh.zip col.g).map fun p => p.1 * p.2).length ≤ 1000 := by rw [List.length_map]; exact Nat.le_trans (zip_le hl) (by decide)
    have fp := fit_pair hc hcp
    have z1 := Fit.sz (Fit.sum fd fdl) (List.mem_singleton.mpr rfl)
    have z2 := Fit.sz (Fit.sum fp (by show 2 ≤ 1000; decide)) (List.mem_singleton.mpr rfl)
    rw [sum_pair] at z2
    refine ⟨_, (tg_tup (tgs_cons (tg_name (show 3 < 9 by decide) (by decide) (by decide)) (tgs_cons (tg_name (show 4 < 9 by decide) (by decide) (by decide)) (tgs_cons (tg_name (show 5 < 9 by decide) (by decide) (by decide)) tgs_nil))) (by rfl)), sv_post (sv_cons (sv_set (ev_call (r := dF (SL.dot sh col.g)) (ea_cons (EvF.ev (ef_lc (ei_zipTm (ea_cons (ev_var rfl) (ea_cons (ev_var rfl) ea_nil))) (lc_map (g := fun (x : Rat × Rat) => dF (x.1 * x.2)) (fun x hx => ⟨_, _, _, (tg_tup (tgs_cons (tg_name (show 7 < 9 by decide) (by decide) (by decide)) (tgs_cons (tg_name (show 8 < 9 by decide) (by decide) (by decide)) tgs_nil)) (by rfl)), (by rfl), et_yes, (ev_call (r := dF (x.1 * x.2)) (ea_cons (ev_var rfl) (ea_cons (ev_var rfl) ea_nil)) ⟨_, (by rfl), ?b1, (by rfl)⟩), (by rfl)⟩)) (no_own (by rfl)) (by rfl) ?b2)) ea_nil) ⟨_, (by rfl), ?b3, (by rfl)⟩) (show 6 < 9 by decide) (by decide))
   (sv_ifF (et_eq (et_b (ev_call (r := .bool false) (ea_cons (ev_call (r := dF (c * col.ri + col.lt)) (ea_cons (EvF.ev (ef_lst (ea_cons (ev_call (r := dF (c * col.ri)) (ea_cons (ev_var rfl) (ea_cons (ev_var rfl) ea_nil)) ⟨_, (by rfl), ?b4, (by rfl)⟩) (ea_cons (ev_var rfl) ea_nil)) (small_le (show 2 ≤ 1000 by decide)))) ea_nil) ⟨_, (by rfl), ?b5, (by rfl)⟩) (ea_cons (ev_var rfl) ea_nil)) ⟨_, (by rfl), ?b6, (by rfl)⟩)) ?b7) sv_next)) (by repeat' (first | exact Wk.nil | apply Wk.same | apply Wk.drop))⟩
    case b1 => exact ⟨x.1, x.2, rfl, (Fit.sz hs (List.of_mem_zip hx).1).up (by decide), (Fit.sz hg (List.of_mem_zip hx).2).up (by decide), rfl⟩
    case b2 => exact small_le (by rw [List.length_map]; exact Nat.le_trans (zip_le hl) (by decide))
    case b3 => exact ⟨false, (sh.zip col.g).map fun p => p.1 * p.2, _, by rw [List.map_map]; rfl, SL.Fit.up fd (by decide), fdl, rfl⟩
    case b4 => exact ⟨c, col.ri, rfl, (Fit.sz hc (List.mem_singleton.mpr rfl)).up (by decide), (Fit.sz hcp SL.ri_mem).up (by decide), rfl⟩
    case b5 => exact ⟨false, [c * col.ri, col.lt], _, rfl, SL.Fit.up fp (by decide), (by show 2 ≤ 1000; decide), by rw [sum_pair]⟩
    case b6 => exact ⟨_, _, rfl, z2.up (by decide), z1.up (by decide), congrArg PyData.bool (decide_eq_false (Rat.not_lt.mpr (hp col hcol))).symm⟩
    case b7 => rfl

end
end K55

end
section
set_option Elab.async false
set_option linter.all false
set_option maxRecDepth 100000
set_option maxHeartbeats 1000000
set_option exponentiation.threshold 20000
namespace K55
open PySem PySem.Spec PyProof.Rows L2 RZ EV FR LW
section
variable [KS] {P : Program} {w : World} {mg : Str → Option Value} {base : Heap}
theorem ok__law_shown (T : TopF KS.K mg "_law_shown" s__law_shown) (m_isinstance : mg "isinstance" = none) (m_tuple : mg "tuple" = none) (m_len : mg "len" = none) (m_str : mg "str" = none) (m_zip : mg "zip" = none) (C__law_sum : Cal P w KS.K mg base 3 "_law_sum" ["some"] G__law_sum) (C__law_worths : Cal P w KS.K mg base 4 "_law_worths" ["columns", "loads", "many"] G__law_worths) (C__law_are_parts : Cal P w KS.K mg base 3 "_law_are_parts" ["value", "many"] G__law_are_parts) (C__law_times : Cal P w KS.K mg base 3 "_law_times" ["one", "two"] G__law_times) (C__law_is_frac : Cal P w KS.K mg base 2 "_law_is_frac" ["value"] G__law_is_frac) (C__law_pay : Cal P w KS.K mg base 4 "_law_pay" ["columns", "c", "shares"] G__law_pay) (C__law_less_than : Cal P w KS.K mg base 1 "_law_less_than" ["one", "two"] G__law_less_than) : Cal P w KS.K mg base 5 "_law_shown" ["columns", "many", "told"] G__law_shown := by
  refine cal_pure T (fun _ _ _ _ _ _ us hl => match us, hl with | [_, _, _], _ => rfl) sc__law_shown (fun ds r h => by obtain ⟨cols, many, told, kind, rfl, _⟩ := h; rfl) fun f cdv A outer s H E hr => ⟨_, (pss_cons (ps_if (PW.pt (pw_or (pt_not (pt_val (pe_callB (isiK (K := KS.K) rfl) (by rfl) m_isinstance (by decide +kernel) (pa_cons (pv 2) (pa_cons (pe_bltn (v := .ty "tuple") (by rfl) m_tuple (by decide +kernel) rfl) pa_nil))))) (pw_or (pt_cmpR (neK (K := KS.K) rfl hr.units) (pe_callB (lenK (K := KS.K) rfl) (by rfl) m_len PySem.boot_len (pa_cons (pv 2) pa_nil)) pe_int (nomark _)) (pw_or (pt_not (pt_val (pe_callB (isiK (K := KS.K) rfl) (by rfl) m_isinstance (by decide +kernel) (pa_cons (pe_ix (ixK (K := KS.K) rfl) (pv 2) pe_int (fun _ _ => rfl)) (pa_cons (pe_bltn (v := .ty "str") (by rfl) m_str (by decide +kernel) rfl) pa_nil))))) (pw_or1 (pt_not (pt_val (calK (K := KS.K) C__law_are_parts rfl rfl rfl rfl rfl (hr.mono (by decide)) (by rfl) (pa_cons (pe_ix (ixK (K := KS.K) rfl) (pv 2) pe_int (fun _ _ => rfl)) (pa_cons (pe_callB (lenK (K := KS.K) rfl) (by rfl) m_len PySem.boot_len (pa_cons (pv 0) pa_nil)) pa_nil)))))))))) (pss_one (ps_ret pe_str)) pss_nil)
  (pss_cons (ps_set (i := 3) sc__law_shown.nd rfl (Or.inl rfl) (calK (K := KS.K) C__law_sum rfl rfl rfl rfl rfl (hr.mono (by decide)) (by rfl) (pa_cons (pe_lc (own := [("load", 5), ("column", 6)]) rfl sc__law_shown.nd (pi_zipK (K := KS.K) rfl (by rfl) m_zip (pa_cons (pe_ix (ixK (K := KS.K) rfl) (pv 2) pe_int (fun _ _ => rfl)) (pa_cons (pv 0) pa_nil))) (blkOk_by (own := [("load", 5), ("column", 6)]) (N := ["columns", "many", "told", "rise", "worths", "load", "column", "one"]) (sc := defScope s__law_shown) (by decide +kernel))
   (fun _ _ _ _ _ => (pg_tupK (K := KS.K) (n := 2) rfl rfl (pgs_cons (pg_name (i := 5) sc__law_shown.nd rfl (Or.inl rfl)) (pgs_cons (pg_name (i := 6) sc__law_shown.nd rfl (Or.inl rfl)) pgs_nil)))) (fun _ _ _ _ _ => pts_nil)
   (fun _ _ _ _ _ => (calK (K := KS.K) C__law_times rfl rfl rfl rfl rfl (hr.mono (by decide)) (by rfl) (pa_cons (pv 5) (pa_cons (pe_ix (ixK (K := KS.K) rfl) (pv 6) pe_int (fun _ _ => rfl)) pa_nil))))) pa_nil)))
  (pss_cons (ps_set (i := 4) sc__law_shown.nd rfl (Or.inl rfl) (calK (K := KS.K) C__law_worths rfl rfl rfl rfl rfl (hr.mono (by decide)) (by rfl) (pa_cons (pv 0) (pa_cons (pe_ix (ixK (K := KS.K) rfl) (pv 2) pe_int (fun _ _ => rfl)) (pa_cons (pv 1) pa_nil)))))
  (pss_cons (ps_if (PW.pt (pw_and (pt_cmpR (eqK (K := KS.K) rfl hr.units) (pe_ix (ixK (K := KS.K) rfl) (pv 2) pe_int (fun _ _ => rfl)) pe_str (nomark _)) (pw_and (pt_cmpR op_isN (pe_ix (ixK (K := KS.K) rfl) (pv 2) pe_int (fun _ _ => rfl)) pe_non (nomark _)) (pw_and1 (pt_cmpR op_isN (pe_ix (ixK (K := KS.K) rfl) (pv 2) pe_int (fun _ _ => rfl)) pe_non (nomark _)))))) (pss_one (ps_ret (pe_ifExp (PW.pt (pw_and (pt_cmpR (eqK (K := KS.K) rfl hr.units) (pv 3) (pe_tup (pa_cons pe_int (pa_cons pe_int pa_nil))) (nomark _)) (pw_and1 (pt_cmpR (eqK (K := KS.K) rfl hr.units) (pe_lc (own := [("one", 7)]) rfl sc__law_shown.nd (pi_seqK (K := KS.K) rfl (pv 4)) (blkOk_by (own := [("one", 7)]) (N := ["columns", "many", "told", "rise", "worths", "load", "column", "one"]) (sc := defScope s__law_shown) (by decide +kernel))
   (fun _ _ _ _ _ => (pg_name (i := 7) sc__law_shown.nd rfl (Or.inl rfl))) (fun _ _ _ _ _ => (pts_one (pt_cmpR op_lt (pe_ix (ixK (K := KS.K) rfl) (pv 7) pe_int (fun _ _ => rfl)) (pe_ix (ixK (K := KS.K) rfl) (pv 7) pe_int (fun _ _ => rfl)) (nomark _))))
   (fun _ _ _ _ _ => pe_int)) (pe_lst pa_nil) (nomark _))))) pe_str pe_str))) pss_nil)
  (pss_cons (ps_if (PW.pt (pw_or (pt_cmpR (neK (K := KS.K) rfl hr.units) (pe_ix (ixK (K := KS.K) rfl) (pv 2) pe_int (fun _ _ => rfl)) pe_str (nomark _)) (pw_or (pt_not (pt_val (calK (K := KS.K) C__law_is_frac rfl rfl rfl rfl rfl (hr.mono (by decide)) (by rfl) (pa_cons (pe_ix (ixK (K := KS.K) rfl) (pv 2) pe_int (fun _ _ => rfl)) pa_nil)))) (pw_or (pt_cmpR op_lt (pe_ix (ixK (K := KS.K) rfl) (pe_ix (ixK (K := KS.K) rfl) (pv 2) pe_int (fun _ _ => rfl)) pe_int (fun _ _ => rfl)) pe_int (nomark _)) (pw_or1 (pt_not (pt_val (calK (K := KS.K) C__law_are_parts rfl rfl rfl rfl rfl (hr.mono (by decide)) (by rfl) (pa_cons (pe_ix (ixK (K := KS.K) rfl) (pv 2) pe_int (fun _ _ => rfl)) (pa_cons (pv 1) pa_nil)))))))))) (pss_one (ps_ret pe_str)) pss_nil)
  (pss_cons (ps_if (PW.pt (pw_or (pt_cmpR (neK (K := KS.K) rfl hr.units) (calK (K := KS.K) C__law_sum rfl rfl rfl rfl rfl (hr.mono (by decide)) (by rfl) (pa_cons (pe_ix (ixK (K := KS.K) rfl) (pv 2) pe_int (fun _ _ => rfl)) pa_nil)) (pe_tup (pa_cons pe_int (pa_cons pe_int pa_nil))) (nomark _)) (pw_or1 (pt_not (pt_val (calK (K := KS.K) C__law_pay rfl rfl rfl rfl rfl (hr.mono (by decide)) (by rfl) (pa_cons (pv 0) (pa_cons (pe_ix (ixK (K := KS.K) rfl) (pv 2) pe_int (fun _ _ => rfl)) (pa_cons (pe_ix (ixK (K := KS.K) rfl) (pv 2) pe_int (fun _ _ => rfl)) pa_nil))))))))) (pss_one (ps_ret pe_str)) pss_nil)
  (pss_cons (ps_if (PW.pt (pw_and (pt_cmpR (neK (K := KS.K) rfl hr.units) (pv 3) (pe_tup (pa_cons pe_int (pa_cons pe_int pa_nil))) (nomark _)) (pw_and1 (PW.pt (pw_or (pt_cmpR op_gt (pe_ix (ixK (K := KS.K) rfl) (pe_ix (ixK (K := KS.K) rfl) (pv 2) pe_int (fun _ _ => rfl)) pe_int (fun _ _ => rfl)) pe_int (nomark _)) (pw_or1 (pt_cmpR (neK (K := KS.K) rfl hr.units) (pe_lc (own := [("load", 5)]) rfl sc__law_shown.nd (pi_seqK (K := KS.K) rfl (pe_ix (ixK (K := KS.K) rfl) (pv 2) pe_int (fun _ _ => rfl))) (blkOk_by (own := [("load", 5)]) (N := ["columns", "many", "told", "rise", "worths", "load", "column", "one"]) (sc := defScope s__law_shown) (by decide +kernel))
   (fun _ _ _ _ _ => (pg_name (i := 5) sc__law_shown.nd rfl (Or.inl rfl))) (fun _ _ _ _ _ => (pts_one (pt_cmpR op_gt (pe_ix (ixK (K := KS.K) rfl) (pv 5) pe_int (fun _ _ => rfl)) pe_int (nomark _))))
   (fun _ _ _ _ _ => pe_int)) (pe_lst pa_nil) (nomark _)))))))) (pss_one (ps_ret pe_str)) pss_nil)
  (pss_one (ps_ret (pe_ifExp (pt_cmpR (eqK (K := KS.K) rfl hr.units) (pe_lc (own := [("one", 7)]) rfl sc__law_shown.nd (pi_seqK (K := KS.K) rfl (pv 4)) (blkOk_by (own := [("one", 7)]) (N := ["columns", "many", "told", "rise", "worths", "load", "column", "one"]) (sc := defScope s__law_shown) (by decide +kernel))
   (fun _ _ _ _ _ => (pg_name (i := 7) sc__law_shown.nd rfl (Or.inl rfl))) (fun _ _ _ _ _ => (pts_one (pt_val (calK (K := KS.K) C__law_less_than rfl rfl rfl rfl rfl (hr.mono (by decide)) (by rfl) (pa_cons (pv 7) (pa_cons (pe_ix (ixK (K := KS.K) rfl) (pv 2) pe_int (fun _ _ => rfl)) pa_nil))))))
   (fun _ _ _ _ _ => pe_int)) (pe_lst pa_nil) (nomark _)) pe_str pe_str)))))))))), ?_⟩

  rintro ds r ⟨cols, many, told, kind, rfl, hS, hn, hm, hD, rfl⟩
  have hC : ∀ col ∈ cols, Fit col.all 6993000 50 := fun c hc => (hD c hc).fit
  have hg : ∀ col ∈ cols, col.g.length = many := fun c hc => (hD c hc).len
  cases hS with
  | @kept c sh ld hK =>
    obtain ⟨ok, N, hF⟩ := hK
    have hc : Fit [c] N 900 := SL.Fit.sub hF fun q hq => by rw [List.mem_singleton.mp hq]; exact List.mem_cons_self
    have hsh : Fit sh N 900 := SL.Fit.sub hF fun q hq => List.mem_cons_of_mem _ (List.mem_append_left _ hq)
    have hl : Fit ld N 900 := SL.Fit.sub hF fun q hq => List.mem_cons_of_mem _ (List.mem_append_right _ hq)
    have hcs : Fit (c :: sh) N 900 := SL.Fit.sub hF fun q hq => (List.mem_cons.mp hq).elim (fun e => by rw [e]; exact List.mem_cons_self) fun h => List.mem_cons_of_mem _ (List.mem_append_left _ h)
    have hlo := ok.loads
    have hld : ld.length = cols.length := hlo.len
    have fr := fit_ldot hl hC (h := fun c => c.ri) fun c _ => SL.ri_mem
    have lr : ((ld.zip cols).map fun p => p.1 * p.2.ri).length ≤ 1000 := by rw [List.length_map]; exact Nat.le_trans (zip_le (n := 100) (by omega)) (by decide)
    have hdn : ∀ q ∈ ld, 0 ≤ q ∧ q.den < 2 ^ 9000 := fun q hq => ⟨hlo.nn q hq, pow_lt (hl.den hq) (by decide)⟩
    have hsw : ∀ r, r < many → Sz 4000 (SL.worth ld cols r) := fun r hr => sz_worth hl hC (fun c hc => SL.g_mem (by rw [hg c hc]; exact hr)) (by omega)
    have hp := ok.pays
    have hsl : sh.length = many := hp.len
    have c0 := Rat.num_nonneg.mpr hp.c0
    have hcn : decide (c.num < 0) = false := decide_eq_false (by omega)
    refine ⟨[.d (.tuple (cols.map dCol)), .d (.int (many : Nat)), .d (dKept c sh ld), .d (dF (SL.ldot ld cols fun c => c.ri)), .d (.list ((List.range many).map fun r => dF (SL.worth ld cols r))), .no, .no, .no], (sv_cons (sv_ifF (et_eq (et_or (et_not (et_b (ev_isi (ev_var rfl) (by rfl)))) (fun h => (et_or (et_test (ev_nei (ev_len (Ev.rt (ev_var rfl))) ev_int)) (fun h => (et_or (et_not (et_b (ev_isi (ev_ixT (ev_var rfl) ev_int (by rfl)) (by rfl)))) (fun h => (et_not (et_b (ev_call (r := .bool true) (ea_cons (ev_ixT (ev_var rfl) ev_int (by rfl)) (ea_cons (ev_lenM (f := dCol) (Ev.rt (ev_var rfl))) ea_nil)) ⟨_, (by rfl), ?ka1, (by rfl)⟩))))))))) ?ka2) sv_next)
   (sv_cons (sv_set (ev_call (r := dF (SL.ldot ld cols fun c => c.ri)) (ea_cons (EvF.ev (ef_lc (ei_zipTm (ea_cons (ev_ixT (ev_var rfl) ev_int (by rfl)) (ea_cons (ev_var rfl) ea_nil))) (lc_map (g := fun (x : Rat × Col) => dF (x.1 * x.2.ri)) (fun x hx => ⟨_, _, _, (tg_tup (tgs_cons (tg_name (show 5 < 8 by decide) (by decide) (by decide)) (tgs_cons (tg_name (show 6 < 8 by decide) (by decide) (by decide)) tgs_nil)) (by rfl)), (by rfl), et_yes, (ev_call (r := dF (x.1 * x.2.ri)) (ea_cons (ev_var rfl) (ea_cons (ev_ixT (ev_var rfl) ev_int (by rfl)) ea_nil)) ⟨_, (by rfl), ?kb1, (by rfl)⟩), (by rfl)⟩)) (no_own (by rfl)) (by rfl) ?kb2)) ea_nil) ⟨_, (by rfl), ?kb3, (by rfl)⟩) (show 3 < 8 by decide) (by decide))
   (sv_cons (sv_set (ev_call (r := .list ((List.range many).map fun r => dF (SL.worth ld cols r))) (ea_cons (ev_var rfl) (ea_cons (ev_ixT (ev_var rfl) ev_int (by rfl)) (ea_cons (ev_var rfl) ea_nil))) ⟨_, (by rfl), ?kc1, (by rfl)⟩) (show 4 < 8 by decide) (by decide))
   (sv_cons (sv_ifF (et_eq (et_and (et_test (ev_eqs (ev_ixT (ev_var rfl) ev_int (by rfl)) ev_str)) (fun h => (et_and (et_test (ev_isN (by rfl) (ev_ixT (ev_var rfl) ev_int (by rfl)) ev_non)) (fun h => (et_test (ev_isN (by rfl) (ev_ixT (ev_var rfl) ev_int (by rfl)) ev_non)))))) ?kd1) sv_next)
   (sv_cons (sv_ifF (et_eq (et_or (et_test (ev_nes (ev_ixT (ev_var rfl) ev_int (by rfl)) ev_str)) (fun h => (et_or (et_not (et_b (ev_call (r := .bool true) (ea_cons (ev_ixT (ev_var rfl) ev_int (by rfl)) ea_nil) ⟨_, (by rfl), ?ke1, (by rfl)⟩))) (fun h => (et_or (et_test (ev_op0b (ev_ixT (ev_ixT (ev_var rfl) ev_int (by rfl)) ev_int (by rfl)) ev_int)) (fun h => (et_not (et_b (ev_call (r := .bool true) (ea_cons (ev_ixT (ev_var rfl) ev_int (by rfl)) (ea_cons (ev_var rfl) ea_nil)) ⟨_, (by rfl), ?ke2, (by rfl)⟩))))))))) ?ke3) sv_next)
   (sv_cons (sv_ifF (et_eq (et_or (et_test (ev_ned (ev_call (r := dF 1) (ea_cons (ev_ixT (ev_var rfl) ev_int (by rfl)) ea_nil) ⟨_, (by rfl), ?kf1, (by rfl)⟩) (ev_tup (ea_cons ev_int (ea_cons ev_int ea_nil)) (small_le (show 2 ≤ 1000 by decide))) ?kf2 ?kf3 ?kf4 ?kf5)) (fun h => (et_not (et_b (ev_call (r := .bool true) (ea_cons (ev_var rfl) (ea_cons (ev_ixT (ev_var rfl) ev_int (by rfl)) (ea_cons (ev_ixT (ev_var rfl) ev_int (by rfl)) ea_nil))) ⟨_, (by rfl), ?kf6, (by rfl)⟩))))) ?kf7) sv_next)
   ?s7))))))⟩
    case ka1 => exact ⟨ld, cols.length, rfl, hld, by omega, hdn, rfl⟩
    case ka2 => rfl
    case kb1 => exact ⟨x.1, x.2.ri, rfl, (Fit.sz hl (List.of_mem_zip hx).1).up (by decide), (Fit.sz (hC _ (List.of_mem_zip hx).2) SL.ri_mem).up (by decide), rfl⟩
    case kb2 => exact small_le (by rw [List.length_map]; exact Nat.le_trans (zip_le (n := 100) (by omega)) (by decide))
    case kb3 => exact ⟨false, (ld.zip cols).map fun p => p.1 * p.2.ri, _, by rw [List.map_map]; rfl, SL.Fit.up fr (by decide), lr, rfl⟩
    case kc1 => exact ⟨cols, ld, many, N, rfl, hl, hC, hg, by omega, hm, rfl⟩
    case kd1 => rfl
    case ke1 => exact ⟨c, rfl, pow_lt (hc.den (List.mem_singleton.mpr rfl)) (by decide), rfl⟩
    case ke2 => exact ⟨sh, many, rfl, hsl, by omega, fun q hq => ⟨hp.nn q hq, pow_lt (hsh.den hq) (by decide)⟩, rfl⟩
    case ke3 => rw [hcn]; rfl
    case kf1 => exact ⟨true, sh, N, rfl, SL.Fit.up hsh (by decide), by omega, by rw [hp.one]⟩
    case kf6 => exact ⟨cols, c, sh, N, rfl, hcs, hC, by omega, hp.pay, rfl⟩
    case kf7 => rfl
    all_goals try rfl
    case s7 =>
      refine sv_cons (ρ1 := [.d (.tuple (cols.map dCol)), .d (.int (many : Nat)), .d (dKept c sh ld), .d (dF (SL.ldot ld cols fun c => c.ri)), .d (.list ((List.range many).map fun r => dF (SL.worth ld cols r))), .no, .no, .no]) ?q7 (sv_rt (sv_ret (ev_ifT (et_eq (et_test (ev_eqd (EvF.ev (ef_lc (ei_list (ev_var rfl)) (lc_filter (f := fun r => dF (SL.worth ld cols r)) (xs := List.range many) (g := fun _ => .int 1) (p := fun _ => false) (fun x hx => ⟨_, _, (tg_name (show 7 < 8 by decide) (by decide) (by decide)), (by rfl), (et_b (ev_call (r := .bool false) (ea_cons (ev_var rfl) (ea_cons (ev_ixT (ev_var rfl) ev_int (by rfl)) ea_nil)) ⟨_, (by rfl), ?kh1, (by rfl)⟩)), (by rfl), fun hp => ⟨_, ev_int, (by rfl)⟩⟩)) (no_own (by rfl)) (by rfl) ?kh2)) (EvF.ev (ef_lst ea_nil (small_le (show 0 ≤ 1000 by decide)))) ?kh3 ?kh4 ?kh5 ?kh6)) ?kh7) ev_str)) rfl)
      case q7 =>
        rcases ok.rise with e | ⟨e, z⟩
        · have e' : (SL.ldot ld cols fun c => c.ri) = 1 := e
          rw [e']
          refine (sv_ifF (et_andF (et_eq (et_test (ev_ned (ev_var rfl) (ev_tup (ea_cons ev_int (ea_cons ev_int ea_nil)) (small_le (show 2 ≤ 1000 by decide))) ?kA1 ?kA2 ?kA3 ?kA4)) ?kA9)) sv_next)
          all_goals rfl
        · refine (sv_ifF (et_eq (et_and (et_test (ev_ned (ev_var rfl) (ev_tup (ea_cons ev_int (ea_cons ev_int ea_nil)) (small_le (show 2 ≤ 1000 by decide))) ?kg1 ?kg2 ?kg3 ?kg4)) (fun h => (et_or (et_test (ev_op0b (ev_ixT (ev_ixT (ev_var rfl) ev_int (by rfl)) ev_int (by rfl)) ev_int)) (fun h => (et_test (ev_ned (EvF.ev (ef_lc (ei_tup (ev_ixT (ev_var rfl) ev_int (by rfl))) (lc_filter (f := dF) (g := fun _ => .int 1) (p := fun _ => false) (fun x hx => ⟨_, _, (tg_name (show 5 < 8 by decide) (by decide) (by decide)), (by rfl), (et_eq (et_test (ev_op0b (ev_ixT (ev_var rfl) ev_int (by rfl)) ev_int)) ?kgt), (by rfl), fun hp => ⟨_, ev_int, (by rfl)⟩⟩)) (no_own (by rfl)) (by rfl) ?kg5)) (EvF.ev (ef_lst ea_nil (small_le (show 0 ≤ 1000 by decide)))) ?kg6 ?kg7 ?kg8 ?kg9)))))) ?kg10) sv_next)
          case kgt => rw [z x hx]; rfl
          case kg5 => exact small_le (by rw [List.length_map]; omega)
          case kg10 =>
            rw [e, map_filterF]
            exact Bool.and_false _
          all_goals first | rfl | (rw [map_filterF]; rfl)
      case kh1 =>
        have hr := List.mem_range.mp hx
        exact ⟨SL.worth ld cols x, c, rfl, hsw x hr, (Fit.sz hc (List.mem_singleton.mpr rfl)).up (by decide), congrArg PyData.bool (decide_eq_false (Rat.not_lt.mpr (hlo.wo x hr))).symm⟩
      case kh2 => exact small_le (by rw [List.length_map, List.length_range]; omega)
      all_goals first | rfl | (rw [map_filterF]; rfl)
  | @lost ld hK =>
    obtain ⟨ok, N, hl⟩ := hK
    have hlo := ok.loads
    have hld : ld.length = cols.length := hlo.len
    have fr := fit_ldot hl hC (h := fun c => c.ri) fun c _ => SL.ri_mem
    have lr : ((ld.zip cols).map fun p => p.1 * p.2.ri).length ≤ 1000 := by rw [List.length_map]; exact Nat.le_trans (zip_le (n := 100) (by omega)) (by decide)
    have hdn : ∀ q ∈ ld, 0 ≤ q ∧ q.den < 2 ^ 9000 := fun q hq => ⟨hlo.nn q hq, pow_lt (hl.den hq) (by decide)⟩
    have hsw : ∀ r, r < many → Sz 4000 (SL.worth ld cols r) := fun r hr => sz_worth hl hC (fun c hc => SL.g_mem (by rw [hg c hc]; exact hr)) (by omega)
    have e' : (SL.ldot ld cols fun c => c.ri) = 0 := ok.rise
    refine ⟨_, (sv_cons (sv_ifF (et_eq (et_or (et_not (et_b (ev_isi (ev_var rfl) (by rfl)))) (fun h => (et_or (et_test (ev_nei (ev_len (Ev.rt (ev_var rfl))) ev_int)) (fun h => (et_or (et_not (et_b (ev_isi (ev_ixT (ev_var rfl) ev_int (by rfl)) (by rfl)))) (fun h => (et_not (et_b (ev_call (r := .bool true) (ea_cons (ev_ixT (ev_var rfl) ev_int (by rfl)) (ea_cons (ev_lenM (f := dCol) (Ev.rt (ev_var rfl))) ea_nil)) ⟨_, (by rfl), ?la1, (by rfl)⟩))))))))) ?la2) sv_next)
   (sv_cons (sv_set (ev_call (r := dF (SL.ldot ld cols fun c => c.ri)) (ea_cons (EvF.ev (ef_lc (ei_zipTm (ea_cons (ev_ixT (ev_var rfl) ev_int (by rfl)) (ea_cons (ev_var rfl) ea_nil))) (lc_map (g := fun (x : Rat × Col) => dF (x.1 * x.2.ri)) (fun x hx => ⟨_, _, _, (tg_tup (tgs_cons (tg_name (show 5 < 8 by decide) (by decide) (by decide)) (tgs_cons (tg_name (show 6 < 8 by decide) (by decide) (by decide)) tgs_nil)) (by rfl)), (by rfl), et_yes, (ev_call (r := dF (x.1 * x.2.ri)) (ea_cons (ev_var rfl) (ea_cons (ev_ixT (ev_var rfl) ev_int (by rfl)) ea_nil)) ⟨_, (by rfl), ?lb1, (by rfl)⟩), (by rfl)⟩)) (no_own (by rfl)) (by rfl) ?lb2)) ea_nil) ⟨_, (by rfl), ?lb3, (by rfl)⟩) (show 3 < 8 by decide) (by decide))
   (sv_cons (sv_set (ev_call (r := .list ((List.range many).map fun r => dF (SL.worth ld cols r))) (ea_cons (ev_var rfl) (ea_cons (ev_ixT (ev_var rfl) ev_int (by rfl)) (ea_cons (ev_var rfl) ea_nil))) ⟨_, (by rfl), ?lc1, (by rfl)⟩) (show 4 < 8 by decide) (by decide))
   (sv_ifT (et_eq (et_and (et_test (ev_eqs (ev_ixT (ev_var rfl) ev_int (by rfl)) ev_str)) (fun h => (et_and (et_test (ev_isN (by rfl) (ev_ixT (ev_var rfl) ev_int (by rfl)) ev_non)) (fun h => (et_test (ev_isN (by rfl) (ev_ixT (ev_var rfl) ev_int (by rfl)) ev_non)))))) ?ld1) (sv_rt (sv_ret (ev_ifT (et_eq (et_and (et_test (ev_eqd (ev_var rfl) (ev_tup (ea_cons ev_int (ea_cons ev_int ea_nil)) (small_le (show 2 ≤ 1000 by decide))) ?ld2 ?ld3 ?ld4 ?ld5)) (fun h => (et_test (ev_eqd (EvF.ev (ef_lc (ei_list (ev_var rfl)) (lc_filter (f := fun r => dF (SL.worth ld cols r)) (xs := List.range many) (g := fun _ => .int 1) (p := fun _ => false) (fun x hx => ⟨_, _, (tg_name (show 7 < 8 by decide) (by decide) (by decide)), (by rfl), (et_eq (et_test (ev_op0b (ev_ixT (ev_var rfl) ev_int (by rfl)) (ev_ixT (ev_var rfl) ev_int (by rfl)))) ?ldt), (by rfl), fun hp => ⟨_, ev_int, (by rfl)⟩⟩)) (no_own (by rfl)) (by rfl) ?ld6)) (EvF.ev (ef_lst ea_nil (small_le (show 0 ≤ 1000 by decide)))) ?ld7 ?ld8 ?ld9 ?ld10)))) ?ld11) ev_str)) rfl)))))⟩
    case la1 => exact ⟨ld, cols.length, rfl, hld, by omega, hdn, rfl⟩
    case la2 => rfl
    case lb1 => exact ⟨x.1, x.2.ri, rfl, (Fit.sz hl (List.of_mem_zip hx).1).up (by decide), (Fit.sz (hC _ (List.of_mem_zip hx).2) SL.ri_mem).up (by decide), rfl⟩
    case lb2 => exact small_le (by rw [List.length_map]; exact Nat.le_trans (zip_le (n := 100) (by omega)) (by decide))
    case lb3 => exact ⟨false, (ld.zip cols).map fun p => p.1 * p.2.ri, _, by rw [List.map_map]; rfl, SL.Fit.up fr (by decide), lr, rfl⟩
    case lc1 => exact ⟨cols, ld, many, N, rfl, hl, hC, hg, by omega, hm, rfl⟩
    case ld1 => rfl
    case ldt =>
      have hr := List.mem_range.mp hx
      exact decide_eq_false (one_le_num (hlo.wo x hr))
    case ld6 => exact small_le (by rw [List.length_map, List.length_range]; omega)
    case ld11 =>
      rw [e', map_filterF]
      rfl
    all_goals first | rfl | (rw [map_filterF]; rfl)

end
end K55

end
section
set_option Elab.async false
set_option linter.all false
set_option maxRecDepth 100000
set_option maxHeartbeats 1000000
set_option exponentiation.threshold 20000
namespace K55
open PySem PySem.Spec PyProof.Rows L2 RZ EV FR LW
section
variable [KS] {P : Program} {w : World} {mg : Str → Option Value} {base : Heap}
theorem ok__law_take (T : TopF KS.K mg "_law_take" s__law_take) (m_int : mg "int" = none)  : Cal P w KS.K mg base 1 "_law_take" ["box", "many"] G__law_take := by
  refine cal_box T (fun _ _ _ _ _ _ us hl => match us, hl with | [_, _], _ => rfl) sc__law_take (fun b ds r b' h => by obtain ⟨b0, m, rfl, _⟩ := h; rfl) fun f cdv A outer s H E hr => ⟨_, (pss_cons (ps_if (pt_cmpR op_gt (pe_ix (ixK (K := KS.K) rfl) (pv 0) pe_int (fun _ _ => rfl)) pe_int (nomark _)) (pss_cons (ps_set (i := 2) sc__law_take.nd rfl (Or.inl rfl) (pe_op op_mod (pe_callTy call_int1 (by rfl) m_int (by decide +kernel) (pa_cons (pe_ix (ixK (K := KS.K) rfl) (pv 0) pe_int (fun _ _ => rfl)) pa_nil)) (pv 1)))
  (pss_cons (ps_asg (pe_op op_fdivP (pe_ix (ixK (K := KS.K) rfl) (pv 0) pe_int (fun _ _ => rfl)) (pv 1)) (pg_sub (pv 0) pe_int set_list))
  (pss_one (ps_ret (pv 2))))) pss_nil)
  (pss_cons (ps_set (i := 3) sc__law_take.nd rfl (Or.inl rfl) (pe_op op_mod (pe_callTy call_int1 (by rfl) m_int (by decide +kernel) (pa_cons (pe_op (addK (K := KS.K) rfl) (pe_op op_mulU (pe_ix (ixK (K := KS.K) rfl) (pv 0) pe_int (fun _ _ => rfl)) pe_int) pe_int) pa_nil)) pe_int))
  (pss_cons (ps_asg (pe_op (addK (K := KS.K) rfl) (pe_op op_mod (pe_callTy call_int1 (by rfl) m_int (by decide +kernel) (pa_cons (pe_op (addK (K := KS.K) rfl) (pe_op op_mulU (pv 3) pe_int) pe_int) pa_nil)) pe_int) pe_int) (pg_sub (pv 0) pe_int set_list))
  (pss_one (ps_ret (pe_op op_mod (pe_callTy call_int1 (by rfl) m_int (by decide +kernel) (pa_cons (pe_op op_fdivP (pe_op (addK (K := KS.K) rfl) (pe_op op_mulU (pv 3) pe_int) (pe_ix (ixK (K := KS.K) rfl) (pv 0) pe_int (fun _ _ => rfl))) pe_int) pa_nil)) (pv 1))))))), ?_⟩

  rintro bx ds r bx' ⟨b, m, rfl, rfl, rfl, hm, hm2, hb, rfl⟩
  have hmd : CDivP b.1 (m : Int) := divp_lt (by omega) (by rw [Int.natAbs_natCast]; exact pow_lt hm2 (by decide))
  have e2 : (2 : Nat) ^ 40 = 1099511627776 := by decide
  have h1 := hb
  unfold BxOk at h1
  have r0 := Int.emod_nonneg (b.2 * 39373 + 167) (b := 2147483647) (by decide)
  have r1 := Int.emod_lt_of_pos (b.2 * 39373 + 167) (b := 2147483647) (by decide)
  have hraw : (bRaw b).natAbs < 2 ^ 40 := by
    unfold bRaw
    rw [e2]
    omega
  rw [← tkI_eq b hm]
  unfold tkB tkI
  by_cases h : 0 < b.1
  · rw [if_pos h, if_pos h]
    refine ⟨_, (sv_stop (sv_ifT (et_eq (et_test (ev_op0b (ev_ixOn (f := PyData.int) (xs := [b.1, b.2]) (k := 0) ev_int (by rfl) ?a1) ev_int)) ?a2) (sv_cons (sv_set (ev_opC (ev_toInt (ev_ixOn (f := PyData.int) (xs := [b.1, b.2]) (k := 0) ev_int (by rfl) ?a3)) (ev_var rfl) ?a4) (show 2 < 4 by decide) (by decide))
   (sv_cons (sv_setLn (ev_opC (ev_ixOn (f := PyData.int) (xs := [b.1, b.2]) (k := 0) ev_int (by rfl) ?a5) (ev_var rfl) ?a6) ev_int (by rfl) ?a7)
   (sv_rt (sv_ret (ev_var rfl)) ?fin)))) (fun _ z => by cases z))⟩
    case a1 => show 0 < 2; decide
    case a2 => exact decide_eq_true (by exact h)
    case a3 => show 0 < 2; decide
    case a4 => show (0 : Int) < m; omega
    case a5 => show 0 < 2; decide
    case a6 => exact hmd
    case a7 => show 0 < 2; decide
    case fin => rfl
  · rw [if_neg h, if_neg h]
    refine ⟨_, (sv_cons (sv_ifF (et_eq (et_test (ev_op0b (ev_ixOn (f := PyData.int) (xs := [b.1, b.2]) (k := 0) ev_int (by rfl) ?b1) ev_int)) ?b2) sv_next)
   (sv_cons (sv_set (ev_opC (ev_toInt (ev_add (ev_mul (ev_ixOn (f := PyData.int) (xs := [b.1, b.2]) (k := 1) ev_int (by rfl) ?b3) ev_int ?b4) ev_int)) ev_int ?b5) (show 3 < 4 by decide) (by decide))
   (sv_cons (sv_setLn (ev_add (ev_opC (ev_toInt (ev_add (ev_mul (ev_var rfl) ev_int ?b6) ev_int)) ev_int ?b7) ev_int) ev_int (by rfl) ?b8)
   (sv_rt (sv_ret (ev_opC (ev_toInt (ev_opC (ev_add (ev_mul (ev_var rfl) ev_int ?b9) (ev_ixOn (f := PyData.int) (xs := [b.1, bNew b]) (k := 1) ev_int (by rfl) ?b10)) ev_int ?b11)) (ev_var rfl) ?b12)) ?fin2))))⟩
    case b1 => show 0 < 2; decide
    case b2 => exact decide_eq_false (by exact h)
    case b3 => show 1 < 2; decide
    case b4 => exact mulx h1 (b := 40) (by decide)
    case b5 => show (0 : Int) < 2147483647; decide
    case b6 => exact mulx hraw (b := 40) (by decide)
    case b7 => show (0 : Int) < 2147483399; decide
    case b8 => show 1 < 2; decide
    case b9 => exact mulx hraw (b := 40) (by decide)
    case b10 => show 1 < 2; decide
    case b11 => exact divp_lt (by decide) (by decide)
    case b12 => show (0 : Int) < m; omega
    case fin2 => rfl

end
end K55

end
section
set_option Elab.async false
set_option linter.all false
set_option maxRecDepth 100000
set_option maxHeartbeats 1000000
set_option exponentiation.threshold 20000
namespace K55
open PySem PySem.Spec PyProof.Rows L2 RZ EV FR LW
section
variable [KS] {P : Program} {w : World} {mg : Str → Option Value} {base : Heap}
theorem ok__law_pick (T : TopF KS.K mg "_law_pick" s__law_pick) (m_len : mg "len" = none) (C__law_take : Cal P w KS.K mg base 1 "_law_take" ["box", "many"] G__law_take) : Cal P w KS.K mg base 2 "_law_pick" ["box", "some"] G__law_pick := by
  refine cal_box T (fun _ _ _ _ _ _ us hl => match us, hl with | [_, _], _ => rfl) sc__law_pick (fun b ds r b' h => by obtain ⟨b0, xs, rfl, _⟩ := h; rfl) fun f cdv A outer s H E hr => ⟨_, (pss_one (ps_ret (pe_ix (ixK (K := KS.K) rfl) (pv 1) (calK (K := KS.K) C__law_take rfl rfl rfl rfl rfl (hr.mono (by decide)) (by rfl) (pa_cons (pv 0) (pa_cons (pe_callB (lenK (K := KS.K) rfl) (by rfl) m_len PySem.boot_len (pa_cons (pv 1) pa_nil)) pa_nil))) (fun _ _ => rfl)))), ?_⟩

  rintro bx ds r bx' ⟨b, xs, rfl, rfl, rfl, hx, hl, hb, rfl⟩
  have hp := List.length_pos_iff.mpr hx
  refine ⟨_, (sv_rt (sv_ret (ev_ixLn (f := PyData.int) (ev_var rfl) (ev_call1 (r := .int (tk b xs.length : Nat)) (b' := _) (ea_cons (ev_lenM (f := PyData.int) (Ev.rl (ev_var rfl))) ea_nil) (by rfl) ⟨_, _, _, (by rfl), ?a1, (by rfl)⟩) ?a2)) rfl)⟩
  case a1 => exact ⟨b, xs.length, rfl, rfl, rfl, hp, by omega, hb, rfl⟩
  case a2 => exact tk_lt b hp

end
end K55

end
section
set_option Elab.async false
set_option linter.all false
set_option maxRecDepth 100000
set_option maxHeartbeats 1000000
set_option exponentiation.threshold 20000
namespace K55
open PySem PySem.Spec PyProof.Rows L2 RZ EV FR LW
section
variable [KS] {P : Program} {w : World} {mg : Str → Option Value} {base : Heap}
theorem ok__law_worth (T : TopF KS.K mg "_law_worth" s__law_worth)  (C__law_take : Cal P w KS.K mg base 1 "_law_take" ["box", "many"] G__law_take) (C__law_frac : Cal P w KS.K mg base 2 "_law_frac" ["n", "d"] G__law_frac) (C__law_pick : Cal P w KS.K mg base 2 "_law_pick" ["box", "some"] G__law_pick) : Cal P w KS.K mg base 3 "_law_worth" ["box", "great"] G__law_worth := by
  refine cal_box T (fun _ _ _ _ _ _ us hl => match us, hl with | [_, _], _ => rfl) sc__law_worth (fun b ds r b' h => by obtain ⟨b0, g, rfl, _⟩ := h; rfl) fun f cdv A outer s H E hr => ⟨_, (pss_cons (ps_set (i := 2) sc__law_worth.nd rfl (Or.inl rfl) (calK (K := KS.K) C__law_take rfl rfl rfl rfl rfl (hr.mono (by decide)) (by rfl) (pa_cons (pv 0) (pa_cons pe_int pa_nil))))
  (pss_cons (ps_if (pt_cmpR (eqK (K := KS.K) rfl hr.units) (pv 2) pe_int (nomark _)) (pss_one (ps_ret (pe_tup (pa_cons pe_int (pa_cons pe_int pa_nil))))) pss_nil)
  (pss_cons (ps_if (PW.pt (pw_and (pt_val (pv 1)) (pw_and1 (pt_cmpR (eqK (K := KS.K) rfl hr.units) (pv 2) pe_int (nomark _))))) (pss_one (ps_ret (calK (K := KS.K) C__law_frac rfl rfl rfl rfl rfl (hr.mono (by decide)) (by rfl) (pa_cons (pe_op (addK (K := KS.K) rfl) pe_int (calK (K := KS.K) C__law_take rfl rfl rfl rfl rfl (hr.mono (by decide)) (by rfl) (pa_cons (pv 0) (pa_cons (pe_op op_pow pe_int pe_int) pa_nil)))) (pa_cons (calK (K := KS.K) C__law_pick rfl rfl rfl rfl rfl (hr.mono (by decide)) (by rfl) (pa_cons (pv 0) (pa_cons (pe_lst (pa_cons pe_int (pa_cons pe_int (pa_cons pe_int pa_nil)))) pa_nil))) pa_nil))))) pss_nil)
  (pss_one (ps_ret (calK (K := KS.K) C__law_frac rfl rfl rfl rfl rfl (hr.mono (by decide)) (by rfl) (pa_cons (calK (K := KS.K) C__law_take rfl rfl rfl rfl rfl (hr.mono (by decide)) (by rfl) (pa_cons (pv 0) (pa_cons pe_int pa_nil))) (pa_cons (calK (K := KS.K) C__law_pick rfl rfl rfl rfl rfl (hr.mono (by decide)) (by rfl) (pa_cons (pv 0) (pa_cons (pe_lst (pa_cons pe_int (pa_cons pe_int (pa_cons pe_int (pa_cons pe_int (pa_cons pe_int (pa_cons pe_int pa_nil))))))) pa_nil))) pa_nil)))))))), ?_⟩

  rintro bx ds r bx' ⟨b, g, rfl, rfl, rfl, hb, rfl⟩
  have hb1 := tkB_ok hb 5
  unfold worthM worthB
  by_cases h : tk b 5 = 0
  · rw [if_pos h, if_pos h]
    refine ⟨_, (sv_cons (sv_set (ev_call1 (r := .int (tk b 5 : Nat)) (b' := dBx (tkB b 5)) (ea_cons ev_int ea_nil) (by rfl) ⟨_, _, _, (by rfl), ?a1, (by rfl)⟩) (show 2 < 3 by decide) (by decide))
   (sv_stop (sv_ifT (et_eq (et_test (ev_eqi (ev_var rfl) ev_int)) ?a2) (sv_rt (sv_ret (ev_tup (ea_cons ev_int (ea_cons ev_int ea_nil)) (small_le (show 2 ≤ 1000 by decide)))) rfl)) (fun _ z => by cases z)))⟩
    case a1 => exact ⟨b, 5, rfl, rfl, rfl, by decide, by decide, hb, rfl⟩
    case a2 => exact decide_eq_true (by omega)
  · rw [if_neg h, if_neg h]
    by_cases h2 : g = true ∧ tk b 5 = 1
    · rw [if_pos h2, if_pos h2]
      have hb2 := tkB_ok hb1 1000000
      have hd := lot_ok3 (tk_lt (tkB (tkB b 5) 1000000) (m := 3) (by decide))
      have hd2 : (lot3.getD (tk (tkB (tkB b 5) 1000000) 3) default).natAbs < 2 ^ 9000 := lot_lt hd.1 hd.2
      refine ⟨_, (sv_cons (sv_set (ev_call1 (r := .int (tk b 5 : Nat)) (b' := dBx (tkB b 5)) (ea_cons ev_int ea_nil) (by rfl) ⟨_, _, _, (by rfl), ?b1, (by rfl)⟩) (show 2 < 3 by decide) (by decide))
   (sv_cons (sv_ifF (et_eq (et_test (ev_eqi (ev_var rfl) ev_int)) ?b2) sv_next)
   (sv_stop (sv_ifT (et_eq (et_and (et_b (ev_var rfl)) (fun h => (et_test (ev_eqi (ev_var rfl) ev_int)))) ?b3) (sv_rt (sv_ret (ev_call (r := dF (mkRat (1 + (tk (tkB b 5) 1000000 : Int)) (lot3.getD (tk (tkB (tkB b 5) 1000000) 3) default).toNat)) (ea_cons (ev_add ev_int (ev_call1 (r := .int (tk (tkB b 5) 1000000 : Nat)) (b' := dBx (tkB (tkB b 5) 1000000)) (ea_cons (ev_opC ev_int ev_int ?b4) ea_nil) (by rfl) ⟨_, _, _, (by rfl), ?b5, (by rfl)⟩)) (ea_cons (ev_call1 (r := .int (lot3.getD (tk (tkB (tkB b 5) 1000000) 3) default)) (b' := dBx (tkB (tkB (tkB b 5) 1000000) 3)) (ea_cons (EvF.ev (ef_lst (ea_cons ev_int (ea_cons ev_int (ea_cons ev_int ea_nil))) (small_le (show 3 ≤ 1000 by decide)))) ea_nil) (by rfl) ⟨_, _, _, (by rfl), ?b6, (by rfl)⟩) ea_nil)) ⟨_, (by rfl), ?b7, (by rfl)⟩)) rfl)) (fun _ z => by cases z))))⟩
      case b1 => exact ⟨b, 5, rfl, rfl, rfl, by decide, by decide, hb, rfl⟩
      case b2 => exact decide_eq_false (by omega)
      case b3 => rw [h2.1, h2.2]; rfl
      case b4 => exact ⟨by decide, by decide, by decide⟩
      case b5 => exact ⟨(tkB b 5), 1000000, rfl, rfl, rfl, by decide, by decide, hb1, rfl⟩
      case b6 => exact ⟨(tkB (tkB b 5) 1000000), lot3, rfl, rfl, rfl, by decide, by decide, hb2, rfl⟩
      case b7 => exact ⟨_, _, rfl, hd.1, hd2, rfl⟩
    · rw [if_neg h2, if_neg h2]
      have hb2 := tkB_ok hb1 13
      have hd := lot_ok6 (tk_lt (tkB (tkB b 5) 13) (m := 6) (by decide))
      have hd2 : (lot6.getD (tk (tkB (tkB b 5) 13) 6) default).natAbs < 2 ^ 9000 := lot_lt hd.1 hd.2
      refine ⟨_, (sv_cons (sv_set (ev_call1 (r := .int (tk b 5 : Nat)) (b' := dBx (tkB b 5)) (ea_cons ev_int ea_nil) (by rfl) ⟨_, _, _, (by rfl), ?c1, (by rfl)⟩) (show 2 < 3 by decide) (by decide))
   (sv_cons (sv_ifF (et_eq (et_test (ev_eqi (ev_var rfl) ev_int)) ?c2) sv_next)
   (sv_cons (sv_ifF (et_eq (et_and (et_b (ev_var rfl)) (fun h => (et_test (ev_eqi (ev_var rfl) ev_int)))) ?c3) sv_next)
   (sv_rt (sv_ret (ev_call (r := dF (mkRat (tk (tkB b 5) 13 : Int) (lot6.getD (tk (tkB (tkB b 5) 13) 6) default).toNat)) (ea_cons (ev_call1 (r := .int (tk (tkB b 5) 13 : Nat)) (b' := dBx (tkB (tkB b 5) 13)) (ea_cons ev_int ea_nil) (by rfl) ⟨_, _, _, (by rfl), ?c4, (by rfl)⟩) (ea_cons (ev_call1 (r := .int (lot6.getD (tk (tkB (tkB b 5) 13) 6) default)) (b' := dBx (tkB (tkB (tkB b 5) 13) 6)) (ea_cons (EvF.ev (ef_lst (ea_cons ev_int (ea_cons ev_int (ea_cons ev_int (ea_cons ev_int (ea_cons ev_int (ea_cons ev_int ea_nil)))))) (small_le (show 6 ≤ 1000 by decide)))) ea_nil) (by rfl) ⟨_, _, _, (by rfl), ?c5, (by rfl)⟩) ea_nil)) ⟨_, (by rfl), ?c6, (by rfl)⟩)) rfl))))⟩
      case c1 => exact ⟨b, 5, rfl, rfl, rfl, by decide, by decide, hb, rfl⟩
      case c2 => exact decide_eq_false (by omega)
      case c3 =>
        cases g with
        | false => rfl
        | true => exact decide_eq_false fun z => h2 ⟨rfl, by omega⟩
      case c4 => exact ⟨(tkB b 5), 13, rfl, rfl, rfl, by decide, by decide, hb1, rfl⟩
      case c5 => exact ⟨(tkB (tkB b 5) 13), lot6, rfl, rfl, rfl, by decide, by decide, hb2, rfl⟩
      case c6 => exact ⟨_, _, rfl, hd.1, hd2, rfl⟩

end
end K55

end
section
set_option Elab.async false
set_option linter.all false
set_option maxRecDepth 100000
set_option maxHeartbeats 1000000
set_option exponentiation.threshold 20000
namespace K55
open PySem PySem.Spec PyProof.Rows L2 RZ EV FR LW
section
variable [KS] {P : Program} {w : World} {mg : Str → Option Value} {base : Heap}
theorem ok__law_column (T : TopF KS.K mg "_law_column" s__law_column) (m_tuple : mg "tuple" = none) (m_range : mg "range" = none) (C__law_worth : Cal P w KS.K mg base 3 "_law_worth" ["box", "great"] G__law_worth) (C__law_take : Cal P w KS.K mg base 1 "_law_take" ["box", "many"] G__law_take) : Cal P w KS.K mg base 4 "_law_column" ["box", "many", "great"] G__law_column := by
  refine cal_box T (fun _ _ _ _ _ _ us hl => match us, hl with | [_, _, _], _ => rfl) sc__law_column (fun b ds r b' h => by obtain ⟨b0, m, g, rfl, _⟩ := h; rfl) fun f cdv A outer s H E hr => ⟨_, (pss_cons (ps_set (i := 3) sc__law_column.nd rfl (Or.inr rfl) (pe_lc (own := [("row", 5)]) rfl sc__law_column.nd (pi_range1 (by rfl) m_range (pa_cons (pv 1) pa_nil)) (blkOk_by (own := [("row", 5)]) (N := ["box", "many", "great", "gains", "rise", "row"]) (sc := defScope s__law_column) (by decide +kernel))
   (fun _ _ _ _ _ => (pg_name (i := 5) sc__law_column.nd rfl (Or.inl rfl))) (fun _ _ _ _ _ => pts_nil)
   (fun _ _ _ _ _ => (calK (K := KS.K) C__law_worth rfl rfl rfl rfl rfl (hr.mono (by decide)) (by rfl) (pa_cons (pv 0) (pa_cons (pv 2) pa_nil))))))
  (pss_cons (ps_if (pt_cmpR (eqK (K := KS.K) rfl hr.units) (calK (K := KS.K) C__law_take rfl rfl rfl rfl rfl (hr.mono (by decide)) (by rfl) (pa_cons (pv 0) (pa_cons pe_int pa_nil))) pe_int (nomark _)) (pss_one (ps_set (i := 3) sc__law_column.nd rfl (Or.inr rfl) (pe_lc (own := [("row", 5)]) rfl sc__law_column.nd (pi_range1 (by rfl) m_range (pa_cons (pv 1) pa_nil)) (blkOk_by (own := [("row", 5)]) (N := ["box", "many", "great", "gains", "rise", "row"]) (sc := defScope s__law_column) (by decide +kernel))
   (fun _ _ _ _ _ => (pg_name (i := 5) sc__law_column.nd rfl (Or.inl rfl))) (fun _ _ _ _ _ => pts_nil)
   (fun _ _ _ _ _ => (pe_ix (ixK (K := KS.K) rfl) (pv 3) pe_int (fun _ _ => rfl)))))) pss_nil)
  (pss_cons (ps_set (i := 4) sc__law_column.nd rfl (Or.inl rfl) (pe_ifExp (pt_cmpR (eqK (K := KS.K) rfl hr.units) (calK (K := KS.K) C__law_take rfl rfl rfl rfl rfl (hr.mono (by decide)) (by rfl) (pa_cons (pv 0) (pa_cons pe_int pa_nil))) pe_int (nomark _)) (pe_tup (pa_cons pe_int (pa_cons pe_int pa_nil))) (calK (K := KS.K) C__law_worth rfl rfl rfl rfl rfl (hr.mono (by decide)) (by rfl) (pa_cons (pv 0) (pa_cons (pv 2) pa_nil)))))
  (pss_one (ps_ret (pe_tup (pa_cons (pe_callTy (tupleK (K := KS.K) rfl) (by rfl) m_tuple (by decide +kernel) (pa_cons (pv 3) pa_nil)) (pa_cons (pv 4) (pa_cons (pe_ifExp (pt_cmpR (eqK (K := KS.K) rfl hr.units) (calK (K := KS.K) C__law_take rfl rfl rfl rfl rfl (hr.mono (by decide)) (by rfl) (pa_cons (pv 0) (pa_cons pe_int pa_nil))) pe_int (nomark _)) (calK (K := KS.K) C__law_worth rfl rfl rfl rfl rfl (hr.mono (by decide)) (by rfl) (pa_cons (pv 0) (pa_cons (pv 2) pa_nil))) (pe_tup (pa_cons pe_int (pa_cons pe_int pa_nil)))) pa_nil))))))))), ?_⟩

  rintro bx ds r bx' ⟨b, many, g, rfl, rfl, rfl, hm, hm2, hb, rfl⟩
  have hw := wsB_ok g many hb
  have hw1 : BxOk (b1M b many g) := tkB_ok hw 4
  have hw2 := riB_ok hw1 g
  refine ⟨[.d (.int (many : Nat)), .d (.bool g), .d (.list ((gainsM b many g).map dF)), .d (dF (riM (b1M b many g) g)), .no], sv_cons (sv_set (EvF.ev (ef_lc (ei_rangeN (ea_cons (ev_var rfl) ea_nil) ?a1) (lc_worths (R := fun c => [.own (dBx c), .d (.int (many : Nat)), .d (.bool g), .no, .no, .no]) hb fun c x hc => ⟨_, _, _, (tg_name (show 5 < 6 by decide) (by decide) (by decide)), (by rfl), et_yes, (ev_call1 (r := dF (worthM c g)) (b' := dBx (worthB c g)) (ea_cons (ev_var rfl) ea_nil) (by rfl) ⟨_, _, _, (by rfl), ⟨c, g, rfl, rfl, rfl, hc, rfl⟩, (by rfl)⟩), (by rfl)⟩) (no_own (by rfl)) (by rfl) ?a3)) (show 3 < 6 by decide) (by decide)) (sv_cons (ρ1 := [.own (dBx (b1M b many g)), .d (.int (many : Nat)), .d (.bool g), .d (.list ((gainsM b many g).map dF)), .no, .no]) ?s2 (sv_cons (ρ1 := [.own (dBx (riB (b1M b many g) g)), .d (.int (many : Nat)), .d (.bool g), .d (.list ((gainsM b many g).map dF)), .d (dF (riM (b1M b many g) g)), .no]) ?s3 ?s4))⟩
  case a1 => omega
  case a3 => exact small_le (by rw [List.length_map, List.length_range]; omega)
  case s2 =>
    unfold gainsM
    by_cases h : tk (wsB g b many) 4 = 0
    · rw [if_pos h]
      refine sv_nx (sv_ifT (et_eq (et_test (ev_eqi (ev_call1 (r := .int (tk (wsB g b many) 4 : Nat)) (b' := dBx (tkB (wsB g b many) 4)) (ea_cons ev_int ea_nil) (by rfl) ⟨_, _, _, (by rfl), ?b1, (by rfl)⟩) ev_int)) ?b2) (sv_set (EvF.ev (ef_lc (ei_rangeN (ea_cons (ev_var rfl) ea_nil) ?b3) (lc_map (f := fun (i : Nat) => PyData.int (i : Nat)) (g := fun _ => dF ((wsM g b many).getD 0 default)) (fun x hx => ⟨_, _, _, (tg_name (show 5 < 6 by decide) (by decide) (by decide)), (by rfl), et_yes, (ev_ixLn (f := dF) (k := 0) (ev_var rfl) ev_int ?b4), (by rfl)⟩)) (no_own (by rfl)) (by rfl) ?b5)) (show 3 < 6 by decide) (by decide))) ?_
      case b1 => exact ⟨(wsB g b many), 4, rfl, rfl, rfl, by decide, by decide, hw, rfl⟩
      case b2 => exact decide_eq_true (by omega)
      case b3 => omega
      case b4 => show 0 < (wsM g b many).length; rw [wsM_length]; exact hm
      case b5 => exact small_le (by rw [List.length_map, List.length_range]; omega)
      have e : (List.range many).map (fun _ => dF ((wsM g b many).getD 0 default)) = (List.replicate many ((wsM g b many).getD 0 default)).map dF := by
        rw [List.map_const', List.length_range, List.map_replicate]
      rw [e]
      rfl
    · rw [if_neg h]
      refine sv_nx (sv_ifF (et_eq (et_test (ev_eqi (ev_call1 (r := .int (tk (wsB g b many) 4 : Nat)) (b' := dBx (tkB (wsB g b many) 4)) (ea_cons ev_int ea_nil) (by rfl) ⟨_, _, _, (by rfl), ?c1, (by rfl)⟩) ev_int)) ?c2) sv_next) (by rfl)
      case c1 => exact ⟨(wsB g b many), 4, rfl, rfl, rfl, by decide, by decide, hw, rfl⟩
      case c2 => exact decide_eq_false (by omega)
  case s3 =>
    unfold riM riB
    by_cases h : tk (b1M b many g) 4 = 0
    · rw [if_pos h, if_pos h]
      refine sv_nx (sv_set (ev_ifT (et_eq (et_test (ev_eqi (ev_call1 (r := .int (tk (b1M b many g) 4 : Nat)) (b' := dBx (tkB (b1M b many g) 4)) (ea_cons ev_int ea_nil) (by rfl) ⟨_, _, _, (by rfl), ?d1, (by rfl)⟩) ev_int)) ?d2) (ev_tup (ea_cons ev_int (ea_cons ev_int ea_nil)) (small_le (show 2 ≤ 1000 by decide)))) (show 4 < 6 by decide) (by decide)) (by rfl)
      case d1 => exact ⟨(b1M b many g), 4, rfl, rfl, rfl, by decide, by decide, hw1, rfl⟩
      case d2 => exact decide_eq_true (by omega)
    · rw [if_neg h, if_neg h]
      refine sv_nx (sv_set (ev_ifF (et_eq (et_test (ev_eqi (ev_call1 (r := .int (tk (b1M b many g) 4 : Nat)) (b' := dBx (tkB (b1M b many g) 4)) (ea_cons ev_int ea_nil) (by rfl) ⟨_, _, _, (by rfl), ?e1, (by rfl)⟩) ev_int)) ?e2) (ev_call1 (r := dF (worthM (tkB (b1M b many g) 4) g)) (b' := dBx (worthB (tkB (b1M b many g) 4) g)) (ea_cons (ev_var rfl) ea_nil) (by rfl) ⟨_, _, _, (by rfl), ?e3, (by rfl)⟩)) (show 4 < 6 by decide) (by decide)) (by rfl)
      case e1 => exact ⟨(b1M b many g), 4, rfl, rfl, rfl, by decide, by decide, hw1, rfl⟩
      case e2 => exact decide_eq_false (by omega)
      case e3 => exact ⟨tkB (b1M b many g) 4, g, rfl, rfl, rfl, tkB_ok hw1 4, rfl⟩
  case s4 =>
    unfold colM colB dCol ltM ltB
    by_cases h : tk (riB (b1M b many g) g) 2 = 0
    · rw [if_pos h, if_pos h]
      refine (sv_rt (sv_ret (ev_tup (ea_cons (ev_tuple (Ev.rl (ev_var rfl))) (ea_cons (ev_var rfl) (ea_cons (ev_ifT (et_eq (et_test (ev_eqi (ev_call1 (r := .int (tk (riB (b1M b many g) g) 2 : Nat)) (b' := dBx (tkB (riB (b1M b many g) g) 2)) (ea_cons ev_int ea_nil) (by rfl) ⟨_, _, _, (by rfl), ?f1, (by rfl)⟩) ev_int)) ?f2) (ev_call1 (r := dF (worthM (tkB (riB (b1M b many g) g) 2) g)) (b' := dBx (worthB (tkB (riB (b1M b many g) g) 2) g)) (ea_cons (ev_var rfl) ea_nil) (by rfl) ⟨_, _, _, (by rfl), ?f3, (by rfl)⟩)) ea_nil))) (small_le (show 3 ≤ 1000 by decide)))) rfl)
      case f1 => exact ⟨(riB (b1M b many g) g), 2, rfl, rfl, rfl, by decide, by decide, hw2, rfl⟩
      case f2 => exact decide_eq_true (by omega)
      case f3 => exact ⟨tkB (riB (b1M b many g) g) 2, g, rfl, rfl, rfl, tkB_ok hw2 2, rfl⟩
    · rw [if_neg h, if_neg h]
      refine (sv_rt (sv_ret (ev_tup (ea_cons (ev_tuple (Ev.rl (ev_var rfl))) (ea_cons (ev_var rfl) (ea_cons (ev_ifF (et_eq (et_test (ev_eqi (ev_call1 (r := .int (tk (riB (b1M b many g) g) 2 : Nat)) (b' := dBx (tkB (riB (b1M b many g) g) 2)) (ea_cons ev_int ea_nil) (by rfl) ⟨_, _, _, (by rfl), ?h1, (by rfl)⟩) ev_int)) ?h2) (ev_tup (ea_cons ev_int (ea_cons ev_int ea_nil)) (small_le (show 2 ≤ 1000 by decide)))) ea_nil))) (small_le (show 3 ≤ 1000 by decide)))) rfl)
      case h1 => exact ⟨(riB (b1M b many g) g), 2, rfl, rfl, rfl, by decide, by decide, hw2, rfl⟩
      case h2 => exact decide_eq_false (by omega)

end
end K55

end
section
set_option Elab.async false
set_option linter.all false
set_option maxRecDepth 100000
set_option maxHeartbeats 1000000
set_option exponentiation.threshold 20000
namespace K55
open PySem PySem.Spec PyProof.Rows L2 RZ EV FR LW
section
variable [KS] {P : Program} {w : World} {mg : Str → Option Value} {base : Heap}
theorem ok_law {f0 : Addr} {fd0 : FuncData} (T : Fun KS.K "law" "law" s_law f0 fd0) (m_range : mg "range" = none) (m_tuple : mg "tuple" = none) (C__law_box : CalF P w KS.K mg base 1 "_law_box" ["script", "k"] G__law_box) (C_best_shares : Cal P w KS.K mg base 5 "best_shares" ["columns", "many"] G_best_shares) (C__law_shown : Cal P w KS.K mg base 5 "_law_shown" ["columns", "many", "told"] G__law_shown) (C__law_take : Cal P w KS.K mg base 1 "_law_take" ["box", "many"] G__law_take) (C__law_column : Cal P w KS.K mg base 4 "_law_column" ["box", "many", "great"] G__law_column) : FnOk P w KS.K mg base CX0 6 f0 fd0 ["script"] (spG G_law) := by
  refine fn_law T sc_law (fun ds r h => by obtain ⟨ns, rfl, _⟩ := h; rfl) fun f cdv A outer s H E hr => ⟨_, (pss_cons (ps_for PassesOwn.never rfl (pi_range1 (by rfl) m_range (pa_cons pe_int pa_nil)) (pg_name (i := 1) sc_law.nd rfl (Or.inl rfl)) (pss_cons (ps_set (i := 2) sc_law.nd rfl (Or.inr rfl) (calFK (K := KS.K) C__law_box rfl rfl rfl rfl rfl (hr.mono (by decide)) (by rfl) (pa_cons (pv 0) (pa_cons (pv 1) pa_nil))))
  (pss_cons (ps_asg (pe_tup (pa_cons (pe_op (addK (K := KS.K) rfl) pe_int (calK (K := KS.K) C__law_take rfl rfl rfl rfl rfl (hr.mono (by decide)) (by rfl) (pa_cons (pv 2) (pa_cons pe_int pa_nil)))) (pa_cons (pe_cmpR (eqK (K := KS.K) rfl hr.units) (calK (K := KS.K) C__law_take rfl rfl rfl rfl rfl (hr.mono (by decide)) (by rfl) (pa_cons (pv 2) (pa_cons pe_int pa_nil))) pe_int (nomark _)) pa_nil))) (pg_tupK (K := KS.K) (n := 2) rfl rfl (pgs_cons (pg_name (i := 3) sc_law.nd rfl (Or.inr rfl)) (pgs_cons (pg_name (i := 4) sc_law.nd rfl (Or.inr rfl)) pgs_nil))))
  (pss_cons (ps_set (i := 5) sc_law.nd rfl (Or.inl rfl) (pe_ifExp (PW.pt (pw_and (pt_val (pv 4)) (pw_and1 (pt_cmpR (eqK (K := KS.K) rfl hr.units) (calK (K := KS.K) C__law_take rfl rfl rfl rfl rfl (hr.mono (by decide)) (by rfl) (pa_cons (pv 2) (pa_cons pe_int pa_nil))) pe_int (nomark _))))) (calK (K := KS.K) C__law_take rfl rfl rfl rfl rfl (hr.mono (by decide)) (by rfl) (pa_cons (pv 2) (pa_cons pe_int pa_nil))) (calK (K := KS.K) C__law_take rfl rfl rfl rfl rfl (hr.mono (by decide)) (by rfl) (pa_cons (pv 2) (pa_cons pe_int pa_nil)))))
  (pss_cons (ps_set (i := 6) sc_law.nd rfl (Or.inl rfl) (pe_callTy (tupleK (K := KS.K) rfl) (by rfl) m_tuple (by decide +kernel) (pa_cons (pe_lc (own := [("turn", 11)]) rfl sc_law.nd (pi_range1 (by rfl) m_range (pa_cons (pv 5) pa_nil)) (blkOk_by (own := [("turn", 11)]) (N := ["script", "k", "box", "many", "great", "count", "columns", "told", "kind", "other", "back", "turn"]) (sc := defScope s_law) (by decide +kernel))
   (fun _ _ _ _ _ => (pg_name (i := 11) sc_law.nd rfl (Or.inl rfl))) (fun _ _ _ _ _ => pts_nil)
   (fun _ _ _ _ _ => (calK (K := KS.K) C__law_column rfl rfl rfl rfl rfl (hr.mono (by decide)) (by rfl) (pa_cons (pv 2) (pa_cons (pv 3) (pa_cons (pv 4) pa_nil)))))) pa_nil)))
  (pss_cons (ps_set (i := 7) sc_law.nd rfl (Or.inl rfl) (calK (K := KS.K) C_best_shares rfl rfl rfl rfl rfl (hr.mono (by decide)) (by rfl) (pa_cons (pv 6) (pa_cons (pv 3) pa_nil))))
  (pss_cons (ps_set (i := 8) sc_law.nd rfl (Or.inl rfl) (calK (K := KS.K) C__law_shown rfl rfl rfl rfl rfl (hr.mono (by decide)) (by rfl) (pa_cons (pv 6) (pa_cons (pv 3) (pa_cons (pv 7) pa_nil)))))
  (pss_cons (ps_if (pt_cmpR (eqK (K := KS.K) rfl hr.units) (pv 8) pe_str (nomark _)) (pss_one (ps_ret pe_bl)) pss_nil)
  (pss_one (ps_if (PW.pt (pw_and (pt_cmpR op_gt (pv 5) pe_int (nomark _)) (pw_and1 (pt_cmpR op_lt (pv 5) pe_int (nomark _))))) (pss_cons (ps_set (i := 9) sc_law.nd rfl (Or.inl rfl) (pe_op (addK (K := KS.K) rfl) (revK (K := KS.K) rfl (pv 6)) (pe_tup (pa_cons (pe_ix (ixK (K := KS.K) rfl) (pv 6) (calK (K := KS.K) C__law_take rfl rfl rfl rfl rfl (hr.mono (by decide)) (by rfl) (pa_cons (pv 2) (pa_cons (pv 5) pa_nil))) (fun _ _ => rfl)) pa_nil))))
  (pss_cons (ps_set (i := 10) sc_law.nd rfl (Or.inl rfl) (calK (K := KS.K) C_best_shares rfl rfl rfl rfl rfl (hr.mono (by decide)) (by rfl) (pa_cons (pv 9) (pa_cons (pv 3) pa_nil))))
  (pss_one (ps_if (PW.pt (pw_or (pt_cmpR (neK (K := KS.K) rfl hr.units) (calK (K := KS.K) C__law_shown rfl rfl rfl rfl rfl (hr.mono (by decide)) (by rfl) (pa_cons (pv 9) (pa_cons (pv 3) (pa_cons (pv 10) pa_nil)))) (pv 8) (nomark _)) (pw_or1 (pt_cmpR (neK (K := KS.K) rfl hr.units) (pe_ix (ixK (K := KS.K) rfl) (pv 10) pe_int (fun _ _ => rfl)) (pe_ix (ixK (K := KS.K) rfl) (pv 7) pe_int (fun _ _ => rfl)) (nomark _))))) (pss_one (ps_ret pe_bl)) pss_nil)))) pss_nil))))))))))
  (pss_one (ps_ret pe_bl))), ?_⟩

  rintro ds r ⟨ns, rfl, rfl⟩
  refine (sv_for3 (ts := [1]) (RB := (fun s => [.d (.dict [(.list (ns.map .int), .none)]), .no, s, .no, .no, .no, .no, .no, .no, .no, .no, .no])) (s0 := .no) (ei_rangeN (ea_cons ev_int ea_nil) (by decide)) (fun k s hk => ?bd)).elim fun xs h => ⟨_, sv_cons h (sv_rt (sv_ret ev_bl) rfl)⟩
  case bd =>
    obtain ⟨b0, e0⟩ : ∃ b0, b0 = box0 ns k := ⟨_, rfl⟩
    obtain ⟨m, em⟩ : ∃ m, m = tk b0 6 := ⟨_, rfl⟩
    obtain ⟨b1, e1⟩ : ∃ b1, b1 = tkB b0 6 := ⟨_, rfl⟩
    obtain ⟨b2, e2⟩ : ∃ b2, b2 = tkB b1 3 := ⟨_, rfl⟩
    obtain ⟨gr, eg⟩ : ∃ gr, gr = decide ((tk b1 3 : Int) = 0) := ⟨_, rfl⟩
    obtain ⟨n, en⟩ : ∃ n, n = cntM b2 gr := ⟨_, rfl⟩
    obtain ⟨b3, e3⟩ : ∃ b3, b3 = cntB b2 gr := ⟨_, rfl⟩
    obtain ⟨cols, ec⟩ : ∃ cols, cols = colsM (m + 1) gr b3 n := ⟨_, rfl⟩
    obtain ⟨b4, e4⟩ : ∃ b4, b4 = colsB (m + 1) gr b3 n := ⟨_, rfl⟩
    have hb0 : BxOk b0 := by rw [e0]; exact box0_ok ns k
    have hb1 : BxOk b1 := by rw [e1]; exact tkB_ok hb0 6
    have hb2 : BxOk b2 := by rw [e2]; exact tkB_ok hb1 3
    have hb3 : BxOk b3 := by rw [e3]; exact cntB_ok hb2 gr
    have hb4 : BxOk b4 := by rw [e4]; exact colsB_ok (m + 1) gr n hb3
    have hm : m < 6 := by rw [em]; exact tk_lt b0 (by decide)
    have hm90 : m + 1 ≤ 90 := by omega
    have hn40 : n ≤ 40 := by rw [en]; exact cntM_lt b2 gr
    have hcl : cols.length = n := by rw [ec]; exact colsM_length (m + 1) gr n b3
    have hD : ∀ c ∈ cols, DrCol (m + 1) c := by rw [ec]; exact colsM_ok (Nat.succ_pos m) gr n b3
    obtain ⟨d, hB, hT⟩ := best (cols := cols) (m := m) (by omega) (by omega) hD
    obtain ⟨other, eo⟩ : ∃ other, other = cols.reverse ++ [cols.getD (tk b4 n) default] := ⟨_, rfl⟩
    have hsub1 : ∀ c ∈ cols, c ∈ other := fun c hc => by rw [eo]; exact List.mem_append_left _ (List.mem_reverse.mpr hc)
    have hsub2 : 0 < n ∧ n < 40 → ∀ c ∈ other, c ∈ cols := fun hn c hc => by
      rw [eo] at hc
      rcases List.mem_append.mp hc with h | h
      · exact List.mem_reverse.mp h
      · rw [List.mem_singleton.mp h]
        exact FR.getD_mem (by rw [hcl]; exact tk_lt b4 hn.1)
    have hol : other.length = n + 1 := by rw [eo, List.length_append, List.length_reverse, hcl]; rfl
    have hGo : ∀ (cs : List Col) (x : PyData), cs.length ≤ 100 → (∀ c ∈ cs, DrCol (m + 1) c) → Best cs (m + 1) x → (∃ (cols : List Col) (many w m' : Nat) (T : Tab) (u : Int) (bs : List Int) (q : Option Nat) (n : Nat), [PyData.tuple (cs.map dCol), PyData.int ((m + 1 : Nat))] = [.tuple (cols.map dCol), .int many] ∧ 1 ≤ many ∧ many ≤ 90 ∧ cols.length ≤ 100 ∧ (∀ c ∈ cols, c.g.length = many) ∧ (∀ c ∈ cols, c.g ≠ [] ∧ c.g.length ≤ 900 ∧ ∃ M, Fit c.all M 4000) ∧ FR.Run w m' (firstT (cols.map Col.wc) many) 1 (bases0 (cols.map Col.wc).length many) T u bs q n ∧ Fin5 w m' many (cols.map Col.wc) T u bs q ∧ x = dBest (cols.map Col.wc) many T u bs q) := fun cs x hl hd ⟨w, mm, T, u, bs, q, nn, h1, h2, h3⟩ => by
      refine ⟨cs, m + 1, w, mm, T, u, bs, q, nn, rfl, by omega, hm90, hl, fun c hc => (hd c hc).len, fun c hc => ⟨fun z => ?_, ?_, _, SL.Fit.up (hd c hc).fit (by decide)⟩, h1, h2, h3⟩
      · have := (hd c hc).len
        rw [z] at this
        simp at this
      · rw [(hd c hc).len]
        omega
    have ho : PyData.tuple ((cols.map dCol).reverse ++ [dCol (cols.getD (tk b4 n) default)]) = PyData.tuple (other.map dCol) := by
      rw [eo, List.map_append, List.map_reverse]
      rfl
    rcases ends (by omega) hD hT with ⟨c, sh, ld, ed, hK, hO⟩ | ⟨ld, ed, hK, hO⟩
    · subst ed
      refine ⟨_, dBx (if 0 < n ∧ n < 40 then tkB b4 n else b4), (tg_name (show 1 < 12 by decide) (by decide) (by decide)), sv_post (ρ' := [.d (.dict [(.list (ns.map .int), .none)]), .d (.int (k : Nat)), .own (dBx (if 0 < n ∧ n < 40 then tkB b4 n else b4)), .d (.int ((m + 1 : Nat))), .d (.bool gr), .d (.int (n : Nat)), .d (.tuple (cols.map dCol)), .d (dKept c sh ld), .d (.str "kept"), .no, .no, .no]) (sv_cons (sv_nx (sv_setO (ef_call (xs := dBx b0) (ea_cons (ev_var rfl) (ea_cons (ev_var rfl) ea_nil)) ?a1) (show 2 < 12 by decide) (by decide)) (ρ2 := [.d (.dict [(.list (ns.map .int), .none)]), .d (.int (k : Nat)), .own (dBx b0), .no, .no, .no, .no, .no, .no, .no, .no, .no]) (by rw [e0]; rfl)) (sv_cons (sv_nx (sv_asg (ts := [3, 4]) (ev_tup (ea_cons (ev_eq (ev_add ev_int (ev_call1 (r := .int (tk b0 6 : Nat)) (b' := dBx b1) (ea_cons ev_int ea_nil) (by rfl) ⟨_, _, _, (by rfl), ?b1, (by rfl)⟩)) ?be) (ea_cons (ev_eqi (ev_call1 (r := .int (tk b1 3 : Nat)) (b' := dBx b2) (ea_cons ev_int ea_nil) (by rfl) ⟨_, _, _, (by rfl), ?b2, (by rfl)⟩) ev_int) ea_nil)) (small_le (show 2 ≤ 1000 by decide))) (tg_tup (tgs_cons (tg_name (show 3 < 12 by decide) (by decide) (by decide)) (tgs_cons (tg_name (show 4 < 12 by decide) (by decide) (by decide)) tgs_nil)) (by rfl))) (ρ2 := [.d (.dict [(.list (ns.map .int), .none)]), .d (.int (k : Nat)), .own (dBx b2), .d (.int ((m + 1 : Nat))), .d (.bool gr), .no, .no, .no, .no, .no, .no, .no]) (by rw [eg]; rfl)) (sv_cons (ρ1 := [.d (.dict [(.list (ns.map .int), .none)]), .d (.int (k : Nat)), .own (dBx b3), .d (.int ((m + 1 : Nat))), .d (.bool gr), .d (.int (n : Nat)), .no, .no, .no, .no, .no, .no]) ?s2 (sv_cons (sv_nx (sv_set (ev_tuple (Ev.rl (EvF.ev (ef_lc (ei_rangeN (ea_cons (ev_var rfl) ea_nil) ?f1) (lc_cols (many := m + 1) (g := gr) (R := fun c => [.d (.dict [(.list (ns.map .int), .none)]), .d (.int (k : Nat)), .own (dBx c), .d (.int ((m + 1 : Nat))), .d (.bool gr), .d (.int (n : Nat)), .no, .no, .no, .no, .no, .no]) hb3 fun c x hc => ⟨_, _, _, (tg_name (show 11 < 12 by decide) (by decide) (by decide)), (by rfl), et_yes, (ev_call1 (r := dCol (colM c (m + 1) gr)) (b' := dBx (colB c (m + 1) gr)) (ea_cons (ev_var rfl) (ea_cons (ev_var rfl) ea_nil)) (by rfl) ⟨_, _, _, (by rfl), ⟨c, m + 1, gr, rfl, rfl, rfl, Nat.succ_pos m, hm90, hc, rfl⟩, (by rfl)⟩), (by rfl)⟩) (no_own (by rfl)) (by rfl) ?f3)))) (show 6 < 12 by decide) (by decide)) (ρ2 := [.d (.dict [(.list (ns.map .int), .none)]), .d (.int (k : Nat)), .own (dBx b4), .d (.int ((m + 1 : Nat))), .d (.bool gr), .d (.int (n : Nat)), .d (.tuple (cols.map dCol)), .no, .no, .no, .no, .no]) (by rw [ec, e4]; rfl)) (sv_cons (sv_nx (sv_set (ev_call (r := dKept c sh ld) (ea_cons (ev_var rfl) (ea_cons (ev_var rfl) ea_nil)) ⟨_, (by rfl), ?g1, (by rfl)⟩) (show 7 < 12 by decide) (by decide)) (ρ2 := [.d (.dict [(.list (ns.map .int), .none)]), .d (.int (k : Nat)), .own (dBx b4), .d (.int ((m + 1 : Nat))), .d (.bool gr), .d (.int (n : Nat)), .d (.tuple (cols.map dCol)), .d (dKept c sh ld), .no, .no, .no, .no]) (by rfl)) (sv_cons (sv_nx (sv_set (ev_call (r := .str "kept") (ea_cons (ev_var rfl) (ea_cons (ev_var rfl) (ea_cons (ev_var rfl) ea_nil))) ⟨_, (by rfl), ?xh1, (by rfl)⟩) (show 8 < 12 by decide) (by decide)) (ρ2 := [.d (.dict [(.list (ns.map .int), .none)]), .d (.int (k : Nat)), .own (dBx b4), .d (.int ((m + 1 : Nat))), .d (.bool gr), .d (.int (n : Nat)), .d (.tuple (cols.map dCol)), .d (dKept c sh ld), .d (.str "kept"), .no, .no, .no]) (by rfl)) (sv_cons (sv_ifF (et_eq (et_test (ev_eqs (ev_var rfl) ev_str)) ?xi1) sv_next) ?s7))))))) (by repeat' (first | exact Wk.nil | apply Wk.same | apply Wk.drop))⟩
      case a1 => exact ⟨ns, k, rfl, hk, by rw [e0]⟩
      case b1 => rw [e1]; exact ⟨b0, 6, rfl, rfl, rfl, by decide, by decide, hb0, rfl⟩
      case be => rw [em]; exact congrArg PyData.int (by omega)
      case b2 => rw [e2]; exact ⟨b1, 3, rfl, rfl, rfl, by decide, by decide, hb1, rfl⟩
      case s2 =>
        rw [en, e3]
        unfold cntM cntB
        cases gr with
        | false => exact sv_nx (sv_set (ev_ifF (et_andF (et_b (ev_var rfl))) (ev_call1 (r := .int (tk b2 9 : Nat)) (b' := dBx (tkB b2 9)) (ea_cons ev_int ea_nil) (by rfl) ⟨_, _, _, (by rfl), ⟨b2, 9, rfl, rfl, rfl, by decide, by decide, hb2, rfl⟩, (by rfl)⟩)) (show 5 < 12 by decide) (by decide)) (by rfl)
        | true =>
          rw [if_pos rfl, if_pos rfl]
          by_cases h : tk b2 3 = 0
          · rw [if_pos h, if_pos h]
            exact sv_nx (sv_set (ev_ifT (et_andT (et_b (ev_var rfl)) (et_eq (et_test (ev_eqi (ev_call1 (r := .int (tk b2 3 : Nat)) (b' := dBx (tkB b2 3)) (ea_cons ev_int ea_nil) (by rfl) ⟨_, _, _, (by rfl), ⟨b2, 3, rfl, rfl, rfl, by decide, by decide, hb2, rfl⟩, (by rfl)⟩) ev_int)) (decide_eq_true (by omega)))) (ev_call1 (r := .int (tk (tkB b2 3) 41 : Nat)) (b' := dBx (tkB (tkB b2 3) 41)) (ea_cons ev_int ea_nil) (by rfl) ⟨_, _, _, (by rfl), ⟨(tkB b2 3), 41, rfl, rfl, rfl, by decide, by decide, (tkB_ok hb2 3), rfl⟩, (by rfl)⟩)) (show 5 < 12 by decide) (by decide)) (by rfl)
          · rw [if_neg h, if_neg h]
            exact sv_nx (sv_set (ev_ifF (et_andT (et_b (ev_var rfl)) (et_eq (et_test (ev_eqi (ev_call1 (r := .int (tk b2 3 : Nat)) (b' := dBx (tkB b2 3)) (ea_cons ev_int ea_nil) (by rfl) ⟨_, _, _, (by rfl), ⟨b2, 3, rfl, rfl, rfl, by decide, by decide, hb2, rfl⟩, (by rfl)⟩) ev_int)) (decide_eq_false (by omega)))) (ev_call1 (r := .int (tk (tkB b2 3) 9 : Nat)) (b' := dBx (tkB (tkB b2 3) 9)) (ea_cons ev_int ea_nil) (by rfl) ⟨_, _, _, (by rfl), ⟨(tkB b2 3), 9, rfl, rfl, rfl, by decide, by decide, (tkB_ok hb2 3), rfl⟩, (by rfl)⟩)) (show 5 < 12 by decide) (by decide)) (by rfl)
      case f1 => omega
      case f3 => exact small_le (by rw [List.length_map, List.length_range]; omega)
      case g1 => exact hGo cols _ (by omega) hD hB
      case xh1 => exact ⟨cols, m + 1, _, _, rfl, .kept hK, by omega, hm90, hD, rfl⟩
      case xi1 => rfl
      case s7 =>
        by_cases hn : 0 < n ∧ n < 40
        · obtain ⟨sh', ld', hB', hK'⟩ := hO other (by omega) hsub1 (hsub2 hn)
          rw [if_pos hn]
          refine sv_post (sv_ifT (et_eq (et_and (et_test (ev_op0b (ev_var rfl) ev_int)) (fun h => (et_test (ev_op0b (ev_var rfl) ev_int)))) ?xj1) (sv_cons (sv_set (ev_eq (ev_catT (ev_revT (ev_var rfl)) (ev_tup (ea_cons (ev_ixTn (f := dCol) (ev_var rfl) (ev_call1 (r := .int (tk b4 n : Nat)) (b' := dBx (tkB b4 n)) (ea_cons (ev_var rfl) ea_nil) (by rfl) ⟨_, _, _, (by rfl), ?xj2, (by rfl)⟩) ?xj3) ea_nil) (small_le (show 1 ≤ 1000 by decide))) ?xj4 ?xj5) ho) (show 9 < 12 by decide) (by decide))
   (sv_cons (sv_set (ev_call (r := dKept c sh' ld') (ea_cons (ev_var rfl) (ea_cons (ev_var rfl) ea_nil)) ⟨_, (by rfl), ?xj6, (by rfl)⟩) (show 10 < 12 by decide) (by decide))
   (sv_ifF (et_eq (et_or (et_test (ev_nes (ev_call (r := .str "kept") (ea_cons (ev_var rfl) (ea_cons (ev_var rfl) (ea_cons (ev_var rfl) ea_nil))) ⟨_, (by rfl), ?xj7, (by rfl)⟩) (ev_var rfl))) (fun h => (et_test (ev_ned (ev_ixT (ev_var rfl) ev_int (by rfl)) (ev_ixT (ev_var rfl) ev_int (by rfl)) ?xj8 ?xj9 ?xj10 ?xj11)))) ?xj12) sv_next)))) (by repeat' (first | exact Wk.nil | apply Wk.same | apply Wk.drop))
          case xj1 =>
            rw [decide_eq_true (show (0 : Int) < (n : Nat) by omega), decide_eq_true (show ((n : Nat) : Int) < 40 by omega)]
            rfl
          case xj2 => exact ⟨b4, n, rfl, rfl, rfl, hn.1, by omega, hb4, rfl⟩
          case xj3 => show tk b4 n < cols.length; rw [hcl]; exact tk_lt b4 hn.1
          case xj4 =>
            intro z
            have := congrArg List.length z
            rw [List.length_reverse, List.length_map, hcl, List.length_nil] at this
            omega
          case xj5 => exact small_le (by rw [List.length_reverse, List.length_map]; show cols.length + 1 ≤ 1000; omega)
          case xj6 => exact hGo other _ (by omega) (fun c hc => hD c (hsub2 hn c hc)) hB'
          case xj7 => exact ⟨other, m + 1, _, _, rfl, .kept hK', by omega, hm90, fun c hc => hD c (hsub2 hn c hc), rfl⟩
          all_goals first | rfl | (rw [eqv_same]; rfl)
        · rw [if_neg hn]
          refine sv_post (sv_ifF (et_eq (et_and (et_test (ev_op0b (ev_var rfl) ev_int)) (fun h => (et_test (ev_op0b (ev_var rfl) ev_int)))) ?xk1) sv_next) (by repeat' (first | exact Wk.nil | apply Wk.same | apply Wk.drop))
          case xk1 =>
            by_cases h0 : 0 < n
            · rw [decide_eq_false (show ¬ ((n : Nat) : Int) < 40 by omega)]
              exact Bool.and_false _
            · rw [decide_eq_false (show ¬ (0 : Int) < (n : Nat) by omega)]
              rfl
    · subst ed
      refine ⟨_, dBx (if 0 < n ∧ n < 40 then tkB b4 n else b4), (tg_name (show 1 < 12 by decide) (by decide) (by decide)), sv_post (ρ' := [.d (.dict [(.list (ns.map .int), .none)]), .d (.int (k : Nat)), .own (dBx (if 0 < n ∧ n < 40 then tkB b4 n else b4)), .d (.int ((m + 1 : Nat))), .d (.bool gr), .d (.int (n : Nat)), .d (.tuple (cols.map dCol)), .d (dLost ld), .d (.str "lost"), .no, .no, .no]) (sv_cons (sv_nx (sv_setO (ef_call (xs := dBx b0) (ea_cons (ev_var rfl) (ea_cons (ev_var rfl) ea_nil)) ?a1) (show 2 < 12 by decide) (by decide)) (ρ2 := [.d (.dict [(.list (ns.map .int), .none)]), .d (.int (k : Nat)), .own (dBx b0), .no, .no, .no, .no, .no, .no, .no, .no, .no]) (by rw [e0]; rfl)) (sv_cons (sv_nx (sv_asg (ts := [3, 4]) (ev_tup (ea_cons (ev_eq (ev_add ev_int (ev_call1 (r := .int (tk b0 6 : Nat)) (b' := dBx b1) (ea_cons ev_int ea_nil) (by rfl) ⟨_, _, _, (by rfl), ?b1, (by rfl)⟩)) ?be) (ea_cons (ev_eqi (ev_call1 (r := .int (tk b1 3 : Nat)) (b' := dBx b2) (ea_cons ev_int ea_nil) (by rfl) ⟨_, _, _, (by rfl), ?b2, (by rfl)⟩) ev_int) ea_nil)) (small_le (show 2 ≤ 1000 by decide))) (tg_tup (tgs_cons (tg_name (show 3 < 12 by decide) (by decide) (by decide)) (tgs_cons (tg_name (show 4 < 12 by decide) (by decide) (by decide)) tgs_nil)) (by rfl))) (ρ2 := [.d (.dict [(.list (ns.map .int), .none)]), .d (.int (k : Nat)), .own (dBx b2), .d (.int ((m + 1 : Nat))), .d (.bool gr), .no, .no, .no, .no, .no, .no, .no]) (by rw [eg]; rfl)) (sv_cons (ρ1 := [.d (.dict [(.list (ns.map .int), .none)]), .d (.int (k : Nat)), .own (dBx b3), .d (.int ((m + 1 : Nat))), .d (.bool gr), .d (.int (n : Nat)), .no, .no, .no, .no, .no, .no]) ?s2 (sv_cons (sv_nx (sv_set (ev_tuple (Ev.rl (EvF.ev (ef_lc (ei_rangeN (ea_cons (ev_var rfl) ea_nil) ?f1) (lc_cols (many := m + 1) (g := gr) (R := fun c => [.d (.dict [(.list (ns.map .int), .none)]), .d (.int (k : Nat)), .own (dBx c), .d (.int ((m + 1 : Nat))), .d (.bool gr), .d (.int (n : Nat)), .no, .no, .no, .no, .no, .no]) hb3 fun c x hc => ⟨_, _, _, (tg_name (show 11 < 12 by decide) (by decide) (by decide)), (by rfl), et_yes, (ev_call1 (r := dCol (colM c (m + 1) gr)) (b' := dBx (colB c (m + 1) gr)) (ea_cons (ev_var rfl) (ea_cons (ev_var rfl) ea_nil)) (by rfl) ⟨_, _, _, (by rfl), ⟨c, m + 1, gr, rfl, rfl, rfl, Nat.succ_pos m, hm90, hc, rfl⟩, (by rfl)⟩), (by rfl)⟩) (no_own (by rfl)) (by rfl) ?f3)))) (show 6 < 12 by decide) (by decide)) (ρ2 := [.d (.dict [(.list (ns.map .int), .none)]), .d (.int (k : Nat)), .own (dBx b4), .d (.int ((m + 1 : Nat))), .d (.bool gr), .d (.int (n : Nat)), .d (.tuple (cols.map dCol)), .no, .no, .no, .no, .no]) (by rw [ec, e4]; rfl)) (sv_cons (sv_nx (sv_set (ev_call (r := dLost ld) (ea_cons (ev_var rfl) (ea_cons (ev_var rfl) ea_nil)) ⟨_, (by rfl), ?g1, (by rfl)⟩) (show 7 < 12 by decide) (by decide)) (ρ2 := [.d (.dict [(.list (ns.map .int), .none)]), .d (.int (k : Nat)), .own (dBx b4), .d (.int ((m + 1 : Nat))), .d (.bool gr), .d (.int (n : Nat)), .d (.tuple (cols.map dCol)), .d (dLost ld), .no, .no, .no, .no]) (by rfl)) (sv_cons (sv_nx (sv_set (ev_call (r := .str "lost") (ea_cons (ev_var rfl) (ea_cons (ev_var rfl) (ea_cons (ev_var rfl) ea_nil))) ⟨_, (by rfl), ?xh1, (by rfl)⟩) (show 8 < 12 by decide) (by decide)) (ρ2 := [.d (.dict [(.list (ns.map .int), .none)]), .d (.int (k : Nat)), .own (dBx b4), .d (.int ((m + 1 : Nat))), .d (.bool gr), .d (.int (n : Nat)), .d (.tuple (cols.map dCol)), .d (dLost ld), .d (.str "lost"), .no, .no, .no]) (by rfl)) (sv_cons (sv_ifF (et_eq (et_test (ev_eqs (ev_var rfl) ev_str)) ?xi1) sv_next) ?s7))))))) (by repeat' (first | exact Wk.nil | apply Wk.same | apply Wk.drop))⟩
      case a1 => exact ⟨ns, k, rfl, hk, by rw [e0]⟩
      case b1 => rw [e1]; exact ⟨b0, 6, rfl, rfl, rfl, by decide, by decide, hb0, rfl⟩
      case be => rw [em]; exact congrArg PyData.int (by omega)
      case b2 => rw [e2]; exact ⟨b1, 3, rfl, rfl, rfl, by decide, by decide, hb1, rfl⟩
      case s2 =>
        rw [en, e3]
        unfold cntM cntB
        cases gr with
        | false => exact sv_nx (sv_set (ev_ifF (et_andF (et_b (ev_var rfl))) (ev_call1 (r := .int (tk b2 9 : Nat)) (b' := dBx (tkB b2 9)) (ea_cons ev_int ea_nil) (by rfl) ⟨_, _, _, (by rfl), ⟨b2, 9, rfl, rfl, rfl, by decide, by decide, hb2, rfl⟩, (by rfl)⟩)) (show 5 < 12 by decide) (by decide)) (by rfl)
        | true =>
          rw [if_pos rfl, if_pos rfl]
          by_cases h : tk b2 3 = 0
          · rw [if_pos h, if_pos h]
            exact sv_nx (sv_set (ev_ifT (et_andT (et_b (ev_var rfl)) (et_eq (et_test (ev_eqi (ev_call1 (r := .int (tk b2 3 : Nat)) (b' := dBx (tkB b2 3)) (ea_cons ev_int ea_nil) (by rfl) ⟨_, _, _, (by rfl), ⟨b2, 3, rfl, rfl, rfl, by decide, by decide, hb2, rfl⟩, (by rfl)⟩) ev_int)) (decide_eq_true (by omega)))) (ev_call1 (r := .int (tk (tkB b2 3) 41 : Nat)) (b' := dBx (tkB (tkB b2 3) 41)) (ea_cons ev_int ea_nil) (by rfl) ⟨_, _, _, (by rfl), ⟨(tkB b2 3), 41, rfl, rfl, rfl, by decide, by decide, (tkB_ok hb2 3), rfl⟩, (by rfl)⟩)) (show 5 < 12 by decide) (by decide)) (by rfl)
          · rw [if_neg h, if_neg h]
            exact sv_nx (sv_set (ev_ifF (et_andT (et_b (ev_var rfl)) (et_eq (et_test (ev_eqi (ev_call1 (r := .int (tk b2 3 : Nat)) (b' := dBx (tkB b2 3)) (ea_cons ev_int ea_nil) (by rfl) ⟨_, _, _, (by rfl), ⟨b2, 3, rfl, rfl, rfl, by decide, by decide, hb2, rfl⟩, (by rfl)⟩) ev_int)) (decide_eq_false (by omega)))) (ev_call1 (r := .int (tk (tkB b2 3) 9 : Nat)) (b' := dBx (tkB (tkB b2 3) 9)) (ea_cons ev_int ea_nil) (by rfl) ⟨_, _, _, (by rfl), ⟨(tkB b2 3), 9, rfl, rfl, rfl, by decide, by decide, (tkB_ok hb2 3), rfl⟩, (by rfl)⟩)) (show 5 < 12 by decide) (by decide)) (by rfl)
      case f1 => omega
      case f3 => exact small_le (by rw [List.length_map, List.length_range]; omega)
      case g1 => exact hGo cols _ (by omega) hD hB
      case xh1 => exact ⟨cols, m + 1, _, _, rfl, .lost hK, by omega, hm90, hD, rfl⟩
      case xi1 => rfl
      case s7 =>
        by_cases hn : 0 < n ∧ n < 40
        · obtain ⟨ld', hB', hK'⟩ := hO other (by omega) hsub1 (hsub2 hn)
          rw [if_pos hn]
          refine sv_post (sv_ifT (et_eq (et_and (et_test (ev_op0b (ev_var rfl) ev_int)) (fun h => (et_test (ev_op0b (ev_var rfl) ev_int)))) ?xj1) (sv_cons (sv_set (ev_eq (ev_catT (ev_revT (ev_var rfl)) (ev_tup (ea_cons (ev_ixTn (f := dCol) (ev_var rfl) (ev_call1 (r := .int (tk b4 n : Nat)) (b' := dBx (tkB b4 n)) (ea_cons (ev_var rfl) ea_nil) (by rfl) ⟨_, _, _, (by rfl), ?xj2, (by rfl)⟩) ?xj3) ea_nil) (small_le (show 1 ≤ 1000 by decide))) ?xj4 ?xj5) ho) (show 9 < 12 by decide) (by decide))
   (sv_cons (sv_set (ev_call (r := dLost ld') (ea_cons (ev_var rfl) (ea_cons (ev_var rfl) ea_nil)) ⟨_, (by rfl), ?xj6, (by rfl)⟩) (show 10 < 12 by decide) (by decide))
   (sv_ifF (et_eq (et_or (et_test (ev_nes (ev_call (r := .str "lost") (ea_cons (ev_var rfl) (ea_cons (ev_var rfl) (ea_cons (ev_var rfl) ea_nil))) ⟨_, (by rfl), ?xj7, (by rfl)⟩) (ev_var rfl))) (fun h => (et_test (ev_neNN (ev_ixT (ev_var rfl) ev_int (by rfl)) (ev_ixT (ev_var rfl) ev_int (by rfl)))))) ?xj12) sv_next)))) (by repeat' (first | exact Wk.nil | apply Wk.same | apply Wk.drop))
          case xj1 =>
            rw [decide_eq_true (show (0 : Int) < (n : Nat) by omega), decide_eq_true (show ((n : Nat) : Int) < 40 by omega)]
            rfl
          case xj2 => exact ⟨b4, n, rfl, rfl, rfl, hn.1, by omega, hb4, rfl⟩
          case xj3 => show tk b4 n < cols.length; rw [hcl]; exact tk_lt b4 hn.1
          case xj4 =>
            intro z
            have := congrArg List.length z
            rw [List.length_reverse, List.length_map, hcl, List.length_nil] at this
            omega
          case xj5 => exact small_le (by rw [List.length_reverse, List.length_map]; show cols.length + 1 ≤ 1000; omega)
          case xj6 => exact hGo other _ (by omega) (fun c hc => hD c (hsub2 hn c hc)) hB'
          case xj7 => exact ⟨other, m + 1, _, _, rfl, .lost hK', by omega, hm90, fun c hc => hD c (hsub2 hn c hc), rfl⟩
          all_goals first | rfl | (rw [eqv_same]; rfl)
        · rw [if_neg hn]
          refine sv_post (sv_ifF (et_eq (et_and (et_test (ev_op0b (ev_var rfl) ev_int)) (fun h => (et_test (ev_op0b (ev_var rfl) ev_int)))) ?xk1) sv_next) (by repeat' (first | exact Wk.nil | apply Wk.same | apply Wk.drop))
          case xk1 =>
            by_cases h0 : 0 < n
            · rw [decide_eq_false (show ¬ ((n : Nat) : Int) < 40 by omega)]
              exact Bool.and_false _
            · rw [decide_eq_false (show ¬ (0 : Int) < (n : Nat) by omega)]
              rfl

end
end K55

end
section
set_option Elab.async false
set_option linter.all false
set_option maxRecDepth 100000
set_option maxHeartbeats 1000000
set_option exponentiation.threshold 20000
namespace K55
open PySem PySem.Spec PyProof.Rows L2 RZ EV FR LW
theorem all_mk {P : Program} {w : World} {K : PySem.W.Frag} {h : Heap} {mg : Str → Option Value} {fa f4 : Addr} (X : K.In h) (G : h.Ns mainGlobals mg) (hfa : mg "law" = some (.ref fa))
    {od4 an4 : Option Addr} {sl4 : Array (Option Value)} {oc4 kV4 dc4 pm4 cd4 ct4 : Value}
    (T__law_box : TopF K mg "_law_box" s__law_box)
    (T_entering_place : TopF K mg "entering_place" s_entering_place)
    (T_first_table : TopF K mg "first_table" s_first_table)
    (T_leaving_row : TopF K mg "leaving_row" s_leaving_row)
    (T_turned : TopF K mg "turned" s_turned)
    (T_searched : TopF K mg "searched" s_searched)
    (T_common_part : TopF K mg "common_part" s_common_part)
    (T_fraction_of : TopF K mg "fraction_of" s_fraction_of)
    (T_lost_loads : TopF K mg "lost_loads" s_lost_loads)
    (T_common_under : TopF K mg "common_under" s_common_under)
    (T_whole_column : TopF K mg "whole_column" s_whole_column)
    (T_kept_shares : TopF K mg "kept_shares" s_kept_shares)
    (T_best_shares : TopF K mg "best_shares" s_best_shares)
    (T__law_part : TopF K mg "_law_part" s__law_part)
    (T__law_common : TopF K mg "_law_common" s__law_common)
    (T__law_frac : TopF K mg "_law_frac" s__law_frac)
    (T__law_sum : TopF K mg "_law_sum" s__law_sum)
    (T__law_times : TopF K mg "_law_times" s__law_times)
    (T__law_worths : TopF K mg "_law_worths" s__law_worths)
    (T__law_is_frac : TopF K mg "_law_is_frac" s__law_is_frac)
    (T__law_are_parts : TopF K mg "_law_are_parts" s__law_are_parts)
    (T__law_less_than : TopF K mg "_law_less_than" s__law_less_than)
    (T__law_pay : TopF K mg "_law_pay" s__law_pay)
    (T__law_shown : TopF K mg "_law_shown" s__law_shown)
    (T__law_take : TopF K mg "_law_take" s__law_take)
    (T__law_pick : TopF K mg "_law_pick" s__law_pick)
    (T__law_worth : TopF K mg "_law_worth" s__law_worth)
    (T__law_column : TopF K mg "_law_column" s__law_column)
    (a4 : PySem.W.nsIn K mainGlobals "law" = some (some (.ref f4))) (l4 : K.lookup f4 = some ⟨oc4, od4, .func (PySem.W.fnOf "law" "law" (defArgs s_law) (defBody s_law) (defScope s_law) .none kV4 dc4 pm4 an4 cd4 ct4), sl4⟩) (c4 : PySem.W.codeIn K cd4 "law" = true) (k4 : PySem.W.keepIn K (.ref f4) = true)
    (z_len : PySem.W.nsIn K mainGlobals "len" = some none)
    (z_abs : PySem.W.nsIn K mainGlobals "abs" = some none)
    (z_int : PySem.W.nsIn K mainGlobals "int" = some none)
    (z_enumerate : PySem.W.nsIn K mainGlobals "enumerate" = some none)
    (z_range : PySem.W.nsIn K mainGlobals "range" = some none)
    (z_zip : PySem.W.nsIn K mainGlobals "zip" = some none)
    (z_tuple : PySem.W.nsIn K mainGlobals "tuple" = some none)
    (z_sum : PySem.W.nsIn K mainGlobals "sum" = some none)
    (z_isinstance : PySem.W.nsIn K mainGlobals "isinstance" = some none)
    (z_bool : PySem.W.nsIn K mainGlobals "bool" = some none)
    (z_str : PySem.W.nsIn K mainGlobals "str" = some none)
    : ∃ fd : FuncData, (∀ (s : Shared) (v : Value), BindsTo s fd ⟨[v], []⟩ [("script", v)]) ∧ ∀ base : Heap, K.In base → base.Ns mainGlobals mg → FnOk P w K mg base CX0 6 fa fd ["script"] (@spG ⟨K⟩ G_law) := by
  letI : KS := ⟨K⟩
  have e := hfa.symm.trans (PySem.W.mg_of X G a4)
  cases e
  have m_len := PySem.W.mg_none_of X G z_len
  have m_abs := PySem.W.mg_none_of X G z_abs
  have m_int := PySem.W.mg_none_of X G z_int
  have m_enumerate := PySem.W.mg_none_of X G z_enumerate
  have m_range := PySem.W.mg_none_of X G z_range
  have m_zip := PySem.W.mg_none_of X G z_zip
  have m_tuple := PySem.W.mg_none_of X G z_tuple
  have m_sum := PySem.W.mg_none_of X G z_sum
  have m_isinstance := PySem.W.mg_none_of X G z_isinstance
  have m_bool := PySem.W.mg_none_of X G z_bool
  have m_str := PySem.W.mg_none_of X G z_str
  refine ⟨PySem.W.fnOf "law" "law" (defArgs s_law) (defBody s_law) (defScope s_law) .none kV4 dc4 pm4 an4 cd4 ct4, fun s v => .of_eq rfl, fun base _ _ => ?_⟩
  have C__law_box : CalF P w KS.K mg base 1 "_law_box" ["script", "k"] G__law_box := ok__law_box T__law_box (m_len := m_len) (m_abs := m_abs) (m_int := m_int)
  have C_entering_place : Cal P w KS.K mg base 1 "entering_place" ["table"] G_entering_place := ok_entering_place T_entering_place (m_enumerate := m_enumerate)
  have C_first_table : Cal P w KS.K mg base 1 "first_table" ["columns", "many"] G_first_table := ok_first_table T_first_table (m_range := m_range)
  have C_leaving_row : Cal P w KS.K mg base 1 "leaving_row" ["table", "bases", "place"] G_leaving_row := ok_leaving_row T_leaving_row (m_enumerate := m_enumerate)
  have C_turned : Cal P w KS.K mg base 1 "turned" ["table", "under", "row", "place"] G_turned := ok_turned T_turned (m_enumerate := m_enumerate) (m_zip := m_zip)
  have C_searched : Cal P w KS.K mg base 2 "searched" ["columns", "many"] G_searched := ok_searched T_searched (m_len := m_len) (m_range := m_range) (C_entering_place := C_entering_place) (C_first_table := C_first_table) (C_leaving_row := C_leaving_row) (C_turned := C_turned)
  have C_common_part : Cal P w KS.K mg base 1 "common_part" ["one", "two"] G_common_part := ok_common_part T_common_part (m_abs := m_abs)
  have C_fraction_of : Cal P w KS.K mg base 2 "fraction_of" ["n", "d"] G_fraction_of := ok_fraction_of T_fraction_of (C_common_part := C_common_part)
  have C_lost_loads : Cal P w KS.K mg base 3 "lost_loads" ["columns", "table", "under", "bases", "place"] G_lost_loads := ok_lost_loads T_lost_loads (m_enumerate := m_enumerate) (m_len := m_len) (m_tuple := m_tuple) (C_fraction_of := C_fraction_of)
  have C_common_under : Cal P w KS.K mg base 3 "common_under" ["some"] G_common_under := ok_common_under T_common_under (C_fraction_of := C_fraction_of)
  have C_whole_column : Cal P w KS.K mg base 4 "whole_column" ["column"] G_whole_column := ok_whole_column T_whole_column (C_common_under := C_common_under)
  have C_kept_shares : Cal P w KS.K mg base 3 "kept_shares" ["columns", "many", "table", "under", "bases"] G_kept_shares := ok_kept_shares T_kept_shares (m_tuple := m_tuple) (m_enumerate := m_enumerate) (m_range := m_range) (m_len := m_len) (C_fraction_of := C_fraction_of)
  have C_best_shares : Cal P w KS.K mg base 5 "best_shares" ["columns", "many"] G_best_shares := ok_best_shares T_best_shares (C_searched := C_searched) (C_lost_loads := C_lost_loads) (C_whole_column := C_whole_column) (C_kept_shares := C_kept_shares)
  have C__law_part : Cal P w KS.K mg base 1 "_law_part" ["one", "two"] G__law_part := ok__law_part T__law_part (m_abs := m_abs) (m_range := m_range) (m_int := m_int)
  have C__law_common : Cal P w KS.K mg base 2 "_law_common" ["some"] G__law_common := ok__law_common T__law_common (C__law_part := C__law_part)
  have C__law_frac : Cal P w KS.K mg base 2 "_law_frac" ["n", "d"] G__law_frac := ok__law_frac T__law_frac (C__law_part := C__law_part)
  have C__law_sum : Cal P w KS.K mg base 3 "_law_sum" ["some"] G__law_sum := ok__law_sum T__law_sum (m_sum := m_sum) (C__law_common := C__law_common) (C__law_frac := C__law_frac)
  have C__law_times : Cal P w KS.K mg base 3 "_law_times" ["one", "two"] G__law_times := ok__law_times T__law_times (C__law_frac := C__law_frac)
  have C__law_worths : Cal P w KS.K mg base 4 "_law_worths" ["columns", "loads", "many"] G__law_worths := ok__law_worths T__law_worths (m_range := m_range) (m_zip := m_zip) (C__law_sum := C__law_sum) (C__law_frac := C__law_frac) (C__law_times := C__law_times)
  have C__law_is_frac : Cal P w KS.K mg base 2 "_law_is_frac" ["value"] G__law_is_frac := ok__law_is_frac T__law_is_frac (m_isinstance := m_isinstance) (m_tuple := m_tuple) (m_len := m_len) (m_bool := m_bool) (m_int := m_int) (C__law_part := C__law_part)
  have C__law_are_parts : Cal P w KS.K mg base 3 "_law_are_parts" ["value", "many"] G__law_are_parts := ok__law_are_parts T__law_are_parts (m_isinstance := m_isinstance) (m_tuple := m_tuple) (m_len := m_len) (C__law_is_frac := C__law_is_frac)
  have C__law_less_than : Cal P w KS.K mg base 1 "_law_less_than" ["one", "two"] G__law_less_than := ok__law_less_than T__law_less_than
  have C__law_pay : Cal P w KS.K mg base 4 "_law_pay" ["columns", "c", "shares"] G__law_pay := ok__law_pay T__law_pay (m_zip := m_zip) (C__law_sum := C__law_sum) (C__law_less_than := C__law_less_than) (C__law_times := C__law_times)
  have C__law_shown : Cal P w KS.K mg base 5 "_law_shown" ["columns", "many", "told"] G__law_shown := ok__law_shown T__law_shown (m_isinstance := m_isinstance) (m_tuple := m_tuple) (m_len := m_len) (m_str := m_str) (m_zip := m_zip) (C__law_sum := C__law_sum) (C__law_worths := C__law_worths) (C__law_are_parts := C__law_are_parts) (C__law_times := C__law_times) (C__law_is_frac := C__law_is_frac) (C__law_pay := C__law_pay) (C__law_less_than := C__law_less_than)
  have C__law_take : Cal P w KS.K mg base 1 "_law_take" ["box", "many"] G__law_take := ok__law_take T__law_take (m_int := m_int)
  have C__law_pick : Cal P w KS.K mg base 2 "_law_pick" ["box", "some"] G__law_pick := ok__law_pick T__law_pick (m_len := m_len) (C__law_take := C__law_take)
  have C__law_worth : Cal P w KS.K mg base 3 "_law_worth" ["box", "great"] G__law_worth := ok__law_worth T__law_worth (C__law_take := C__law_take) (C__law_frac := C__law_frac) (C__law_pick := C__law_pick)
  have C__law_column : Cal P w KS.K mg base 4 "_law_column" ["box", "many", "great"] G__law_column := ok__law_column T__law_column (m_tuple := m_tuple) (m_range := m_range) (C__law_worth := C__law_worth) (C__law_take := C__law_take)
  exact ok_law (fun_mk (st := s_law) l4 c4 k4) (m_range := m_range) (m_tuple := m_tuple) (C__law_box := C__law_box) (C_best_shares := C_best_shares) (C__law_shown := C__law_shown) (C__law_take := C__law_take) (C__law_column := C__law_column)
theorem walk {l : PySem.W.OpenLaw} {q : Program} {loose : List Str} {XP : (Str → Option Value) → Heap → Prop} {YP : World → Heap → Prop} {d : DefRec} {K : Params → PySem.W.Frag} (hn : l.most = some 63) (hdf : d.params.defaults = [])
    (hY : ∀ (w : World) (h : Heap), YP w h → (K w.params).In h)
    (F : ∀ (w : World) (mg : Str → Option Value) (fa : Addr) (h : Heap), (K w.params).In h → h.Ns mainGlobals mg → mg d.name = some (.ref fa) →
      ∃ fd : FuncData, (∀ (s : Shared) (u : Value), BindsTo s fd ⟨[u], []⟩ [("script", u)]) ∧ ∀ base : Heap, (K w.params).In base → base.Ns mainGlobals mg → FnOk l.prog w (K w.params) mg base CX0 6 fa fd ["script"] (@spG ⟨K w.params⟩ G_law)) :
    PySem.W.WalkO q loose XP YP l.row.toRowW d [] (fun f vs => PySem.call f vs) :=
  L2.walk_of (n := 63) (k := 6) (x := "script") (CX := fun _ => CX0) (sp := fun w => @spG ⟨K w.params⟩ G_law) hn (by decide) hdf ⟨rfl, by decide, by decide⟩ hY F (fun w _ a ns _ hO hS => @sp_script ⟨K w.params⟩ _ _ _ ns _ hO hS ⟨ns, rfl, rfl⟩) fun _ _ _ _ _ z => z
end K55
end
set_option Elab.async false
set_option linter.all false
open PySem PySem.W PyProof.Rows
set_option maxRecDepth 100000 in
set_option maxHeartbeats 0 in
theorem PySem.Challenge.cw_fairanyprice_k55_whole_shares_and_loads_holds : PySem.Challenge.rw_fairanyprice_k55_whole_shares_and_loads.Holds := by
  w_on; o_law; k_head; (case hw => w_witness2)
  k_fill
  refine K55.walk (l := PySem.Challenge.rw_fairanyprice_k55_whole_shares_and_loads) rfl rfl (fun w h Y => PySem.W.kIn_of Y) ?F
  case F =>
    intro w mg fa h KX G hmg
    refine' K55.all_mk KX G hmg (EV.topF_mk KX G ?a__law_box ?l__law_box ?c__law_box ?k__law_box) (EV.topF_mk KX G ?a_entering_place ?l_entering_place ?c_entering_place ?k_entering_place) (EV.topF_mk KX G ?a_first_table ?l_first_table ?c_first_table ?k_first_table) (EV.topF_mk KX G ?a_leaving_row ?l_leaving_row ?c_leaving_row ?k_leaving_row) (EV.topF_mk KX G ?a_turned ?l_turned ?c_turned ?k_turned) (EV.topF_mk KX G ?a_searched ?l_searched ?c_searched ?k_searched) (EV.topF_mk KX G ?a_common_part ?l_common_part ?c_common_part ?k_common_part) (EV.topF_mk KX G ?a_fraction_of ?l_fraction_of ?c_fraction_of ?k_fraction_of) (EV.topF_mk KX G ?a_lost_loads ?l_lost_loads ?c_lost_loads ?k_lost_loads) (EV.topF_mk KX G ?a_common_under ?l_common_under ?c_common_under ?k_common_under) (EV.topF_mk KX G ?a_whole_column ?l_whole_column ?c_whole_column ?k_whole_column) (EV.topF_mk KX G ?a_kept_shares ?l_kept_shares ?c_kept_shares ?k_kept_shares) (EV.topF_mk KX G ?a_best_shares ?l_best_shares ?c_best_shares ?k_best_shares) (EV.topF_mk KX G ?a__law_part ?l__law_part ?c__law_part ?k__law_part) (EV.topF_mk KX G ?a__law_common ?l__law_common ?c__law_common ?k__law_common) (EV.topF_mk KX G ?a__law_frac ?l__law_frac ?c__law_frac ?k__law_frac) (EV.topF_mk KX G ?a__law_sum ?l__law_sum ?c__law_sum ?k__law_sum) (EV.topF_mk KX G ?a__law_times ?l__law_times ?c__law_times ?k__law_times) (EV.topF_mk KX G ?a__law_worths ?l__law_worths ?c__law_worths ?k__law_worths) (EV.topF_mk KX G ?a__law_is_frac ?l__law_is_frac ?c__law_is_frac ?k__law_is_frac) (EV.topF_mk KX G ?a__law_are_parts ?l__law_are_parts ?c__law_are_parts ?k__law_are_parts) (EV.topF_mk KX G ?a__law_less_than ?l__law_less_than ?c__law_less_than ?k__law_less_than) (EV.topF_mk KX G ?a__law_pay ?l__law_pay ?c__law_pay ?k__law_pay) (EV.topF_mk KX G ?a__law_shown ?l__law_shown ?c__law_shown ?k__law_shown) (EV.topF_mk KX G ?a__law_take ?l__law_take ?c__law_take ?k__law_take) (EV.topF_mk KX G ?a__law_pick ?l__law_pick ?c__law_pick ?k__law_pick) (EV.topF_mk KX G ?a__law_worth ?l__law_worth ?c__law_worth ?k__law_worth) (EV.topF_mk KX G ?a__law_column ?l__law_column ?c__law_column ?k__law_column) ?a4 ?l4 ?c4 ?k4 ?z_len ?z_abs ?z_int ?z_enumerate ?z_range ?z_zip ?z_tuple ?z_sum ?z_isinstance ?z_bool ?z_str
    (case a__law_box => k_is); (case l__law_box => k_is); (case c__law_box => k_is); (case k__law_box => k_is)
    (case a_entering_place => k_is); (case l_entering_place => k_is); (case c_entering_place => k_is); (case k_entering_place => k_is)
    (case a_first_table => k_is); (case l_first_table => k_is); (case c_first_table => k_is); (case k_first_table => k_is)
    (case a_leaving_row => k_is); (case l_leaving_row => k_is); (case c_leaving_row => k_is); (case k_leaving_row => k_is)
    (case a_turned => k_is); (case l_turned => k_is); (case c_turned => k_is); (case k_turned => k_is)
    (case a_searched => k_is); (case l_searched => k_is); (case c_searched => k_is); (case k_searched => k_is)
    (case a_common_part => k_is); (case l_common_part => k_is); (case c_common_part => k_is); (case k_common_part => k_is)
    (case a_fraction_of => k_is); (case l_fraction_of => k_is); (case c_fraction_of => k_is); (case k_fraction_of => k_is)
    (case a_lost_loads => k_is); (case l_lost_loads => k_is); (case c_lost_loads => k_is); (case k_lost_loads => k_is)
    (case a_common_under => k_is); (case l_common_under => k_is); (case c_common_under => k_is); (case k_common_under => k_is)
    (case a_whole_column => k_is); (case l_whole_column => k_is); (case c_whole_column => k_is); (case k_whole_column => k_is)
    (case a_kept_shares => k_is); (case l_kept_shares => k_is); (case c_kept_shares => k_is); (case k_kept_shares => k_is)
    (case a_best_shares => k_is); (case l_best_shares => k_is); (case c_best_shares => k_is); (case k_best_shares => k_is)
    (case a__law_part => k_is); (case l__law_part => k_is); (case c__law_part => k_is); (case k__law_part => k_is)
    (case a__law_common => k_is); (case l__law_common => k_is); (case c__law_common => k_is); (case k__law_common => k_is)
    (case a__law_frac => k_is); (case l__law_frac => k_is); (case c__law_frac => k_is); (case k__law_frac => k_is)
    (case a__law_sum => k_is); (case l__law_sum => k_is); (case c__law_sum => k_is); (case k__law_sum => k_is)
    (case a__law_times => k_is); (case l__law_times => k_is); (case c__law_times => k_is); (case k__law_times => k_is)
    (case a__law_worths => k_is); (case l__law_worths => k_is); (case c__law_worths => k_is); (case k__law_worths => k_is)
    (case a__law_is_frac => k_is); (case l__law_is_frac => k_is); (case c__law_is_frac => k_is); (case k__law_is_frac => k_is)
    (case a__law_are_parts => k_is); (case l__law_are_parts => k_is); (case c__law_are_parts => k_is); (case k__law_are_parts => k_is)
    (case a__law_less_than => k_is); (case l__law_less_than => k_is); (case c__law_less_than => k_is); (case k__law_less_than => k_is)
    (case a__law_pay => k_is); (case l__law_pay => k_is); (case c__law_pay => k_is); (case k__law_pay => k_is)
    (case a__law_shown => k_is); (case l__law_shown => k_is); (case c__law_shown => k_is); (case k__law_shown => k_is)
    (case a__law_take => k_is); (case l__law_take => k_is); (case c__law_take => k_is); (case k__law_take => k_is)
    (case a__law_pick => k_is); (case l__law_pick => k_is); (case c__law_pick => k_is); (case k__law_pick => k_is)
    (case a__law_worth => k_is); (case l__law_worth => k_is); (case c__law_worth => k_is); (case k__law_worth => k_is)
    (case a__law_column => k_is); (case l__law_column => k_is); (case c__law_column => k_is); (case k__law_column => k_is)
    (case a4 => k_is); (case l4 => k_is); (case c4 => k_is); (case k4 => k_is)
    (case z_len => k_is)
    (case z_abs => k_is)
    (case z_int => k_is)
    (case z_enumerate => k_is)
    (case z_range => k_is)
    (case z_zip => k_is)
    (case z_tuple => k_is)
    (case z_sum => k_is)
    (case z_isinstance => k_is)
    (case z_bool => k_is)
    (case z_str => k_is)
