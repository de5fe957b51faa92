import PyProof.Rows.All
import Wide.All
import OpenK.AllK
import Wide.FinOn
import HandS.ForMost
import HandS.Evl
import HandS.Exc
import HandS.ExcOwn
import HandS.TryOnly
import HandS.WordsExc
import HandS.IsInst
import HandS.TupAny
import HandS.Text
import HandS.Comp
import HandS.ExcIs
import HandS.Style
import PySem.Challenge.RW_pagepart_k53_text_stairs
set_option Elab.async false
set_option linter.all false
set_option maxRecDepth 100000
set_option autoImplicit false
set_option maxHeartbeats 1000000
/-! SV: readings over plain data. A frozen heap F (only grows, holds all plain data), lists that a frame owns, slots that hold data. -/
namespace SV
open PySem PySem.Spec L2

abbrev Fr := PySem.W.Frag
end SV
namespace Evl.Ex
open PySem L2 SV
theorem sl {K : SV.Fr} {H H' : Hp} {a : Addr} {xs : List V} (e : Evl.Ex H H') (h : SqL K H a xs) : SqL K H' a xs := Evl.ex_l e h
theorem stt {K : SV.Fr} {H H' : Hp} {a : Addr} {xs : List V} (e : Evl.Ex H H') (h : SqT K H a xs) : SqT K H' a xs := Evl.ex_t e h
theorem free {H H' : Hp} {p : Addr} (e : Evl.Ex H H') (h : H' p = none) : H p = none := Evl.fresh_back e h
end Evl.Ex
namespace SV
open PySem PySem.Spec L2
open Evl (Ex)

/-! ### plain data in a heap -/
mutual
inductive Rp (K : Fr) (F : Hp) : V → PyData → Prop
  | non : Rp K F .non .none
  | bl (b : Bool) : Rp K F (.bl b) (.bool b)
  | int (i : Int) : Rp K F (.int i) (.int i)
  | str (x : Str) : Rp K F (.str x) (.str x)
  | lst {a : Addr} {vs : List V} {xs : List PyData} : F a = some (.lst vs) → RpA K F vs xs → Rp K F (.ref a) (.list xs)
  | tup {a : Addr} {vs : List V} {xs : List PyData} : SqT K F a vs → RpA K F vs xs → Rp K F (.ref a) (.tuple xs)
  | dct {a : Addr} : F a = some (.dK []) → Rp K F (.ref a) (.dict [])
inductive RpA (K : Fr) (F : Hp) : List V → List PyData → Prop
  | nil : RpA K F [] []
  | cons {v : V} {vs : List V} {d : PyData} {ds : List PyData} : Rp K F v d → RpA K F vs ds → RpA K F (v :: vs) (d :: ds)
end
section
variable {K : Fr} {F F' H H' : Hp}
mutual
theorem Rp.mono (e : Ex F F') : ∀ {d : PyData} {v : V}, Rp K F v d → Rp K F' v d
  | .none, _, .non => .non
  | .bool _, _, .bl b => .bl b
  | .int _, _, .int b => .int b
  | .str _, _, .str b => .str b
  | .list _, _, .lst h r => .lst (e _ _ h) (RpA.mono e r)
  | .tuple _, _, .tup h r => .tup (e.stt h) (RpA.mono e r)
  | .dict _, _, .dct h => .dct (e _ _ h)
theorem RpA.mono (e : Ex F F') : ∀ {ds : List PyData} {vs : List V}, RpA K F vs ds → RpA K F' vs ds
  | [], _, .nil => .nil
  | _ :: _, _, .cons h r => .cons (Rp.mono e h) (RpA.mono e r)
end
theorem RpA.length : ∀ {ds : List PyData} {vs : List V}, RpA K F vs ds → vs.length = ds.length
  | [], _, .nil => rfl
  | _ :: _, _, .cons _ r => congrArg (· + 1) (RpA.length r)
theorem RpA.get : ∀ {ds : List PyData} {vs : List V} {i : Nat} {v : V}, RpA K F vs ds → vs[i]? = some v → ∃ d, ds[i]? = some d ∧ Rp K F v d
  | [], _, _, _, .nil, h => by simp at h
  | d :: _, _, 0, _, .cons q _, h => by
    have e := Option.some.inj h
    subst e
    exact ⟨d, rfl, q⟩
  | _ :: _, _, i + 1, _, .cons _ r, h => RpA.get (i := i) r h
theorem RpA.get' : ∀ {ds : List PyData} {vs : List V} {i : Nat} {d : PyData}, RpA K F vs ds → ds[i]? = some d → ∃ v, vs[i]? = some v ∧ Rp K F v d
  | [], _, _, _, .nil, h => by simp at h
  | d :: _, v :: _, 0, _, .cons q _, h => by
    have e := Option.some.inj h
    subst e
    exact ⟨v, rfl, q⟩
  | _ :: _, _ :: _, i + 1, _, .cons _ r, h => RpA.get' (i := i) r h
theorem RpA.append : ∀ {ds es : List PyData} {vs ws : List V}, RpA K F vs ds → RpA K F ws es → RpA K F (vs ++ ws) (ds ++ es)
  | [], _, _, _, .nil, s => s
  | _ :: _, _, _, _, .cons h r, s => .cons h (RpA.append r s)
theorem RpA.take : ∀ {ds : List PyData} {vs : List V} (n : Nat), RpA K F vs ds → RpA K F (vs.take n) (ds.take n)
  | _, _, 0, _ => .nil
  | [], _, _ + 1, .nil => .nil
  | _ :: _, _, n + 1, .cons h r => .cons h (RpA.take n r)
theorem RpA.drop : ∀ {ds : List PyData} {vs : List V} (n : Nat), RpA K F vs ds → RpA K F (vs.drop n) (ds.drop n)
  | _, _, 0, r => r
  | [], _, _ + 1, .nil => .nil
  | _ :: _, _, n + 1, .cons _ r => RpA.drop n r
theorem RpA.set : ∀ {ds : List PyData} {vs : List V} {v : V} {d : PyData} (i : Nat), RpA K F vs ds → Rp K F v d → RpA K F (vs.set i v) (ds.set i d)
  | [], _, _, _, _, .nil, _ => .nil
  | _ :: _, _, _, _, 0, .cons _ r, q => .cons q r
  | _ :: _, _, _, _, i + 1, .cons h r, q => .cons h (RpA.set i r q)
theorem RpA.dropLast : ∀ {ds : List PyData} {vs : List V}, RpA K F vs ds → RpA K F vs.dropLast ds.dropLast := fun {ds vs} r => by
  rw [List.dropLast_eq_take, List.dropLast_eq_take, r.length]
  exact r.take _
theorem RpA.erase : ∀ {ds : List PyData} {vs : List V} (i : Nat), RpA K F vs ds → RpA K F (vs.eraseIdx i) (ds.eraseIdx i)
  | [], _, _, .nil => .nil
  | _ :: _, _, 0, .cons _ r => r
  | _ :: _, _, i + 1, .cons h r => .cons h (RpA.erase i r)
theorem RpA.reverse {ds : List PyData} {vs : List V} (r : RpA K F vs ds) : RpA K F vs.reverse ds.reverse := by
  induction ds generalizing vs with
  | nil => cases r; exact .nil
  | cons d ds ih =>
    cases r with
    | cons h r =>
      rw [List.reverse_cons, List.reverse_cons]
      exact (ih r).append (.cons h .nil)
theorem RpA.rep {ds : List PyData} {vs : List V} (r : RpA K F vs ds) : ∀ k : Nat, RpA K F (List.replicate k vs).flatten (List.replicate k ds).flatten
  | 0 => .nil
  | k + 1 => by
    rw [List.replicate_succ, List.replicate_succ, List.flatten_cons, List.flatten_cons]
    exact r.append (RpA.rep r k)
/-! scalars -/
theorem Rp.int_inv {v : V} {i : Int} (h : Rp K F v (.int i)) : v = .int i := by cases h; rfl
theorem Rp.bl_inv {v : V} {i : Bool} (h : Rp K F v (.bool i)) : v = .bl i := by cases h; rfl
theorem Rp.str_inv {v : V} {i : Str} (h : Rp K F v (.str i)) : v = .str i := by cases h; rfl
theorem Rp.non_inv {v : V} (h : Rp K F v .none) : v = .non := by cases h; rfl
theorem RpA.ints : ∀ {ns : List Int} {vs : List V}, RpA K F vs (ns.map .int) → vs = ns.map V.int
  | [], _, .nil => rfl
  | n :: ns, _, .cons h r => by rw [h.int_inv, RpA.ints (ns := ns) r, List.map_cons]
theorem RpA.strs : ∀ {ns : List Str} {vs : List V}, RpA K F vs (ns.map .str) → vs = ns.map V.str
  | [], _, .nil => rfl
  | n :: ns, _, .cons h r => by rw [h.str_inv, RpA.strs (ns := ns) r, List.map_cons]
theorem RpA.bls : ∀ {ns : List Bool} {vs : List V}, RpA K F vs (ns.map .bool) → vs = ns.map V.bl
  | [], _, .nil => rfl
  | n :: ns, _, .cons h r => by rw [h.bl_inv, RpA.bls (ns := ns) r, List.map_cons]
theorem RpA.of_ints : ∀ (ns : List Int), RpA K F (ns.map V.int) (ns.map .int)
  | [] => .nil
  | n :: ns => .cons (.int n) (RpA.of_ints ns)
theorem RpA.of_strs : ∀ (ns : List Str), RpA K F (ns.map V.str) (ns.map .str)
  | [] => .nil
  | n :: ns => .cons (.str n) (RpA.of_strs ns)
/-! no dict within: the library's data -/
mutual
def noD : PyData → Bool
  | .list xs => noDs xs
  | .tuple xs => noDs xs
  | .dict _ => false
  | _ => true
def noDs : List PyData → Bool
  | [] => true
  | x :: xs => noD x && noDs xs
end
mutual
theorem Rp.dp (e : Ex F H) : ∀ {d : PyData} {v : V}, Rp K F v d → noD d = true → Dp K H v d
  | .none, _, .non, _ => .non
  | .bool _, _, .bl b, _ => .bl b
  | .int _, _, .int b, _ => .int b
  | .str _, _, .str b, _ => .str b
  | .list _, _, .lst h r, n => .lst (.inl (.inl (e _ _ h))) (RpA.dp e r (by unfold noD at n; exact n))
  | .tuple _, _, .tup h r, n => .tup (e.stt h) (RpA.dp e r (by unfold noD at n; exact n))
  | .dict _, _, .dct h, n => by unfold noD at n; cases n
theorem RpA.dp (e : Ex F H) : ∀ {ds : List PyData} {vs : List V}, RpA K F vs ds → noDs ds = true → DpAll K H vs ds
  | [], _, .nil, _ => .nil
  | _ :: _, _, .cons h r, n => by
    unfold noDs at n
    have n' := Bool.and_eq_true_iff.mp n
    exact .cons (Rp.dp e h n'.1) (RpA.dp e r n'.2)
end
end

/-! ### slots, the base of a frame, what holds in it -/
inductive L where
  | d (x : PyData)
  | own (xs : List PyData)
  | scr (ns : List Int)
  | raw (v : V)
abbrev En := List (Option L)
structure Bs where
  F0 : Hp
  H0 : Hp
  pin : Option (Nat × Addr)
def SlotOk (K : Fr) (F H : Hp) (v : V) : L → Prop
  | .d x => Rp K F v x
  | .own xs => ∃ a vs, v = .ref a ∧ F a = none ∧ H a = some (.lst vs) ∧ RpA K F vs xs
  | .scr ns => ∃ a, v = .ref a ∧ SqL K F a (ns.map V.int)
  | .raw w => v = w
structure St1 (B : Bs) (F H : Hp) : Prop where
  f0 : Ex B.F0 F
  fh : Ex F H
  h0 : ∀ a o, B.H0 a = some o → (∀ i, B.pin ≠ some (i, a)) → H a = some o
  th : ∀ a, B.H0 a ≠ none → H a ≠ none
  nf : ∀ a, B.F0 a = none → B.H0 a ≠ none → F a = none
structure EnvOk (B : Bs) (K : Fr) (F H : Hp) (σ : St) (ρ : En) : Prop where
  st : St1 B F H
  len : σ.length = ρ.length
  sl : ∀ (i : Nat) (l : L), ρ[i]? = some (some l) → ∃ v, σ[i]? = some (some v) ∧ SlotOk K F H v l
  sep : ∀ (i j : Nat) (xs ys : List PyData), ρ[i]? = some (some (.own xs)) → ρ[j]? = some (some (.own ys)) → i ≠ j → σ[i]? ≠ σ[j]?
  mine : ∀ (i : Nat) (xs : List PyData) (a : Addr), ρ[i]? = some (some (.own xs)) → σ[i]? = some (some (.ref a)) → B.H0 a = none ∨ B.pin = some (i, a)
  pin : ∀ (i : Nat) (a : Addr), B.pin = some (i, a) → σ[i]? = some (some (.ref a)) ∧ ∃ xs : List PyData, ρ[i]? = some (some (.own xs))
/-- a value that an expression gives: data, a new list that nobody else holds, the script, any value -/
inductive R where
  | d (x : PyData)
  | new (xs : List PyData)
  | scr (ns : List Int)
  | raw (v : V)
def R.toD : R → Option PyData
  | .d x => some x
  | .new xs => some (.list xs)
  | _ => none
def ROk (B : Bs) (K : Fr) (F H : Hp) (σ : St) (ρ : En) (v : V) : R → Prop
  | .d x => Rp K F v x
  | .new xs => ∃ a vs, v = .ref a ∧ F a = none ∧ H a = some (.lst vs) ∧ RpA K F vs xs ∧ B.H0 a = none ∧ ∀ (i : Nat) (ys : List PyData), ρ[i]? = some (some (.own ys)) → σ[i]? ≠ some (some (.ref a))
  | .scr ns => ∃ a, v = .ref a ∧ SqL K F a (ns.map V.int)
  | .raw w => v = w

section
variable {B : Bs} {K : Fr} {F F' H H' : Hp} {σ σ' : St} {ρ ρ' : En} {v : V}
theorem SlotOk.mono {l : L} (ef : Ex F F') (eh : ∀ a xs, l = .own xs → v = .ref a → F' a = none ∧ H' a = H a) (s : SlotOk K F H v l) : SlotOk K F' H' v l := by
  cases l with
  | d x => exact Rp.mono ef s
  | own xs =>
    obtain ⟨a, vs, e, h1, h2, h3⟩ := s
    obtain ⟨k1, k2⟩ := eh a xs rfl e
    exact ⟨a, vs, e, k1, k2.trans h2, h3.mono ef⟩
  | scr ns =>
    obtain ⟨a, e, h⟩ := s
    exact ⟨a, e, ef.sl h⟩
  | raw w => exact s
theorem EnvOk.fh (E : EnvOk B K F H σ ρ) : Ex F H := E.st.fh
theorem EnvOk.own_at (E : EnvOk B K F H σ ρ) {i : Nat} {xs : List PyData} (h : ρ[i]? = some (some (.own xs))) : ∃ a vs, σ[i]? = some (some (.ref a)) ∧ F a = none ∧ H a = some (.lst vs) ∧ RpA K F vs xs := by
  obtain ⟨v, e, a, vs, rfl, h1, h2, h3⟩ := E.sl i _ h
  exact ⟨a, vs, e, h1, h2, h3⟩
/-- a new object that is frozen at once -/
theorem EnvOk.alloc (E : EnvOk B K F H σ ρ) {p : Addr} {o : HO} (hp : H p = none) : EnvOk B K (upd F p o) (upd H p o) σ ρ ∧ Ex F (upd F p o) := by
  have hF : F p = none := E.fh.free hp
  have ef : Ex F (upd F p o) := Ex.new hF
  have h0p : B.H0 p = none := by
    cases q : B.H0 p with
    | none => rfl
    | some u => exact absurd hp (E.st.th p (by rw [q]; exact fun z => nomatch z))
  refine ⟨⟨⟨E.st.f0.trans ef, fun a u e => ?_, fun a u e n => ?_, fun a h => ?_, fun a h1 h2 => ?_⟩, E.len, fun i l e => ?_, E.sep, E.mine, E.pin⟩, ef⟩
  · by_cases ha : a = p
    · subst ha; rw [upd_same] at e ⊢; exact e
    · rw [upd_ne ha] at e ⊢; exact E.fh a u e
  · have ha : a ≠ p := fun z => by rw [z, h0p] at e; cases e
    rw [upd_ne ha]
    exact E.st.h0 a u e n
  · by_cases ha : a = p
    · subst ha; rw [upd_same]; exact fun z => nomatch z
    · rw [upd_ne ha]; exact E.st.th a h
  · have ha : a ≠ p := fun z => h2 (by rw [z]; exact h0p)
    rw [upd_ne ha]
    exact E.st.nf a h1 h2
  · obtain ⟨v, e1, s⟩ := E.sl i l e
    refine ⟨v, e1, s.mono ef fun a xs el ev => ?_⟩
    subst el ev
    obtain ⟨a', vs, ea, k1, k2, _⟩ := s
    cases ea
    have ha : a ≠ p := ne_of_none k2 hp
    rw [upd_ne ha, upd_ne ha]
    exact ⟨k1, rfl⟩
/-- a new object that stays out of F -/
theorem EnvOk.allocO (E : EnvOk B K F H σ ρ) {p : Addr} {o : HO} (hp : H p = none) : EnvOk B K F (upd H p o) σ ρ := by
  have hF : F p = none := E.fh.free hp
  have h0p : B.H0 p = none := by
    cases q : B.H0 p with
    | none => rfl
    | some u => exact absurd hp (E.st.th p (by rw [q]; exact fun z => nomatch z))
  refine ⟨⟨E.st.f0, E.fh.trans (Ex.new hp), fun a u e n => ?_, fun a h => ?_, E.st.nf⟩, E.len, fun i l e => ?_, E.sep, E.mine, E.pin⟩
  · have ha : a ≠ p := fun z => by rw [z, h0p] at e; cases e
    rw [upd_ne ha]
    exact E.st.h0 a u e n
  · by_cases ha : a = p
    · subst ha; rw [upd_same]; exact fun z => nomatch z
    · rw [upd_ne ha]; exact E.st.th a h
  · obtain ⟨v, e1, s⟩ := E.sl i l e
    refine ⟨v, e1, s.mono (Ex.refl F) fun a xs el ev => ?_⟩
    subst el ev
    obtain ⟨a', vs, ea, k1, k2, _⟩ := s
    cases ea
    exact ⟨k1, upd_ne (ne_of_none k2 hp)⟩
theorem EnvOk.h0p (E : EnvOk B K F H σ ρ) {p : Addr} (hp : H p = none) : B.H0 p = none := by
  cases q : B.H0 p with
  | none => rfl
  | some u => exact absurd hp (E.st.th p (by rw [q]; exact fun z => nomatch z))
/-- the own list of slot i is written -/
theorem EnvOk.write (E : EnvOk B K F H σ ρ) {i : Nat} {xs ys : List PyData} {a : Addr} {ws : List V} (h : ρ[i]? = some (some (.own xs))) (ha : σ[i]? = some (some (.ref a))) (r : RpA K F ws ys) :
    EnvOk B K F (upd H a (.lst ws)) σ (ρ.set i (some (.own ys))) := by
  obtain ⟨a', vs, e1, k1, k2, k3⟩ := E.own_at h
  rw [ha] at e1
  cases e1
  have hi : i < ρ.length := (List.getElem?_eq_some_iff.mp h).1
  refine ⟨⟨E.st.f0, fun b u e => ?_, fun b u e n => ?_, fun b hb => ?_, E.st.nf⟩, by rw [List.length_set]; exact E.len, fun j l e => ?_, fun j k us ws' e1 e2 ne => ?_, fun j us b e1 e2 => ?_, fun j b e => ?_⟩
  · have hb : b ≠ a := fun z => by rw [z, k1] at e; cases e
    rw [upd_ne hb]; exact E.fh b u e
  · have hb : b ≠ a := fun z => by
      subst z
      rcases E.mine i xs b h ha with z | z
      · rw [z] at e; cases e
      · exact n i z
    rw [upd_ne hb]; exact E.st.h0 b u e n
  · by_cases z : b = a
    · subst z; rw [upd_same]; exact fun z => nomatch z
    · rw [upd_ne z]; exact E.st.th b hb
  · by_cases hj : j = i
    · subst hj
      rw [List.getElem?_set_self hi] at e
      have e' := Option.some.inj (Option.some.inj e)
      subst e'
      exact ⟨.ref a, ha, a, ws, rfl, k1, upd_same, r⟩
    · rw [List.getElem?_set_ne (Ne.symm hj)] at e
      obtain ⟨v, e1, s⟩ := E.sl j l e
      refine ⟨v, e1, s.mono (Ex.refl F) fun b us el ev => ?_⟩
      subst el ev
      obtain ⟨b', vs', eb, m1, m2, _⟩ := s
      cases eb
      refine ⟨m1, upd_ne fun z => ?_⟩
      subst z
      exact E.sep j i _ _ e h hj (e1.trans ha.symm)
  · have own_of : ∀ (m : Nat) (zs : List PyData), (ρ.set i (some (.own ys)))[m]? = some (some (.own zs)) → ∃ zs' : List PyData, ρ[m]? = some (some (.own zs')) := fun m zs em => by
      by_cases hm : m = i
      · subst hm; exact ⟨xs, h⟩
      · rw [List.getElem?_set_ne (Ne.symm hm)] at em; exact ⟨zs, em⟩
    obtain ⟨_, q1⟩ := own_of j us e1
    obtain ⟨_, q2⟩ := own_of k ws' e2
    exact E.sep j k _ _ q1 q2 ne
  · by_cases hj : j = i
    · subst hj; exact E.mine j xs b h e2
    · rw [List.getElem?_set_ne (Ne.symm hj)] at e1; exact E.mine j us b e1 e2
  · obtain ⟨q1, us, q2⟩ := E.pin j b e
    refine ⟨q1, ?_⟩
    by_cases hj : j = i
    · subst hj; exact ⟨ys, List.getElem?_set_self hi⟩
    · exact ⟨us, by rw [List.getElem?_set_ne (Ne.symm hj)]; exact q2⟩
/-- a slot is stored: data -/
theorem EnvOk.setD (E : EnvOk B K F H σ ρ) {i : Nat} {l : L} (hv : SlotOk K F H v l) (hl : ∀ xs, l ≠ .own xs) (hp : ∀ a, B.pin ≠ some (i, a)) : EnvOk B K F H (σ.set i (some v)) (ρ.set i (some l)) := by
  refine ⟨E.st, by rw [List.length_set, List.length_set]; exact E.len, fun j l' e => ?_, fun j k us ws' e1 e2 ne => ?_, fun j us b e1 e2 => ?_, fun j b e => ?_⟩
  · by_cases hj : j = i
    · subst hj
      have hi : j < ρ.length := by
        have := (List.getElem?_eq_some_iff.mp e).1
        rwa [List.length_set] at this
      rw [List.getElem?_set_self hi] at e
      have e' := Option.some.inj (Option.some.inj e)
      subst e'
      exact ⟨v, List.getElem?_set_self (by rw [E.len]; exact hi), hv⟩
    · rw [List.getElem?_set_ne (Ne.symm hj)] at e ⊢
      exact E.sl j l' e
  · have ne_i : ∀ (m : Nat) (zs : List PyData), (ρ.set i (some l))[m]? = some (some (.own zs)) → m ≠ i ∧ ρ[m]? = some (some (.own zs)) := fun m zs em => by
      by_cases hm : m = i
      · subst hm
        have hi : m < ρ.length := by
          have := (List.getElem?_eq_some_iff.mp em).1
          rwa [List.length_set] at this
        rw [List.getElem?_set_self hi] at em
        exact absurd (Option.some.inj (Option.some.inj em)) (hl zs)
      · rw [List.getElem?_set_ne (Ne.symm hm)] at em; exact ⟨hm, em⟩
    obtain ⟨n1, q1⟩ := ne_i j us e1
    obtain ⟨n2, q2⟩ := ne_i k ws' e2
    rw [List.getElem?_set_ne (Ne.symm n1), List.getElem?_set_ne (Ne.symm n2)]
    exact E.sep j k _ _ q1 q2 ne
  · by_cases hj : j = i
    · subst hj
      have hi : j < ρ.length := by
        have := (List.getElem?_eq_some_iff.mp e1).1
        rwa [List.length_set] at this
      rw [List.getElem?_set_self hi] at e1
      exact absurd (Option.some.inj (Option.some.inj e1)) (hl us)
    · rw [List.getElem?_set_ne (Ne.symm hj)] at e1 e2; exact E.mine j us b e1 e2
  · have hj : j ≠ i := fun z => by subst z; exact hp b e
    rw [List.getElem?_set_ne (Ne.symm hj), List.getElem?_set_ne (Ne.symm hj)]
    exact E.pin j b e
/-- a slot takes a new list -/
theorem EnvOk.setO (E : EnvOk B K F H σ ρ) {i : Nat} {xs : List PyData} (hv : ROk B K F H σ ρ v (.new xs)) (hp : ∀ a, B.pin ≠ some (i, a)) : EnvOk B K F H (σ.set i (some v)) (ρ.set i (some (.own xs))) := by
  obtain ⟨a, vs, rfl, k1, k2, k3, k4, k5⟩ := hv
  refine ⟨E.st, by rw [List.length_set, List.length_set]; exact E.len, fun j l' e => ?_, fun j k us ws' e1 e2 ne => ?_, fun j us b e1 e2 => ?_, fun j b e => ?_⟩
  · by_cases hj : j = i
    · subst hj
      have hi : j < ρ.length := by
        have := (List.getElem?_eq_some_iff.mp e).1
        rwa [List.length_set] at this
      rw [List.getElem?_set_self hi] at e
      have e' := Option.some.inj (Option.some.inj e)
      subst e'
      exact ⟨.ref a, List.getElem?_set_self (by rw [E.len]; exact hi), a, vs, rfl, k1, k2, k3⟩
    · rw [List.getElem?_set_ne (Ne.symm hj)] at e ⊢
      exact E.sl j l' e
  · have lt : ∀ (m : Nat) (zs : List PyData), (ρ.set i (some (.own xs)))[m]? = some (some (.own zs)) → m < σ.length := fun m zs em => by
      have := (List.getElem?_eq_some_iff.mp em).1
      rw [List.length_set] at this
      rw [E.len]; exact this
    have h1 := lt j us e1
    have h2 := lt k ws' e2
    by_cases hj : j = i
    · subst hj
      rw [List.getElem?_set_ne ne] at e2
      rw [List.getElem?_set_self h1, List.getElem?_set_ne ne]
      exact fun z => k5 k _ e2 z.symm
    · by_cases hk : k = i
      · subst hk
        rw [List.getElem?_set_ne (Ne.symm hj)] at e1
        rw [List.getElem?_set_self h2, List.getElem?_set_ne (Ne.symm hj)]
        exact fun z => k5 j _ e1 z
      · rw [List.getElem?_set_ne (Ne.symm hj)] at e1
        rw [List.getElem?_set_ne (Ne.symm hk)] at e2
        rw [List.getElem?_set_ne (Ne.symm hj), List.getElem?_set_ne (Ne.symm hk)]
        exact E.sep j k _ _ e1 e2 ne
  · by_cases hj : j = i
    · subst hj
      have hi : j < σ.length := by
        have := (List.getElem?_eq_some_iff.mp e1).1
        rw [List.length_set] at this
        rw [E.len]; exact this
      rw [List.getElem?_set_self hi] at e2
      cases e2
      exact .inl k4
    · rw [List.getElem?_set_ne (Ne.symm hj)] at e1 e2; exact E.mine j us b e1 e2
  · have hj : j ≠ i := fun z => by subst z; exact hp b e
    rw [List.getElem?_set_ne (Ne.symm hj), List.getElem?_set_ne (Ne.symm hj)]
    exact E.pin j b e
/-- a slot forgotten -/
theorem EnvOk.forget (E : EnvOk B K F H σ ρ) {i : Nat} {o : Option V} (hp : ∀ a, B.pin ≠ some (i, a)) : EnvOk B K F H (σ.set i o) (ρ.set i none) := by
  have ne_i : ∀ (m : Nat) (l : L), (ρ.set i none)[m]? = some (some l) → m ≠ i ∧ ρ[m]? = some (some l) := fun m l em => by
    by_cases hm : m = i
    · subst hm
      have hi : m < ρ.length := by
        have := (List.getElem?_eq_some_iff.mp em).1
        rwa [List.length_set] at this
      rw [List.getElem?_set_self hi] at em
      cases em
    · rw [List.getElem?_set_ne (Ne.symm hm)] at em; exact ⟨hm, em⟩
  refine ⟨E.st, by rw [List.length_set, List.length_set]; exact E.len, fun j l' e => ?_, fun j k us ws' e1 e2 ne => ?_, fun j us b e1 e2 => ?_, fun j b e => ?_⟩
  · obtain ⟨n, q⟩ := ne_i j l' e
    rw [List.getElem?_set_ne (Ne.symm n)]
    exact E.sl j l' q
  · obtain ⟨n1, q1⟩ := ne_i j _ e1
    obtain ⟨n2, q2⟩ := ne_i k _ e2
    rw [List.getElem?_set_ne (Ne.symm n1), List.getElem?_set_ne (Ne.symm n2)]
    exact E.sep j k _ _ q1 q2 ne
  · obtain ⟨n1, q1⟩ := ne_i j _ e1
    rw [List.getElem?_set_ne (Ne.symm n1)] at e2
    exact E.mine j us b q1 e2
  · have hj : j ≠ i := fun z => by subst z; exact hp b e
    rw [List.getElem?_set_ne (Ne.symm hj), List.getElem?_set_ne (Ne.symm hj)]
    exact E.pin j b e
/-- a slot less known -/
theorem EnvOk.weak (E : EnvOk B K F H σ ρ) (hl : ρ'.length = ρ.length) (w : ∀ (i : Nat) (l : L), ρ'[i]? = some (some l) → ρ[i]? = some (some l)) (hp : ∀ (i : Nat) (a : Addr), B.pin = some (i, a) → ρ'[i]? = ρ[i]?) : EnvOk B K F H σ ρ' :=
  ⟨E.st, E.len.trans hl.symm, fun i l e => E.sl i l (w i l e), fun i j xs ys e1 e2 => E.sep i j xs ys (w _ _ e1) (w _ _ e2), fun i xs a e => E.mine i xs a (w _ _ e), fun i a e => by rw [hp i a e]; exact E.pin i a e⟩
/-- the heap goes on, all that was there stays -/
structure Stp (F H F' H' : Hp) : Prop where
  ef : Ex F F'
  fh : Ex F' H'
  eh : Ex H H'
  nf : ∀ a, F a = none → H a ≠ none → F' a = none
theorem EnvOk.step (E : EnvOk B K F H σ ρ) (s : Stp F H F' H') : EnvOk B K F' H' σ ρ := by
  refine ⟨⟨E.st.f0.trans s.ef, s.fh, fun a u e n => s.eh a u (E.st.h0 a u e n), fun a h => ?_, fun a h1 h2 => s.nf a (E.st.nf a h1 h2) (E.st.th a h2)⟩, E.len, fun i l e => ?_, E.sep, E.mine, E.pin⟩
  · cases q : H a with
    | none => exact absurd q (E.st.th a h)
    | some u => rw [s.eh a u q]; exact fun z => nomatch z
  · obtain ⟨v, e1, sl⟩ := E.sl i l e
    refine ⟨v, e1, sl.mono s.ef fun a xs el ev => ?_⟩
    subst el ev
    obtain ⟨a', vs, ea, k1, k2, _⟩ := sl
    cases ea
    exact ⟨s.nf a k1 (by rw [k2]; exact fun z => nomatch z), (s.eh a _ k2).trans k2.symm⟩
/-- a value is data: a new list is frozen -/
theorem EnvOk.asD (E : EnvOk B K F H σ ρ) {r : R} {x : PyData} (hv : ROk B K F H σ ρ v r) (hx : r.toD = some x) : ∃ F', EnvOk B K F' H σ ρ ∧ Ex F F' ∧ Rp K F' v x := by
  cases r with
  | d y => cases hx; exact ⟨F, E, Ex.refl F, hv⟩
  | new xs =>
    cases hx
    obtain ⟨a, vs, rfl, k1, k2, k3, k4, k5⟩ := hv
    have ef : Ex F (upd F a (.lst vs)) := Ex.new k1
    refine ⟨upd F a (.lst vs), ⟨⟨E.st.f0.trans ef, fun b u e => ?_, E.st.h0, E.st.th, fun b h1 h2 => ?_⟩, E.len, fun i l e => ?_, E.sep, E.mine, E.pin⟩, ef, .lst upd_same (k3.mono ef)⟩
    · by_cases hb : b = a
      · subst hb; rw [upd_same] at e; rw [k2]; exact e
      · rw [upd_ne hb] at e; exact E.fh b u e
    · have hb : b ≠ a := fun z => h2 (by rw [z]; exact k4)
      rw [upd_ne hb]; exact E.st.nf b h1 h2
    · obtain ⟨w, e1, s⟩ := E.sl i l e
      refine ⟨w, e1, s.mono ef fun b ys el ev => ?_⟩
      subst el ev
      obtain ⟨b', vs', eb, m1, m2, _⟩ := s
      cases eb
      have hb : b ≠ a := fun z => by subst z; exact k5 i _ e e1
      rw [upd_ne hb]
      exact ⟨m1, rfl⟩
  | scr ns => cases hx
  | raw w => cases hx
end
end SV

set_option maxHeartbeats 1000000
namespace SV
open PySem PySem.Spec L2
open Evl (Ex)

/-! ### judgements -/
inductive Ar where
  | d (x : PyData)
  | scr (ns : List Int)
  | raw (v : V)
  | own (j : Nat)
def R.toA : R → Option Ar
  | .d x => some (.d x)
  | .new xs => some (.d (.list xs))
  | .scr ns => some (.scr ns)
  | .raw v => some (.raw v)
def AOk (K : Fr) (F : Hp) (σ : St) (v : V) : Ar → Prop
  | .d x => Rp K F v x
  | .scr ns => ∃ a, v = .ref a ∧ SqL K F a (ns.map V.int)
  | .raw w => v = w
  | .own j => σ[j]? = some (some v)
inductive AOks (K : Fr) (F : Hp) (σ : St) : List V → List Ar → Prop
  | nil : AOks K F σ [] []
  | cons {v : V} {vs : List V} {a : Ar} {as : List Ar} : AOk K F σ v a → AOks K F σ vs as → AOks K F σ (v :: vs) (a :: as)
theorem AOk.mono {K : Fr} {F F' : Hp} {σ : St} {v : V} {a : Ar} (e : Ex F F') (h : AOk K F σ v a) : AOk K F' σ v a := by
  cases a with
  | d x => exact Rp.mono e h
  | scr ns => obtain ⟨a, q, s⟩ := h; exact ⟨a, q, e.sl s⟩
  | raw w => exact h
  | own j => exact h
def WE (B : Bs) (K : Fr) (te : TE) (ρ : En) (Q : R → En → Prop) : Prop := ∀ F H σ, EnvOk B K F H σ ρ → ∀ QQ : VK, (∀ v r F' H' ρ', EnvOk B K F' H' σ ρ' → Ex F F' → ROk B K F' H' σ ρ' v r → Q r ρ' → QQ v H') → te σ H QQ
def WD (B : Bs) (K : Fr) (te : TE) (ρ : En) (Q : PyData → En → Prop) : Prop := ∀ F H σ, EnvOk B K F H σ ρ → ∀ QQ : VK, (∀ v x F' H' ρ', EnvOk B K F' H' σ ρ' → Ex F F' → Rp K F' v x → Q x ρ' → QQ v H') → te σ H QQ
def WT (B : Bs) (K : Fr) (tt : TT) (ρ : En) (Q : Bool → En → Prop) : Prop := ∀ F H σ, EnvOk B K F H σ ρ → ∀ QQ : Bool → Hp → Prop, (∀ b F' H' ρ', EnvOk B K F' H' σ ρ' → Ex F F' → Q b ρ' → QQ b H') → tt σ H QQ
def WA (B : Bs) (K : Fr) (ta : TA) (ρ : En) (Q : List Ar → En → Prop) : Prop := ∀ F H σ, EnvOk B K F H σ ρ → ∀ QQ : List V → Hp → Prop, (∀ vs as F' H' ρ', EnvOk B K F' H' σ ρ' → Ex F F' → AOks K F' σ vs as → Q as ρ' → QQ vs H') → ta σ H QQ
def WO (B : Bs) (K : Fr) (to : TO) (ρ : En) (Q : Option Int → En → Prop) : Prop := ∀ F H σ, EnvOk B K F H σ ρ → ∀ QQ : Option Int → Hp → Prop, (∀ o F' H' ρ', EnvOk B K F' H' σ ρ' → Ex F F' → Q o ρ' → QQ o H') → to σ H QQ
structure Zs where
  nx : En → Prop
  rt : R → En → Prop
  bk : En → Prop := fun _ => False
  ct : En → Prop := fun _ => False
/-- another next; a loop's turn -/
abbrev Zs.sq (Z : Zs) (n : En → Prop) : Zs := ⟨n, Z.rt, Z.bk, Z.ct⟩
abbrev Zs.lp (Z : Zs) (n : En → Prop) : Zs := ⟨n, Z.rt, Z.nx, n⟩
structure ZOk (B : Bs) (K : Fr) (F0 : Hp) (Z : Zs) (D : Ends) : Prop where
  nx : ∀ F H σ ρ, EnvOk B K F H σ ρ → Ex F0 F → Z.nx ρ → D.nx σ H
  rt : ∀ F H σ ρ v r, EnvOk B K F H σ ρ → Ex F0 F → ROk B K F H σ ρ v r → Z.rt r ρ → D.rt v H
  bk : ∀ F H σ ρ, EnvOk B K F H σ ρ → Ex F0 F → Z.bk ρ → D.bk σ H
  ct : ∀ F H σ ρ, EnvOk B K F H σ ρ → Ex F0 F → Z.ct ρ → D.ct σ H
theorem ZOk.up {B : Bs} {K : Fr} {F0 F1 : Hp} {Z : Zs} {D : Ends} (ok : ZOk B K F0 Z D) (e : Ex F0 F1) : ZOk B K F1 Z D :=
  ⟨fun F H σ ρ E e' => ok.nx F H σ ρ E (e.trans e'), fun F H σ ρ v r E e' => ok.rt F H σ ρ v r E (e.trans e'), fun F H σ ρ E e' => ok.bk F H σ ρ E (e.trans e'), fun F H σ ρ E e' => ok.ct F H σ ρ E (e.trans e')⟩
def WS (B : Bs) (K : Fr) (ts : TS) (ρ : En) (Z : Zs) : Prop := ∀ F H σ, EnvOk B K F H σ ρ → ∀ D : Ends, ZOk B K F Z D → ts D σ H

section
variable {B : Bs} {K : Fr} {ρ : En} {ta tb te : TE} {tt : TT} {tr tl : TA} {Q : R → En → Prop} {QD : PyData → En → Prop} {QT : Bool → En → Prop} {QA : List Ar → En → Prop} {QO : Option Int → En → Prop}

/-! ### between them -/
theorem we_d (h : WD B K te ρ fun x ρ' => Q (.d x) ρ') : WE B K te ρ Q := fun F H σ E QQ k =>
  h F H σ E QQ fun v x F' H' ρ' E' ef r q => k v (.d x) F' H' ρ' E' ef r q
theorem wd_e (h : WE B K te ρ fun r ρ' => ∃ x, r.toD = some x ∧ QD x ρ') : WD B K te ρ QD := fun F H σ E QQ k =>
  h F H σ E QQ fun v r F' H' ρ' E' ef rv ⟨x, hx, q⟩ => by
    obtain ⟨F2, E2, e2, r2⟩ := E'.asD rv hx
    exact k v x F2 H' ρ' E2 (ef.trans e2) r2 q
theorem we_mono {Q' : R → En → Prop} (h : WE B K te ρ Q') (i : ∀ r ρ', Q' r ρ' → Q r ρ') : WE B K te ρ Q := fun F H σ E QQ k =>
  h F H σ E QQ fun v r F' H' ρ' E' ef rv q => k v r F' H' ρ' E' ef rv (i r ρ' q)
theorem wd_mono {Q' : PyData → En → Prop} (h : WD B K te ρ Q') (i : ∀ r ρ', Q' r ρ' → QD r ρ') : WD B K te ρ QD := fun F H σ E QQ k =>
  h F H σ E QQ fun v r F' H' ρ' E' ef rv q => k v r F' H' ρ' E' ef rv (i r ρ' q)

/-! ### names, constants -/
theorem wd_var {i : Nat} {x : PyData} (h : ρ[i]? = some (some (.d x))) (q : QD x ρ) : WD B K (tVar i) ρ QD := fun F H σ E QQ k => by
  obtain ⟨v, e, s⟩ := E.sl i _ h
  exact ⟨v, e, k v x F H ρ E (Ex.refl F) s q⟩
theorem we_scr {i : Nat} {ns : List Int} (h : ρ[i]? = some (some (.scr ns))) (q : Q (.scr ns) ρ) : WE B K (tVar i) ρ Q := fun F H σ E QQ k => by
  obtain ⟨v, e, s⟩ := E.sl i _ h
  exact ⟨v, e, k v (.scr ns) F H ρ E (Ex.refl F) s q⟩
theorem we_rawv {i : Nat} {w : V} (h : ρ[i]? = some (some (.raw w))) (q : Q (.raw w) ρ) : WE B K (tVar i) ρ Q := fun F H σ E QQ k => by
  obtain ⟨v, e, s⟩ := E.sl i _ h
  exact ⟨v, e, k v (.raw w) F H ρ E (Ex.refl F) s q⟩
theorem wd_int {i : Int} (q : QD (.int i) ρ) : WD B K (tC (.int i)) ρ QD := fun F H σ E QQ k => k _ _ F H ρ E (Ex.refl F) (.int i) q
theorem wd_bl {b : Bool} (q : QD (.bool b) ρ) : WD B K (tC (.bl b)) ρ QD := fun F H σ E QQ k => k _ _ F H ρ E (Ex.refl F) (.bl b) q
theorem wd_str {s : Str} (q : QD (.str s) ρ) : WD B K (tC (.str s)) ρ QD := fun F H σ E QQ k => k _ _ F H ρ E (Ex.refl F) (.str s) q
theorem wd_non (q : QD .none ρ) : WD B K (tC .non) ρ QD := fun F H σ E QQ k => k _ _ F H ρ E (Ex.refl F) .non q
theorem we_raw {w : V} (q : Q (.raw w) ρ) : WE B K (tC w) ρ Q := fun F H σ E QQ k => k _ (.raw w) F H ρ E (Ex.refl F) rfl q

/-! ### arguments -/
theorem wa_nil (q : QA [] ρ) : WA B K tNil ρ QA := fun F H σ E QQ k => k [] [] F H ρ E (Ex.refl F) .nil q
theorem wa_e (h : WE B K te ρ fun r ρ1 => ∃ a, r.toA = some a ∧ WA B K tr ρ1 fun as ρ2 => QA (a :: as) ρ2) : WA B K (tCons te tr) ρ QA := fun F H σ E QQ k =>
  h F H σ E _ fun v r F1 H1 ρ1 E1 e1 rv ⟨a, ha, q⟩ => by
    have key : ∃ F2, EnvOk B K F2 H1 σ ρ1 ∧ Ex F1 F2 ∧ AOk K F2 σ v a := by
      cases r with
      | d x => cases ha; exact ⟨F1, E1, Ex.refl F1, rv⟩
      | new xs => cases ha; exact E1.asD (r := .new xs) rv rfl
      | scr ns => cases ha; exact ⟨F1, E1, Ex.refl F1, rv⟩
      | raw w => cases ha; exact ⟨F1, E1, Ex.refl F1, rv⟩
    obtain ⟨F2, E2, e2, av⟩ := key
    exact q F2 H1 σ E2 _ fun vs as F3 H3 ρ3 E3 e3 as' q3 => k (v :: vs) (a :: as) F3 H3 ρ3 E3 ((e1.trans e2).trans e3) (.cons (av.mono e3) as') q3
theorem wa_d (h : WD B K te ρ fun x ρ1 => WA B K tr ρ1 fun as ρ2 => QA (.d x :: as) ρ2) : WA B K (tCons te tr) ρ QA := fun F H σ E QQ k =>
  h F H σ E _ fun v x F1 H1 ρ1 E1 e1 rv q => q F1 H1 σ E1 _ fun vs as F3 H3 ρ3 E3 e3 as' q3 => k (v :: vs) (.d x :: as) F3 H3 ρ3 E3 (e1.trans e3) (.cons (AOk.mono (a := .d x) e3 rv) as') q3
theorem wa_own {j : Nat} {xs : List PyData} (h : ρ[j]? = some (some (.own xs))) (q : WA B K tr ρ fun as ρ2 => QA (.own j :: as) ρ2) : WA B K (tCons (tVar j) tr) ρ QA := fun F H σ E QQ k => by
  obtain ⟨a, vs, e, _⟩ := E.own_at h
  exact ⟨.ref a, e, q F H σ E _ fun vs as F3 H3 ρ3 E3 e3 as' q3 => k _ _ F3 H3 ρ3 E3 e3 (.cons (a := .own j) e as') q3⟩
/-- all arguments data -/
def WDs (B : Bs) (K : Fr) (ta : TA) (ρ : En) (Q : List PyData → En → Prop) : Prop := ∀ F H σ, EnvOk B K F H σ ρ → ∀ QQ : List V → Hp → Prop, (∀ vs xs F' H' ρ', EnvOk B K F' H' σ ρ' → Ex F F' → RpA K F' vs xs → Q xs ρ' → QQ vs H') → ta σ H QQ
theorem wds_nil {QL : List PyData → En → Prop} (q : QL [] ρ) : WDs B K tNil ρ QL := fun F H σ E QQ k => k [] [] F H ρ E (Ex.refl F) .nil q
theorem wds_cons {QL : List PyData → En → Prop} (h : WD B K te ρ fun x ρ1 => WDs B K tr ρ1 fun xs ρ2 => QL (x :: xs) ρ2) : WDs B K (tCons te tr) ρ QL := fun F H σ E QQ k =>
  h F H σ E _ fun v x F1 H1 ρ1 E1 e1 rv q => q F1 H1 σ E1 _ fun vs as F3 H3 ρ3 E3 e3 as' q3 => k (v :: vs) (x :: as) F3 H3 ρ3 E3 (e1.trans e3) (.cons (Rp.mono e3 rv) as') q3

/-! ### displays -/
def lim : Nat := 1000000
theorem lim_le {n : Nat} (h : n ≤ lim) : n ≤ sizeLine := Nat.le_trans h (by decide)
theorem lim_lt {n : Nat} (h : n < lim) : n < sizeLine := Nat.lt_of_lt_of_le h (by decide)
theorem we_lst (h : WDs B K tl ρ fun xs ρ' => xs.length ≤ lim ∧ Q (.new xs) ρ') : WE B K (tLst tl) ρ Q := fun F H σ E QQ k =>
  h F H σ E _ fun vs xs F1 H1 ρ1 E1 e1 rv ⟨hz, q⟩ => ⟨by rw [rv.length]; exact lim_le hz, fun p hp => by
    have E2 := E1.allocO (o := .lst vs) hp
    refine k _ (.new xs) F1 _ ρ1 E2 e1 ⟨p, vs, rfl, E1.fh.free hp, upd_same, rv, E1.h0p hp, fun i ys hi hs => ?_⟩ q
    obtain ⟨a, ws, e, _, k2, _⟩ := E1.own_at hi
    rw [hs] at e
    cases e
    rw [hp] at k2
    cases k2⟩
theorem wd_tup (h : WDs B K tl ρ fun xs ρ' => xs.length ≤ lim ∧ QD (.tuple xs) ρ') : WD B K (tTup tl) ρ QD := fun F H σ E QQ k =>
  h F H σ E _ fun vs xs F1 H1 ρ1 E1 e1 rv ⟨hz, q⟩ => ⟨by rw [rv.length]; exact lim_le hz, fun p hp => by
    obtain ⟨E2, e2⟩ := E1.alloc (o := .tup vs) hp
    exact k _ _ _ _ ρ1 E2 (e1.trans e2) (.tup (.inl (.inl upd_same)) (rv.mono e2)) q⟩
/-- new objects made by value rules -/
theorem new_ok {F H : Hp} {σ : St} {ρ : En} (E : EnvOk B K F H σ ρ) {p : Addr} {vs : List V} {xs : List PyData} (hp : H p = none) (rv : RpA K F vs xs) :
    EnvOk B K F (upd H p (.lst vs)) σ ρ ∧ ROk B K F (upd H p (.lst vs)) σ ρ (.ref p) (.new xs) := by
  refine ⟨E.allocO hp, p, vs, rfl, E.fh.free hp, upd_same, rv, E.h0p hp, fun i ys hi hs => ?_⟩
  obtain ⟨a, ws, e, _, k2, _⟩ := E.own_at hi
  rw [hs] at e
  cases e
  rw [hp] at k2
  cases k2

/-! ### operators -/
abbrev rPlus (K : Fr) : R2 := fun x y H Q => (rI0 fun i j => .int (i + j)) x y H Q ∨ (∃ i j, x = .str i ∧ y = .str j ∧ i.length + j.length ≤ sizeLine ∧ Q (.str (i ++ j)) H) ∨ rCat x y H Q ∨ rCatA K x y H Q
theorem op_plus {X : Cx} : OpR X (binaryOp .Add) (rPlus X.K) := op_add.or (op_add_str.or (op_cat.or op_catA))
def Plus : PyData → PyData → (R → Prop) → Prop
  | .int i, .int j, k => k (.d (.int (i + j)))
  | .str s, .str t, k => s.length + t.length ≤ lim ∧ k (.d (.str (s ++ t)))
  | .list xs, .list ys, k => xs.length + ys.length ≤ lim ∧ k (.new (xs ++ ys))
  | _, _, _ => False
theorem we_plus (h : WD B K ta ρ fun x ρ1 => WD B K tb ρ1 fun y ρ2 => Plus x y fun r => Q r ρ2) : WE B K (tOp (rPlus K) ta tb) ρ Q := fun F H σ E QQ k =>
  h F H σ E _ fun v x F1 H1 ρ1 E1 e1 rv q => q F1 H1 σ E1 _ fun u y F2 H2 ρ2 E2 e2 ru q2 => by
    have e12 := e1.trans e2
    have rv' := Rp.mono e2 rv
    cases x <;> cases y <;> try exact False.elim q2
    · cases rv; cases ru
      exact .inl ⟨_, _, rfl, rfl, k _ (.d (.int _)) F2 H2 ρ2 E2 e12 (Rp.int _) q2⟩
    · cases rv; cases ru
      exact .inr (.inl ⟨_, _, rfl, rfl, lim_le q2.1, k _ (.d (.str _)) F2 H2 ρ2 E2 e12 (Rp.str _) q2.2⟩)
    · cases rv' with
      | @lst a vs xs ha ra =>
      cases ru with
      | @lst b ws ys hb rb =>
      refine .inr (.inr (.inl ⟨a, b, vs, ws, rfl, rfl, E2.fh _ _ ha, E2.fh _ _ hb, by rw [ra.length, rb.length]; exact lim_le q2.1, fun p hp => ?_⟩))
      obtain ⟨E3, r3⟩ := new_ok E2 hp (ra.append rb)
      exact k _ _ F2 _ ρ2 E3 e12 r3 q2.2
theorem wd_sub (h : WD B K ta ρ fun x ρ1 => ∃ i, x = .int i ∧ WD B K tb ρ1 fun y ρ2 => ∃ j, y = .int j ∧ QD (.int (i - j)) ρ2) : WD B K (tOp (rI0 fun i j => .int (i - j)) ta tb) ρ QD := fun F H σ E QQ k =>
  h F H σ E _ fun v x F1 H1 ρ1 E1 e1 rv ⟨i, hx, q⟩ => q F1 H1 σ E1 _ fun u y F2 H2 ρ2 E2 e2 ru ⟨j, hy, q2⟩ => by
    subst hx hy
    cases rv; cases ru
    exact ⟨i, j, rfl, rfl, k _ _ F2 H2 ρ2 E2 (e1.trans e2) (.int _) q2⟩
theorem wd_iop {C : Int → Int → Prop} {g : Int → Int → Int} (h : WD B K ta ρ fun x ρ1 => ∃ i, x = .int i ∧ WD B K tb ρ1 fun y ρ2 => ∃ j, y = .int j ∧ C i j ∧ QD (.int (g i j)) ρ2) : WD B K (tOp (rI C fun i j => .int (g i j)) ta tb) ρ QD := fun F H σ E QQ k =>
  h F H σ E _ fun v x F1 H1 ρ1 E1 e1 rv ⟨i, hx, q⟩ => q F1 H1 σ E1 _ fun u y F2 H2 ρ2 E2 e2 ru ⟨j, hy, hc, q2⟩ => by
    subst hx hy
    cases rv; cases ru
    exact ⟨i, j, rfl, rfl, hc, k _ _ F2 H2 ρ2 E2 (e1.trans e2) (.int _) q2⟩
theorem wd_neg (h : WD B K ta ρ fun x ρ1 => ∃ i, x = .int i ∧ QD (.int (-i)) ρ1) : WD B K (tUn (rU fun i => .int (-i)) ta) ρ QD := fun F H σ E QQ k =>
  h F H σ E _ fun v x F1 H1 ρ1 E1 e1 rv ⟨i, hx, q⟩ => by
    subst hx
    cases rv
    exact ⟨i, rfl, k _ _ F1 H1 ρ1 E1 e1 (.int _) q⟩
/-- list * int -/
theorem we_rep (h : WD B K ta ρ fun x ρ1 => ∃ xs, x = .list xs ∧ WD B K tb ρ1 fun y ρ2 => ∃ j, y = .int j ∧ 0 ≤ j ∧ j ≤ 1000000 ∧ xs.length * j.toNat ≤ lim ∧ Q (.new (List.replicate j.toNat xs).flatten) ρ2) : WE B K (tOp rRep ta tb) ρ Q := fun F H σ E QQ k =>
  h F H σ E _ fun v x F1 H1 ρ1 E1 e1 rv ⟨xs, hx, q⟩ => q F1 H1 σ E1 _ fun u y F2 H2 ρ2 E2 e2 ru ⟨j, hy, j0, j1, hl, q2⟩ => by
    subst hx hy
    have rv' := Rp.mono e2 rv
    cases ru
    cases rv' with
    | @lst a vs xs ha ra =>
    refine ⟨a, j, vs, rfl, rfl, E2.fh _ _ ha, by omega, by omega, by rw [ra.length]; exact lim_le hl, fun p hp => ?_⟩
    obtain ⟨E3, r3⟩ := new_ok E2 hp (ra.rep _)
    exact k _ _ F2 _ ρ2 E3 (e1.trans e2) r3 q2

/-! ### comparisons -/
theorem wd_lt {p : Int → Int → Bool} (h : WD B K ta ρ fun x ρ1 => ∃ i, x = .int i ∧ WD B K tb ρ1 fun y ρ2 => ∃ j, y = .int j ∧ QD (.bool (p i j)) ρ2) : WD B K (tOp (rI0 fun i j => .bl (p i j)) ta tb) ρ QD := fun F H σ E QQ k =>
  h F H σ E _ fun v x F1 H1 ρ1 E1 e1 rv ⟨i, hx, q⟩ => q F1 H1 σ E1 _ fun u y F2 H2 ρ2 E2 e2 ru ⟨j, hy, q2⟩ => by
    subst hx hy
    cases rv; cases ru
    exact ⟨i, j, rfl, rfl, k _ _ F2 H2 ρ2 E2 (e1.trans e2) (.bl _) q2⟩
/-- == and != of data -/
theorem wd_eqD (h : WD B K ta ρ fun x ρ1 => WD B K tb ρ1 fun y ρ2 => (noD x = true ∧ noD y = true ∧ SeqAt.shaped x = true ∧ SeqAt.shaped y = true) ∧ QD (.bool (PyData.eqv x y)) ρ2) : WD B K (tOp (rEqD K) ta tb) ρ QD := fun F H σ E QQ k =>
  h F H σ E _ fun v x F1 H1 ρ1 E1 e1 rv q => q F1 H1 σ E1 _ fun u y F2 H2 ρ2 E2 e2 ru ⟨⟨n1, n2, s1, s2⟩, q2⟩ =>
    ⟨x, y, Rp.dp E2.fh (Rp.mono e2 rv) n1, Rp.dp E2.fh ru n2, s1, s2, k _ _ F2 H2 ρ2 E2 (e1.trans e2) (.bl _) q2⟩
theorem wd_neD (h : WD B K ta ρ fun x ρ1 => WD B K tb ρ1 fun y ρ2 => (noD x = true ∧ noD y = true ∧ SeqAt.shaped x = true ∧ SeqAt.shaped y = true) ∧ QD (.bool (!PyData.eqv x y)) ρ2) : WD B K (tOp (rNeD K) ta tb) ρ QD := fun F H σ E QQ k =>
  h F H σ E _ fun v x F1 H1 ρ1 E1 e1 rv q => q F1 H1 σ E1 _ fun u y F2 H2 ρ2 E2 e2 ru ⟨⟨n1, n2, s1, s2⟩, q2⟩ =>
    ⟨x, y, Rp.dp E2.fh (Rp.mono e2 rv) n1, Rp.dp E2.fh ru n2, s1, s2, k _ _ F2 H2 ρ2 E2 (e1.trans e2) (.bl _) q2⟩
/-- own == data, own != data -/
theorem own_dp {F H : Hp} {σ : St} (E : EnvOk B K F H σ ρ) {i : Nat} {xs : List PyData} (h : ρ[i]? = some (some (.own xs))) (n : noDs xs = true) {v : V} (hv : σ[i]? = some (some v)) : Dp K H v (.list xs) := by
  obtain ⟨a, vs, e, _, k2, k3⟩ := E.own_at h
  rw [hv] at e
  cases e
  exact .lst (.inl (.inl k2)) (RpA.dp E.fh k3 n)
theorem wd_eqO {i : Nat} {zs : List PyData} (hi : ρ[i]? = some (some (.own zs))) (h : WD B K tb ρ fun y ρ2 => ∃ xs, ρ2[i]? = some (some (.own xs)) ∧ (noDs xs = true ∧ noD y = true ∧ SeqAt.shaped (.list xs) = true ∧ SeqAt.shaped y = true) ∧ QD (.bool (PyData.eqv (.list xs) y)) ρ2) : WD B K (tOp (rEqD K) (tVar i) tb) ρ QD := fun F H σ E QQ k => by
  obtain ⟨a, vs, e, _⟩ := E.own_at hi
  exact ⟨.ref a, e, h F H σ E _ fun u y F2 H2 ρ2 E2 e2 ru ⟨xs, hx, ⟨n1, n2, s1, s2⟩, q2⟩ => ⟨_, y, own_dp E2 hx n1 e, Rp.dp E2.fh ru n2, s1, s2, k _ _ F2 H2 ρ2 E2 e2 (.bl _) q2⟩⟩
theorem wd_neO {i : Nat} {zs : List PyData} (hi : ρ[i]? = some (some (.own zs))) (h : WD B K tb ρ fun y ρ2 => ∃ xs, ρ2[i]? = some (some (.own xs)) ∧ (noDs xs = true ∧ noD y = true ∧ SeqAt.shaped (.list xs) = true ∧ SeqAt.shaped y = true) ∧ QD (.bool (!PyData.eqv (.list xs) y)) ρ2) : WD B K (tOp (rNeD K) (tVar i) tb) ρ QD := fun F H σ E QQ k => by
  obtain ⟨a, vs, e, _⟩ := E.own_at hi
  exact ⟨.ref a, e, h F H σ E _ fun u y F2 H2 ρ2 E2 e2 ru ⟨xs, hx, ⟨n1, n2, s1, s2⟩, q2⟩ => ⟨_, y, own_dp E2 hx n1 e, Rp.dp E2.fh ru n2, s1, s2, k _ _ F2 H2 ρ2 E2 e2 (.bl _) q2⟩⟩
def isNon : PyData → Bool
  | .none => true
  | _ => false
/-- is None -/
theorem wd_isN (h : WD B K ta ρ fun x ρ1 => QD (.bool (isNon x)) ρ1) : WD B K (tIsN ta) ρ QD := fun F H σ E QQ k =>
  h F H σ E _ fun v x F1 H1 ρ1 E1 e1 rv q => by
    have e : V.bl (decide (v = .non)) = V.bl (isNon x) := by cases rv <;> rfl
    rw [e]
    exact k _ _ F1 H1 ρ1 E1 e1 (.bl _) q
theorem wd_notN (h : WD B K ta ρ fun x ρ1 => QD (.bool (!isNon x)) ρ1) : WD B K (tNotN ta) ρ QD := fun F H σ E QQ k =>
  h F H σ E _ fun v x F1 H1 ρ1 E1 e1 rv q => by
    have e : V.bl (!decide (v = .non)) = V.bl (!isNon x) := by cases rv <;> rfl
    rw [e]
    exact k _ _ F1 H1 ρ1 E1 e1 (.bl _) q

/-! ### tests -/
theorem wt_test (h : WD B K te ρ fun x ρ1 => ∃ b, x = .bool b ∧ QT b ρ1) : WT B K (tTest te) ρ QT := fun F H σ E QQ k =>
  h F H σ E _ fun v x F1 H1 ρ1 E1 e1 rv ⟨b, hx, q⟩ => by
    subst hx
    cases rv
    exact ⟨b, rfl, k b F1 H1 ρ1 E1 e1 q⟩
theorem wt_B (h : WD B K te ρ fun x ρ1 => ∃ b, x = .bool b ∧ QT b ρ1) : WT B K (tB te) ρ QT := fun F H σ E QQ k =>
  h F H σ E _ fun v x F1 H1 ρ1 E1 e1 rv ⟨b, hx, q⟩ => by
    subst hx
    cases rv
    exact ⟨b, rfl, k b F1 H1 ρ1 E1 e1 q⟩
theorem wt_and {t u : TT} (h : WT B K t ρ fun b ρ1 => (b = true → WT B K u ρ1 QT) ∧ (b = false → QT false ρ1)) : WT B K (tAnd t u) ρ QT := fun F H σ E QQ k =>
  h F H σ E _ fun b F1 H1 ρ1 E1 e1 q => by
    cases b with
    | true => exact q.1 rfl F1 H1 σ E1 _ fun b F2 H2 ρ2 E2 e2 q2 => k b F2 H2 ρ2 E2 (e1.trans e2) q2
    | false => exact k false F1 H1 ρ1 E1 e1 (q.2 rfl)
theorem wt_or {t u : TT} (h : WT B K t ρ fun b ρ1 => (b = true → QT true ρ1) ∧ (b = false → WT B K u ρ1 QT)) : WT B K (tOr t u) ρ QT := fun F H σ E QQ k =>
  h F H σ E _ fun b F1 H1 ρ1 E1 e1 q => by
    cases b with
    | false => exact q.2 rfl F1 H1 σ E1 _ fun b F2 H2 ρ2 E2 e2 q2 => k b F2 H2 ρ2 E2 (e1.trans e2) q2
    | true => exact k true F1 H1 ρ1 E1 e1 (q.1 rfl)
theorem wt_not {t : TT} (h : WT B K t ρ fun b ρ1 => QT (!b) ρ1) : WT B K (tNot t) ρ QT := fun F H σ E QQ k =>
  h F H σ E _ fun b F1 H1 ρ1 E1 e1 q => k (!b) F1 H1 ρ1 E1 e1 q
theorem wt_mono {t : TT} {Q' : Bool → En → Prop} (h : WT B K t ρ Q') (i : ∀ b ρ', Q' b ρ' → QT b ρ') : WT B K t ρ QT := fun F H σ E QQ k =>
  h F H σ E QQ fun v F' H' ρ' E' ef q => k v F' H' ρ' E' ef (i v ρ' q)
theorem wd_andV (h : WD B K ta ρ fun x ρ1 => ∃ b, x = .bool b ∧ (b = true → WD B K tb ρ1 QD) ∧ (b = false → QD (.bool false) ρ1)) : WD B K (tAndV ta tb) ρ QD := fun F H σ E QQ k =>
  h F H σ E _ fun v x F1 H1 ρ1 E1 e1 rv ⟨b, hx, q⟩ => by
    subst hx
    cases rv
    refine ⟨b, rfl, ?_⟩
    cases b with
    | true => exact q.1 rfl F1 H1 σ E1 _ fun v x F2 H2 ρ2 E2 e2 r2 q2 => k v x F2 H2 ρ2 E2 (e1.trans e2) r2 q2
    | false => exact k _ _ F1 H1 ρ1 E1 e1 (.bl false) (q.2 rfl)
theorem wd_orV (h : WD B K ta ρ fun x ρ1 => ∃ b, x = .bool b ∧ (b = true → QD (.bool true) ρ1) ∧ (b = false → WD B K tb ρ1 QD)) : WD B K (tOrV ta tb) ρ QD := fun F H σ E QQ k =>
  h F H σ E _ fun v x F1 H1 ρ1 E1 e1 rv ⟨b, hx, q⟩ => by
    subst hx
    cases rv
    refine ⟨b, rfl, ?_⟩
    cases b with
    | false => exact q.2 rfl F1 H1 σ E1 _ fun v x F2 H2 ρ2 E2 e2 r2 q2 => k v x F2 H2 ρ2 E2 (e1.trans e2) r2 q2
    | true => exact k _ _ F1 H1 ρ1 E1 e1 (.bl true) (q.1 rfl)
theorem wd_notV (h : WD B K ta ρ fun x ρ1 => ∃ b, x = .bool b ∧ QD (.bool (!b)) ρ1) : WD B K (tNotV ta) ρ QD := fun F H σ E QQ k =>
  h F H σ E _ fun v x F1 H1 ρ1 E1 e1 rv ⟨b, hx, q⟩ => by
    subst hx
    cases rv
    exact ⟨b, rfl, k _ _ F1 H1 ρ1 E1 e1 (.bl _) q⟩
theorem we_if (h : WT B K tt ρ fun b ρ1 => (b = true → WE B K ta ρ1 Q) ∧ (b = false → WE B K tb ρ1 Q)) : WE B K (tIf tt ta tb) ρ Q := fun F H σ E QQ k =>
  h F H σ E _ fun b F1 H1 ρ1 E1 e1 q => by
    cases b with
    | true => exact q.1 rfl F1 H1 σ E1 _ fun v r F2 H2 ρ2 E2 e2 r2 q2 => k v r F2 H2 ρ2 E2 (e1.trans e2) r2 q2
    | false => exact q.2 rfl F1 H1 σ E1 _ fun v r F2 H2 ρ2 E2 e2 r2 q2 => k v r F2 H2 ρ2 E2 (e1.trans e2) r2 q2

/-! ### subscripts -/
def Idx : PyData → PyData → (PyData → Prop) → Prop
  | .list xs, .int i, k => ∃ d, atI xs i = some d ∧ k d
  | .tuple xs, .int i, k => ∃ d, atI xs i = some d ∧ k d
  | .str z, .int i, k => z.length ≤ lim ∧ ∃ c, atI z.cps.toList i = some c ∧ k (.str ⟨#[c]⟩)
  | _, _, _ => False
theorem RpA.at {F : Hp} {vs : List V} {xs : List PyData} {i : Int} {d : PyData} (r : RpA K F vs xs) (h : atI xs i = some d) : ∃ v, atI vs i = some v ∧ Rp K F v d := by
  unfold atI at h ⊢
  rw [r.length]
  cases e : ixN xs.length i with
  | none => rw [e] at h; cases h
  | some j =>
    rw [e] at h
    obtain ⟨v, hv, q⟩ := r.get' (i := j) h
    exact ⟨v, hv, q⟩
theorem wd_ix (h : WD B K ta ρ fun x ρ1 => WD B K tb ρ1 fun y ρ2 => Idx x y fun z => QD z ρ2) : WD B K (tOp (rIx K) ta tb) ρ QD := fun F H σ E QQ k =>
  h F H σ E _ fun v x F1 H1 ρ1 E1 e1 rv q => q F1 H1 σ E1 _ fun u y F2 H2 ρ2 E2 e2 ru q2 => by
    have e12 := e1.trans e2
    have rv' := Rp.mono e2 rv
    cases x <;> cases y <;> try exact False.elim q2
    · cases rv'; cases ru
      obtain ⟨hz, c, hc, q3⟩ := q2
      exact .inr (.inr ⟨_, _, c, rfl, rfl, lim_le hz, hc, k _ _ F2 H2 ρ2 E2 e12 (.str _) q3⟩)
    · cases ru
      obtain ⟨d, hd, q3⟩ := q2
      cases rv' with
      | @lst a vs xs ha ra =>
      obtain ⟨w, hw, rw'⟩ := ra.at hd
      exact .inl ⟨a, vs, _, w, rfl, rfl, .inl (.inl (E2.fh _ _ ha)), hw, k _ _ F2 H2 ρ2 E2 e12 rw' q3⟩
    · cases ru
      obtain ⟨d, hd, q3⟩ := q2
      cases rv' with
      | @tup a vs xs ha ra =>
      obtain ⟨w, hw, rw'⟩ := ra.at hd
      exact .inr (.inl ⟨a, vs, _, w, rfl, rfl, E2.fh.stt ha, hw, k _ _ F2 H2 ρ2 E2 e12 rw' q3⟩)
theorem wd_ixO {j : Nat} {zs : List PyData} (hj : ρ[j]? = some (some (.own zs))) (h : WD B K tb ρ fun y ρ2 => ∃ xs i d, ρ2[j]? = some (some (.own xs)) ∧ y = .int i ∧ atI xs i = some d ∧ QD d ρ2) : WD B K (tOp (rIx K) (tVar j) tb) ρ QD := fun F H σ E QQ k => by
  obtain ⟨a, vs, e, _⟩ := E.own_at hj
  refine ⟨.ref a, e, h F H σ E _ fun u y F2 H2 ρ2 E2 e2 ru ⟨xs, i, d, hx, hy, hd, q2⟩ => ?_⟩
  subst hy
  cases ru
  obtain ⟨a', vs', e', _, k2, k3⟩ := E2.own_at hx
  rw [e] at e'
  cases e'
  obtain ⟨w, hw, rw'⟩ := k3.at hd
  exact .inl ⟨a, vs', i, w, rfl, rfl, .inl (.inl k2), hw, k _ _ F2 H2 ρ2 E2 e2 rw' q2⟩
theorem wd_ixS {j : Nat} {ns : List Int} (hj : ρ[j]? = some (some (.scr ns))) (h : WD B K tb ρ fun y ρ2 => ∃ i n, y = .int i ∧ atI ns i = some n ∧ QD (.int n) ρ2) : WD B K (tOp (rIx K) (tVar j) tb) ρ QD := fun F H σ E QQ k => by
  obtain ⟨v, e, a, hv, hs⟩ := E.sl j _ hj
  subst hv
  refine ⟨.ref a, e, h F H σ E _ fun u y F2 H2 ρ2 E2 e2 ru ⟨i, n, hy, hn, q2⟩ => ?_⟩
  subst hy
  cases ru
  have hw : atI (ns.map V.int) i = some (.int n) := by
    unfold atI at hn ⊢
    rw [List.length_map]
    cases e : ixN ns.length i with
    | none => rw [e] at hn; cases hn
    | some j =>
      rw [e] at hn
      show (ns.map V.int)[j]? = _
      rw [List.getElem?_map, show ns[j]? = some n from hn]
      rfl
  exact .inl ⟨a, _, i, _, rfl, rfl, E2.fh.sl (e2.sl hs), hw, k _ _ F2 H2 ρ2 E2 e2 (.int n) q2⟩
/-! ### slices -/
theorem wo_none (q : QO none ρ) : WO B K tNoPart ρ QO := fun F H σ E QQ k => k none F H ρ E (Ex.refl F) q
theorem wo_some (h : WD B K te ρ fun x ρ1 => ∃ i, x = .int i ∧ QO (some i) ρ1) : WO B K (tPart te) ρ QO := fun F H σ E QQ k =>
  h F H σ E _ fun v x F1 H1 ρ1 E1 e1 rv ⟨i, hx, q⟩ => by
    subst hx
    cases rv
    exact ⟨i, rfl, k (some i) F1 H1 ρ1 E1 e1 q⟩
def cutD {α : Type} (xs : List α) (lo hi : Option Int) : List α := (xs.drop (HT.sIx xs.length 0 lo)).take (HT.sIx xs.length xs.length hi - HT.sIx xs.length 0 lo)
theorem RpA.cut {F : Hp} {vs : List V} {xs : List PyData} (r : RpA K F vs xs) (lo hi : Option Int) : RpA K F (cutV vs lo hi) (cutD xs lo hi) := by
  unfold cutV cutD
  rw [r.length]
  exact (r.drop _).take _
theorem cutV_map {α : Type} (f : α → V) (xs : List α) (lo hi : Option Int) : cutV (xs.map f) lo hi = (cutD xs lo hi).map f := by
  unfold cutV cutD
  rw [List.length_map, List.map_take, List.map_drop]
theorem cutD_map {α β : Type} (f : α → β) (xs : List α) (lo hi : Option Int) : cutD (xs.map f) lo hi = (cutD xs lo hi).map f := by
  unfold cutD
  rw [List.length_map, List.map_take, List.map_drop]
abbrev rSlAny (K : Fr) : V → Option Int → Option Int → Hp → VK → Prop := fun x lo hi H Q => rSlL K x lo hi H Q ∨ rSlA K x lo hi H Q ∨ rSlS x lo hi H Q
theorem sl_any {X : Cx} : SlR X (rSlAny X.K) := sl_list.or (sl_tupA.or sl_str)
end
end SV

set_option maxHeartbeats 1000000
namespace SV
open PySem PySem.Spec L2
open Evl (Ex)

/-! ### slots that may be stored -/
def NP (B : Bs) (i : Nat) : Prop := ∀ a, B.pin ≠ some (i, a)
theorem np_of {B : Bs} {p : Option Nat} {i : Nat} (h : B.pin.map Prod.fst = p) (n : p ≠ some i) : NP B i := fun a e => n (by rw [← h, e]; rfl)
section
variable {B : Bs} {K : Fr} {ρ : En} {ta tb te : TE} {tt : TT} {tr tl : TA} {Q : R → En → Prop} {QD : PyData → En → Prop} {QT : Bool → En → Prop} {QA : List Ar → En → Prop} {QO : Option Int → En → Prop} {Z : Zs}

/-! ### slices -/
def Slc : PyData → Option Int → Option Int → (R → Prop) → Prop
  | .list xs, lo, hi, k => k (.new (cutD xs lo hi))
  | .tuple xs, lo, hi, k => k (.d (.tuple (cutD xs lo hi)))
  | .str z, lo, hi, k => z.length ≤ lim ∧ k (.d (.str (cutS z lo hi)))
  | _, _, _, _ => False
theorem cutD_all {α : Type} {xs : List α} {lo hi : Option Int} (h1 : HT.sIx xs.length 0 lo = 0) (h2 : HT.sIx xs.length xs.length hi = xs.length) : cutD xs lo hi = xs := by
  unfold cutD
  rw [h1, h2, List.drop_zero, Nat.sub_zero, List.take_length]
theorem we_sl {t1 t2 : TO} (h : WD B K te ρ fun x ρ1 => WO B K t1 ρ1 fun lo ρ2 => WO B K t2 ρ2 fun hi ρ3 => Slc x lo hi fun r => Q r ρ3) : WE B K (tSl (rSlAny K) te t1 t2) ρ Q := fun F H σ E QQ k =>
  h F H σ E _ fun v x F1 H1 ρ1 E1 e1 rv q => q F1 H1 σ E1 _ fun lo F2 H2 ρ2 E2 e2 q2 => q2 F2 H2 σ E2 _ fun hi F3 H3 ρ3 E3 e3 q3 => by
    have e13 := e1.trans (e2.trans e3)
    have rv' := Rp.mono (e2.trans e3) rv
    cases x <;> try exact False.elim q3
    · cases rv'
      exact .inr (.inr ⟨_, rfl, lim_le q3.1, k _ (.d (.str _)) F3 H3 ρ3 E3 e13 (Rp.str _) q3.2⟩)
    · cases rv' with
      | @lst a vs xs ha ra =>
      refine .inl ⟨a, vs, rfl, .inl (.inl (E3.fh _ _ ha)), fun p hp => ?_⟩
      obtain ⟨E4, r4⟩ := new_ok E3 hp (ra.cut lo hi)
      exact k _ _ F3 _ ρ3 E4 e13 r4 q3
    · cases rv' with
      | @tup a vs xs ha ra =>
      refine .inr (.inl ⟨a, vs, rfl, E3.fh.stt ha, fun w => ?_, fun w p hp => ?_⟩)
      · refine k _ (.d (.tuple (cutD _ lo hi))) F3 H3 ρ3 E3 e13 ?_ q3
        rw [cutD_all (by rw [← ra.length]; exact w.1) (by rw [← ra.length]; exact w.2)]
        exact Rp.tup ha ra
      · obtain ⟨E4, e4⟩ := E3.alloc (o := .tup (cutV vs lo hi)) hp
        exact k _ (.d (.tuple _)) _ _ ρ3 E4 (e13.trans e4) (Rp.tup (.inl (.inl upd_same)) ((ra.cut lo hi).mono e4)) q3
theorem we_slS {j : Nat} {ns : List Int} {t1 t2 : TO} (hj : ρ[j]? = some (some (.scr ns))) (h : WO B K t1 ρ fun lo ρ2 => WO B K t2 ρ2 fun hi ρ3 => Q (.new ((cutD ns lo hi).map .int)) ρ3) : WE B K (tSl (rSlAny K) (tVar j) t1 t2) ρ Q := fun F H σ E QQ k => by
  obtain ⟨v, e, a, hv, hs⟩ := E.sl j _ hj
  subst hv
  refine ⟨.ref a, e, h F H σ E _ fun lo F2 H2 ρ2 E2 e2 q2 => q2 F2 H2 σ E2 _ fun hi F3 H3 ρ3 E3 e3 q3 => ?_⟩
  refine .inl ⟨a, _, rfl, E3.fh.sl ((e2.trans e3).sl hs), fun p hp => ?_⟩
  obtain ⟨E4, r4⟩ := new_ok E3 hp (RpA.of_ints (K := K) (F := F3) (cutD ns lo hi))
  rw [cutV_map]
  exact k _ _ F3 _ ρ3 E4 (e2.trans e3) r4 q3
theorem we_slO {j : Nat} {zs : List PyData} {t1 t2 : TO} (hj : ρ[j]? = some (some (.own zs))) (h : WO B K t1 ρ fun lo ρ2 => WO B K t2 ρ2 fun hi ρ3 => ∃ xs, ρ3[j]? = some (some (.own xs)) ∧ Q (.new (cutD xs lo hi)) ρ3) : WE B K (tSl (rSlAny K) (tVar j) t1 t2) ρ Q := fun F H σ E QQ k => by
  obtain ⟨a, vs, e, _⟩ := E.own_at hj
  refine ⟨.ref a, e, h F H σ E _ fun lo F2 H2 ρ2 E2 e2 q2 => q2 F2 H2 σ E2 _ fun hi F3 H3 ρ3 E3 e3 ⟨xs, hx, q3⟩ => ?_⟩
  obtain ⟨a', ws, e', _, k2, k3⟩ := E3.own_at hx
  rw [e] at e'
  cases e'
  refine .inl ⟨a, ws, rfl, .inl (.inl k2), fun p hp => ?_⟩
  obtain ⟨E4, r4⟩ := new_ok E3 hp (k3.cut lo hi)
  exact k _ _ F3 _ ρ3 E4 (e2.trans e3) r4 q3

/-! ### len -/
abbrev rLen (K : Fr) : List V → Hp → VK → Prop := fun xs H Q => ∃ x n, xs = [x] ∧ LenV K x H n ∧ Q (.int n) H
def Len : PyData → (Int → Prop) → Prop
  | .list xs, k => k xs.length
  | .tuple xs, k => k xs.length
  | .str z, k => z.length ≤ lim ∧ k z.length
  | _, _ => False
theorem wd_len (h : WD B K te ρ fun x ρ1 => Len x fun n => QD (.int n) ρ1) : WD B K (tCB (rLen K) (tCons te tNil)) ρ QD := fun F H σ E QQ k =>
  h F H σ E _ fun v x F1 H1 ρ1 E1 e1 rv q => by
    cases x <;> try exact False.elim q
    · cases rv
      exact ⟨_, _, rfl, ⟨lim_le q.1, rfl⟩, k _ _ F1 H1 ρ1 E1 e1 (.int _) q.2⟩
    · cases rv with
      | @lst a vs xs ha ra => exact ⟨_, vs.length, rfl, .inl ⟨vs, .inl (.inl (E1.fh _ _ ha)), rfl⟩, k _ _ F1 H1 ρ1 E1 e1 (by rw [ra.length]; exact .int _) q⟩
    · cases rv with
      | @tup a vs xs ha ra => exact ⟨_, vs.length, rfl, .inr ⟨vs, E1.fh.stt ha, rfl⟩, k _ _ F1 H1 ρ1 E1 e1 (by rw [ra.length]; exact .int _) q⟩
theorem wd_lenO {j : Nat} {xs : List PyData} (hj : ρ[j]? = some (some (.own xs))) (q : QD (.int xs.length) ρ) : WD B K (tCB (rLen K) (tCons (tVar j) tNil)) ρ QD := fun F H σ E QQ k => by
  obtain ⟨a, vs, e, _, k2, k3⟩ := E.own_at hj
  exact ⟨.ref a, e, _, vs.length, rfl, .inl ⟨vs, .inl (.inl k2), rfl⟩, k _ _ F H ρ E (Ex.refl F) (by rw [k3.length]; exact .int _) q⟩
theorem wd_lenS {j : Nat} {ns : List Int} (hj : ρ[j]? = some (some (.scr ns))) (q : QD (.int ns.length) ρ) : WD B K (tCB (rLen K) (tCons (tVar j) tNil)) ρ QD := fun F H σ E QQ k => by
  obtain ⟨v, e, a, hv, hs⟩ := E.sl j _ hj
  subst hv
  exact ⟨.ref a, e, _, _, rfl, .inl ⟨_, E.fh.sl hs, rfl⟩, k _ _ F H ρ E (Ex.refl F) (by rw [List.length_map]; exact .int _) q⟩

/-! ### isinstance of plain data against a built-in type -/
inductive Ty where | int | bool | str | tuple | list | dict | non
def Ty.name : Ty → String
  | .int => "int" | .bool => "bool" | .str => "str" | .tuple => "tuple" | .list => "list" | .dict => "dict" | .non => "NoneType"
def tyD : PyData → Ty
  | .int _ => .int | .bool _ => .bool | .str _ => .str | .tuple _ => .tuple | .list _ => .list | .dict _ => .dict | .none => .non
def isTy : Ty → Ty → Bool
  | .int, .int => true | .bool, .bool => true | .bool, .int => true | .str, .str => true | .tuple, .tuple => true | .list, .list => true | .dict, .dict => true | .non, .non => true
  | _, _ => false
theorem kit_ok (a b : Ty) : PySem.W.kitOne K (.type a.name) (.type b.name) = some (isTy a b) := by
  cases a <;> cases b <;> exact kit_ty (by decide +kernel)
theorem tyx_of {F H : Hp} {v : V} {x : PyData} (e : Ex F H) (r : Rp K F v x) : TyX K H v (.type (tyD x).name) := by
  cases r with
  | non => exact .base .non
  | bl b => exact .base (.bl b)
  | int b => exact .base (.int b)
  | str b => exact .base (.str b)
  | lst h _ => exact .base (.lst (e _ _ h))
  | tup h _ =>
    rcases h with (h | ⟨o, h⟩) | ⟨o, its, n, ho, hc, _⟩
    · exact .base (.tup (e _ _ h))
    · exact .fTuple (e _ _ h)
    · exact .kTuple ho hc
  | dct h => exact .base (.dK (e _ _ h))
theorem wd_isi (t : Ty) (h : WD B K te ρ fun x ρ1 => QD (.bool (isTy (tyD x) t)) ρ1) : WD B K (tCB (rIsi K) (tCons te (tCons (tC (.ty t.name)) tNil))) ρ QD := fun F H σ E QQ k =>
  h F H σ E _ fun v x F1 H1 ρ1 E1 e1 rv q => ⟨v, .ty t.name, .type (tyD x).name, .type t.name, isTy (tyD x) t, rfl, .ty _, tyx_of E1.fh rv, kit_ok _ _, k _ _ F1 H1 ρ1 E1 e1 (.bl _) q⟩

theorem wd_isi_int (h : WD B K te ρ fun x ρ1 => QD (.bool (isTy (tyD x) .int)) ρ1) : WD B K (tCB (rIsi K) (tCons te (tCons (tC (.ty "int")) tNil))) ρ QD := wd_isi .int h
theorem wd_isi_bool (h : WD B K te ρ fun x ρ1 => QD (.bool (isTy (tyD x) .bool)) ρ1) : WD B K (tCB (rIsi K) (tCons te (tCons (tC (.ty "bool")) tNil))) ρ QD := wd_isi .bool h
theorem wd_isi_str (h : WD B K te ρ fun x ρ1 => QD (.bool (isTy (tyD x) .str)) ρ1) : WD B K (tCB (rIsi K) (tCons te (tCons (tC (.ty "str")) tNil))) ρ QD := wd_isi .str h
theorem wd_isi_tuple (h : WD B K te ρ fun x ρ1 => QD (.bool (isTy (tyD x) .tuple)) ρ1) : WD B K (tCB (rIsi K) (tCons te (tCons (tC (.ty "tuple")) tNil))) ρ QD := wd_isi .tuple h
theorem wd_isi_list (h : WD B K te ρ fun x ρ1 => QD (.bool (isTy (tyD x) .list)) ρ1) : WD B K (tCB (rIsi K) (tCons te (tCons (tC (.ty "list")) tNil))) ρ QD := wd_isi .list h
theorem wd_isi_dict (h : WD B K te ρ fun x ρ1 => QD (.bool (isTy (tyD x) .dict)) ρ1) : WD B K (tCB (rIsi K) (tCons te (tCons (tC (.ty "dict")) tNil))) ρ QD := wd_isi .dict h
/-! ### a call of a built-in on data, by values -/
theorem wd_max2 (h : WD B K ta ρ fun x ρ1 => ∃ i, x = .int i ∧ WD B K tb ρ1 fun y ρ2 => ∃ j, y = .int j ∧ QD (.int (if j > i then j else i)) ρ2) : WD B K (tCB (fun xs H Q => ∃ i j, xs = [.int i, .int j] ∧ Q (.int (if j > i then j else i)) H) (tCons ta (tCons tb tNil))) ρ QD := fun F H σ E QQ k =>
  h F H σ E _ fun v x F1 H1 ρ1 E1 e1 rv ⟨i, hx, q⟩ => q F1 H1 σ E1 _ fun u y F2 H2 ρ2 E2 e2 ru ⟨j, hy, q2⟩ => by
    subst hx hy
    cases rv; cases ru
    exact ⟨i, j, rfl, k _ _ F2 H2 ρ2 E2 (e1.trans e2) (.int _) q2⟩
theorem wd_min2 (h : WD B K ta ρ fun x ρ1 => ∃ i, x = .int i ∧ WD B K tb ρ1 fun y ρ2 => ∃ j, y = .int j ∧ QD (.int (if j < i then j else i)) ρ2) : WD B K (tCB (fun xs H Q => ∃ i j, xs = [.int i, .int j] ∧ Q (.int (if j < i then j else i)) H) (tCons ta (tCons tb tNil))) ρ QD := fun F H σ E QQ k =>
  h F H σ E _ fun v x F1 H1 ρ1 E1 e1 rv ⟨i, hx, q⟩ => q F1 H1 σ E1 _ fun u y F2 H2 ρ2 E2 e2 ru ⟨j, hy, q2⟩ => by
    subst hx hy
    cases rv; cases ru
    exact ⟨i, j, rfl, k _ _ F2 H2 ρ2 E2 (e1.trans e2) (.int _) q2⟩
theorem wd_maxL (h : WD B K te ρ fun x ρ1 => ∃ ns : List Int, x = .list (ns.map .int) ∧ 0 < ns.length ∧ ∀ m, m ∈ ns → (∀ y, y ∈ ns → y ≤ m) → QD (.int m) ρ1) : WD B K (tCB (rMax K) (tCons te tNil)) ρ QD := fun F H σ E QQ k =>
  h F H σ E _ fun v x F1 H1 ρ1 E1 e1 rv ⟨ns, hx, hn, q⟩ => by
    subst hx
    cases rv with
    | @lst a vs xs ha ra =>
    have e := ra.ints
    subst e
    exact ⟨a, ns, rfl, .inl (.inl (E1.fh _ _ ha)), hn, fun m hm hy => k _ _ F1 H1 ρ1 E1 e1 (.int m) (q m hm hy)⟩
theorem wd_minL (h : WD B K te ρ fun x ρ1 => ∃ ns : List Int, x = .list (ns.map .int) ∧ 0 < ns.length ∧ ∀ m, m ∈ ns → (∀ y, y ∈ ns → m ≤ y) → QD (.int m) ρ1) : WD B K (tCB (rMin K) (tCons te tNil)) ρ QD := fun F H σ E QQ k =>
  h F H σ E _ fun v x F1 H1 ρ1 E1 e1 rv ⟨ns, hx, hn, q⟩ => by
    subst hx
    cases rv with
    | @lst a vs xs ha ra =>
    have e := ra.ints
    subst e
    exact ⟨a, ns, rfl, .inl (.inl (E1.fh _ _ ha)), hn, fun m hm hy => k _ _ F1 H1 ρ1 E1 e1 (.int m) (q m hm hy)⟩
theorem wd_sum (h : WD B K te ρ fun x ρ1 => ∃ ns : List Int, x = .list (ns.map .int) ∧ QD (.int ns.sum) ρ1) : WD B K (tCB (rSum K) (tCons te tNil)) ρ QD := fun F H σ E QQ k =>
  h F H σ E _ fun v x F1 H1 ρ1 E1 e1 rv ⟨ns, hx, q⟩ => by
    subst hx
    cases rv with
    | @lst a vs xs ha ra =>
    have e := ra.ints
    subst e
    exact ⟨a, ns, rfl, .inl (.inl (E1.fh _ _ ha)), k _ _ F1 H1 ρ1 E1 e1 (.int _) q⟩
/-- list(xs), list(t) -/
abbrev rListOf (K : Fr) : List V → Hp → VK → Prop := fun xs H Q => ∃ p ys, xs = [.ref p] ∧ (SqL K H p ys ∨ SqT K H p ys) ∧ ∀ l, H l = none → Q (.ref l) (upd H l (.lst ys))
def Lof : PyData → (List PyData → Prop) → Prop
  | .list xs, k => k xs
  | .tuple xs, k => k xs
  | _, _ => False
theorem lof_list {xs : List PyData} {k : List PyData → Prop} (h : k xs) : Lof (.list xs) k := h
theorem lof_tup {xs : List PyData} {k : List PyData → Prop} (h : k xs) : Lof (.tuple xs) k := h
theorem we_list (h : WD B K te ρ fun x ρ1 => Lof x fun xs => Q (.new xs) ρ1) : WE B K (tCB (rListOf K) (tCons te tNil)) ρ Q := fun F H σ E QQ k =>
  h F H σ E _ fun v x F1 H1 ρ1 E1 e1 rv q => by
    cases x <;> try exact False.elim q
    · cases rv with
      | @lst a vs xs ha ra =>
      refine ⟨a, vs, rfl, .inl (.inl (.inl (E1.fh _ _ ha))), fun p hp => ?_⟩
      obtain ⟨E4, r4⟩ := new_ok E1 hp ra
      exact k _ _ F1 _ ρ1 E4 e1 r4 q
    · cases rv with
      | @tup a vs xs ha ra =>
      refine ⟨a, vs, rfl, .inr (E1.fh.stt ha), fun p hp => ?_⟩
      obtain ⟨E4, r4⟩ := new_ok E1 hp ra
      exact k _ _ F1 _ ρ1 E4 e1 r4 q
/-- tuple(xs) of a list -/
abbrev rTupOf (K : Fr) : List V → Hp → VK → Prop := fun xs H Q => ∃ p ys, xs = [.ref p] ∧ ((SqL K H p ys ∧ ∀ l, H l = none → Q (.ref l) (upd H l (.tup ys))) ∨ (SqT K H p ys ∧ Q (.ref p) H))
theorem wd_tupOf (h : WD B K te ρ fun x ρ1 => ∃ xs, x = .list xs ∧ QD (.tuple xs) ρ1) : WD B K (tCB (rTupOf K) (tCons te tNil)) ρ QD := fun F H σ E QQ k =>
  h F H σ E _ fun v x F1 H1 ρ1 E1 e1 rv ⟨xs, hx, q⟩ => by
    subst hx
    cases rv with
    | @lst a vs xs ha ra =>
    refine ⟨a, vs, rfl, .inl ⟨.inl (.inl (E1.fh _ _ ha)), fun p hp => ?_⟩⟩
    obtain ⟨E4, e4⟩ := E1.alloc (o := .tup vs) hp
    exact k _ _ _ _ ρ1 E4 (e1.trans e4) (.tup (.inl (.inl upd_same)) (ra.mono e4)) q
theorem wd_tupOfO {j : Nat} {xs : List PyData} (hj : ρ[j]? = some (some (.own xs))) (q : QD (.tuple xs) ρ) : WD B K (tCB (rTupOf K) (tCons (tVar j) tNil)) ρ QD := fun F H σ E QQ k => by
  obtain ⟨a, vs, e, _, k2, k3⟩ := E.own_at hj
  refine ⟨.ref a, e, a, vs, rfl, .inl ⟨.inl (.inl k2), fun p hp => ?_⟩⟩
  obtain ⟨E4, e4⟩ := E.alloc (o := .tup vs) hp
  exact k _ _ _ _ ρ E4 e4 (.tup (.inl (.inl upd_same)) (k3.mono e4)) q
theorem we_listO {j : Nat} {xs : List PyData} (hj : ρ[j]? = some (some (.own xs))) (q : Q (.new xs) ρ) : WE B K (tCB (rListOf K) (tCons (tVar j) tNil)) ρ Q := fun F H σ E QQ k => by
  obtain ⟨a, vs, e, _, k2, k3⟩ := E.own_at hj
  refine ⟨.ref a, e, a, vs, rfl, .inl (.inl (.inl k2)), fun p hp => ?_⟩
  obtain ⟨E4, r4⟩ := new_ok E hp k3
  exact k _ _ F _ ρ E4 (Ex.refl F) r4 q
/-- int(b), int(i) -/
abbrev rInt1 : List V → Hp → VK → Prop := fun xs H Q => (∃ i, xs = [.int i] ∧ Q (.int i) H) ∨ ∃ k, xs = [.bl k] ∧ Q (.int (if k then 1 else 0)) H
theorem wd_int1 (h : WD B K te ρ fun x ρ1 => match x with | .int i => QD (.int i) ρ1 | .bool b => QD (.int (if b then 1 else 0)) ρ1 | _ => False) : WD B K (tCB rInt1 (tCons te tNil)) ρ QD := fun F H σ E QQ k =>
  h F H σ E _ fun v x F1 H1 ρ1 E1 e1 rv q => by
    cases rv with
    | int i => exact .inl ⟨i, rfl, k _ _ F1 H1 ρ1 E1 e1 (.int _) q⟩
    | bl b => exact .inr ⟨b, rfl, k _ _ F1 H1 ρ1 E1 e1 (.int _) q⟩
    | non => exact False.elim q
    | str _ => exact False.elim q
    | lst _ _ => exact False.elim q
    | tup _ _ => exact False.elim q
    | dct _ => exact False.elim q

/-! ### methods of lists that are owned -/
theorem we_append {j : Nat} {zs : List PyData} (hj : ρ[j]? = some (some (.own zs))) (h : WD B K te ρ fun x ρ1 => ∃ xs, ρ1[j]? = some (some (.own xs)) ∧ xs.length < lim ∧ Q (.d .none) (ρ1.set j (some (.own (xs ++ [x]))))) : WE B K (tBM K "list" rAppend (tVar j) (tCons te tNil)) ρ Q := fun F H σ E QQ k => by
  obtain ⟨a, vs, e, _, k2, _⟩ := E.own_at hj
  refine ⟨.ref a, e, .inl ⟨rfl, vs, .inl (.inl k2)⟩, h F H σ E _ fun v x F1 H1 ρ1 E1 e1 rv ⟨xs, hx, hz, q⟩ => ?_⟩
  obtain ⟨a', ws, e', m1, m2, m3⟩ := E1.own_at hx
  rw [e] at e'
  cases e'
  have E2 := E1.write hx e (m3.append (.cons rv .nil))
  exact ⟨a, ws, v, rfl, rfl, m2, by rw [m3.length]; exact lim_lt hz, k _ (.d .none) F1 _ _ E2 e1 Rp.non q⟩
theorem we_extend {j : Nat} {zs : List PyData} (hj : ρ[j]? = some (some (.own zs))) (h : WD B K te ρ fun y ρ1 => ∃ xs ys, ρ1[j]? = some (some (.own xs)) ∧ y = .list ys ∧ xs.length + ys.length ≤ lim ∧ Q (.d .none) (ρ1.set j (some (.own (xs ++ ys))))) : WE B K (tBM K "list" rExtend (tVar j) (tCons te tNil)) ρ Q := fun F H σ E QQ k => by
  obtain ⟨a, vs, e, _, k2, _⟩ := E.own_at hj
  refine ⟨.ref a, e, .inl ⟨rfl, vs, .inl (.inl k2)⟩, h F H σ E _ fun v y F1 H1 ρ1 E1 e1 rv ⟨xs, ys, hx, hy, hz, q⟩ => ?_⟩
  subst hy
  obtain ⟨a', ws, e', m1, m2, m3⟩ := E1.own_at hx
  rw [e] at e'
  cases e'
  cases rv with
  | @lst b us ys hb rb =>
  have E2 := E1.write hx e (m3.append rb)
  exact ⟨a, b, ws, us, rfl, rfl, m2, E1.fh _ _ hb, by rw [m3.length, rb.length]; exact lim_le hz, k _ (.d .none) F1 _ _ E2 e1 Rp.non q⟩
theorem we_pop {j : Nat} {xs : List PyData} {y : PyData} (hj : ρ[j]? = some (some (.own xs))) (hy : xs[xs.length - 1]? = some y) (q : Q (.d y) (ρ.set j (some (.own xs.dropLast)))) : WE B K (tBM0 K "list" rPop (tVar j)) ρ Q := fun F H σ E QQ k => by
  obtain ⟨a, vs, e, k1, k2, k3⟩ := E.own_at hj
  obtain ⟨v, hv, rv⟩ := k3.get' hy
  rw [← k3.length] at hv
  exact ⟨.ref a, e, .inl ⟨rfl, vs, .inl (.inl k2)⟩, a, vs, v, rfl, rfl, k2, hv, k v (.d y) F _ _ (E.write hj e k3.dropLast) (Ex.refl F) rv q⟩
theorem we_popAt {j : Nat} {zs : List PyData} (hj : ρ[j]? = some (some (.own zs))) (h : WD B K te ρ fun x ρ1 => ∃ xs i n y, ρ1[j]? = some (some (.own xs)) ∧ x = .int i ∧ -(2 ^ 63) ≤ i ∧ i < 2 ^ 63 ∧ ixN xs.length i = some n ∧ xs[n]? = some y ∧ Q (.d y) (ρ1.set j (some (.own (xs.eraseIdx n))))) : WE B K (tBM K "list" rPopAt (tVar j) (tCons te tNil)) ρ Q := fun F H σ E QQ k => by
  obtain ⟨a, vs, e, _, k2, _⟩ := E.own_at hj
  refine ⟨.ref a, e, .inl ⟨rfl, vs, .inl (.inl k2)⟩, h F H σ E _ fun v x F1 H1 ρ1 E1 e1 rv ⟨xs, i, n, y, hx, hi, i1, i2, hn, hy, q⟩ => ?_⟩
  subst hi
  cases rv
  obtain ⟨a', ws, e', m1, m2, m3⟩ := E1.own_at hx
  rw [e] at e'
  cases e'
  obtain ⟨w, hw, rw'⟩ := m3.get' hy
  exact ⟨a, ws, i, n, w, rfl, rfl, m2, i1, i2, (ixN_seq (by rw [m3.length]; exact hn)).1, hw, k _ (.d y) F1 _ _ (E1.write hx e (m3.erase n)) e1 rw' q⟩

/-! ### statements -/
theorem ws_seq {t1 t2 : TS} (h : WS B K t1 ρ (Z.sq fun ρ' => WS B K t2 ρ' Z)) : WS B K (tSeq t1 t2) ρ Z := fun F H σ E D ok =>
  h F H σ E _ ⟨fun F' H' σ' ρ' E' e' q => q F' H' σ' E' D (ok.up e'), ok.rt, ok.bk, ok.ct⟩
theorem ws_next (q : Z.nx ρ) : WS B K tNext ρ Z := fun F H σ E D ok => ok.nx F H σ ρ E (Ex.refl F) q
theorem ws_brk (q : Z.bk ρ) : WS B K tBreak ρ Z := fun F H σ E D ok => ok.bk F H σ ρ E (Ex.refl F) q
theorem ws_cont (q : Z.ct ρ) : WS B K tCont ρ Z := fun F H σ E D ok => ok.ct F H σ ρ E (Ex.refl F) q
theorem ws_ret (h : WE B K te ρ fun r ρ' => Z.rt r ρ') : WS B K (tRet te) ρ Z := fun F H σ E D ok =>
  h F H σ E _ fun v r F' H' ρ' E' ef rv q => ok.rt F' H' σ ρ' v r E' ef rv q
theorem ws_retN (q : Z.rt (.d .none) ρ) : WS B K tRetN ρ Z := fun F H σ E D ok => ok.rt F H σ ρ .non (.d .none) E (Ex.refl F) Rp.non q
theorem ws_never (h : False) (t : TS) : WS B K t ρ Z := h.elim
def R.toL : R → Option L
  | .d x => some (.d x)
  | .new xs => some (.d (.list xs))
  | .scr ns => some (.scr ns)
  | .raw v => some (.raw v)
theorem slot_of {F H : Hp} {σ : St} (E : EnvOk B K F H σ ρ) {v : V} {r : R} {l : L} (rv : ROk B K F H σ ρ v r) (hl : r.toL = some l) : ∃ F', EnvOk B K F' H σ ρ ∧ Ex F F' ∧ SlotOk K F' H v l ∧ ∀ xs, l ≠ .own xs := by
  cases r with
  | d x => cases hl; exact ⟨F, E, Ex.refl F, rv, fun _ z => nomatch z⟩
  | new xs =>
    cases hl
    obtain ⟨F', E', e', r'⟩ := E.asD (r := .new xs) rv rfl
    exact ⟨F', E', e', r', fun _ z => nomatch z⟩
  | scr ns => cases hl; exact ⟨F, E, Ex.refl F, rv, fun _ z => nomatch z⟩
  | raw w => cases hl; exact ⟨F, E, Ex.refl F, rv, fun _ z => nomatch z⟩
/-- name = e: data, the script, any value -/
theorem ws_asg {i : Nat} (hp : NP B i) (h : WE B K te ρ fun r ρ' => ∃ l, r.toL = some l ∧ Z.nx (ρ'.set i (some l))) : WS B K (tAsg te (gName i)) ρ Z := fun F H σ E D ok =>
  h F H σ E _ fun v r F' H' ρ' E' ef rv ⟨l, hl, q⟩ => by
    obtain ⟨F2, E2, e2, s2, n2⟩ := slot_of E' rv hl
    exact ok.nx F2 H' _ _ (E2.setD s2 n2 hp) (ef.trans e2) q
/-- name = e, a list that the frame will change -/
def tAsgO (te : TE) (i : Nat) : TS := tAsg te (gName i)
theorem ws_asgO {i : Nat} (hp : NP B i) (h : WE B K te ρ fun r ρ' => ∃ xs, r = .new xs ∧ Z.nx (ρ'.set i (some (.own xs)))) : WS B K (tAsgO te i) ρ Z := fun F H σ E D ok =>
  h F H σ E _ fun v r F' H' ρ' E' ef rv ⟨xs, hr, q⟩ => by
    subst hr
    exact ok.nx F' H' _ _ (E'.setO rv hp) ef q
theorem ws_if {tc : TT} {t u : TS} (h : WT B K tc ρ fun b ρ1 => (b = true → WS B K t ρ1 Z) ∧ (b = false → WS B K u ρ1 Z)) : WS B K (tIfS tc t u) ρ Z := fun F H σ E D ok =>
  h F H σ E _ fun b F1 H1 ρ1 E1 e1 q => by
    cases b with
    | true => exact q.1 rfl F1 H1 σ E1 D (ok.up e1)
    | false => exact q.2 rfl F1 H1 σ E1 D (ok.up e1)
theorem ws_drop (h : WE B K te ρ fun _ ρ' => Z.nx ρ') : WS B K (tDrop te) ρ Z := fun F H σ E D ok =>
  h F H σ E _ fun v r F' H' ρ' E' ef rv q => ok.nx F' H' σ ρ' E' ef q
theorem ws_mono {t : TS} {Z' : Zs} (h : WS B K t ρ Z') (n : ∀ ρ, Z'.nx ρ → Z.nx ρ) (r : ∀ r ρ, Z'.rt r ρ → Z.rt r ρ) (b : ∀ ρ, Z'.bk ρ → Z.bk ρ) (c : ∀ ρ, Z'.ct ρ → Z.ct ρ) : WS B K t ρ Z := fun F H σ E D ok =>
  h F H σ E D ⟨fun F H σ ρ E e q => ok.nx F H σ ρ E e (n _ q), fun F H σ ρ v x E e rv q => ok.rt F H σ ρ v x E e rv (r _ _ q), fun F H σ ρ E e q => ok.bk F H σ ρ E e (b _ q), fun F H σ ρ E e q => ok.ct F H σ ρ E e (c _ q)⟩
/-- the ways through t meet at P -/
theorem ws_cut {t : TS} (P : En → Prop) (h : WS B K t ρ (Z.sq P)) (i : ∀ ρ', P ρ' → Z.nx ρ') : WS B K t ρ Z := ws_mono h i (fun _ _ q => q) (fun _ q => q) fun _ q => q
/-- name += e -/
theorem ws_aug {i : Nat} {g : Int → Int → Int} (hp : NP B i) {x : Int} (hi : ρ[i]? = some (some (.d (.int x)))) (h : WD B K te ρ fun y ρ1 => ∃ j, y = .int j ∧ Z.nx (ρ1.set i (some (.d (.int (g x j)))))) : WS B K (tAug i te (ipI g)) ρ Z := fun F H σ E D ok => by
  obtain ⟨v, e, s⟩ := E.sl i _ hi
  cases (show Rp K F v (.int x) from s)
  exact ⟨_, e, h F H σ E _ fun u y F1 H1 ρ1 E1 e1 ru ⟨j, hy, q⟩ => by
    subst hy
    cases ru
    exact ⟨x, j, rfl, rfl, ok.nx F1 H1 _ _ (E1.setD (l := .d (.int (g x j))) (Rp.int _) (fun _ z => nomatch z) hp) e1 q⟩⟩
/-- o[i] = e of an own list -/
theorem ws_setItem {ti : TE} {j : Nat} (h : WD B K te ρ fun x ρ1 => (∃ zs, ρ1[j]? = some (some (.own zs))) ∧ WD B K ti ρ1 fun y ρ2 => ∃ xs i n, ρ2[j]? = some (some (.own xs)) ∧ y = .int i ∧ ixN xs.length i = some n ∧ Z.nx (ρ2.set j (some (.own (xs.set n x))))) :
    WS B K (tAsg te (gSub (tVar j) ti rSetL)) ρ Z := fun F H σ E D ok =>
  h F H σ E _ fun v x F1 H1 ρ1 E1 e1 rv ⟨⟨zs, hz⟩, q⟩ => by
    obtain ⟨a, vs, e, _⟩ := E1.own_at hz
    refine ⟨.ref a, e, q F1 H1 σ E1 _ fun u y F2 H2 ρ2 E2 e2 ru ⟨xs, i, n, hx, hy, hn, q2⟩ => ?_⟩
    subst hy
    cases ru
    obtain ⟨a', ws, e', m1, m2, m3⟩ := E2.own_at hx
    rw [e] at e'
    cases e'
    exact ⟨a, ws, i, n, rfl, rfl, m2, by rw [m3.length]; exact hn, ok.nx F2 _ _ _ (E2.write hx e (m3.set n (Rp.mono e2 rv))) (e1.trans e2) q2⟩

/-! ### targets -/
def WG (B : Bs) (K : Fr) (g : TG) (x : PyData) (ρ : En) (Q : En → Prop) : Prop := ∀ F H σ v, EnvOk B K F H σ ρ → Rp K F v x → ∀ QQ : L2.St → Hp → Prop, (∀ F' H' σ' ρ', EnvOk B K F' H' σ' ρ' → Ex F F' → Q ρ' → QQ σ' H') → g v σ H QQ
def WGs (B : Bs) (K : Fr) (g : TGs) (xs : List PyData) (ρ : En) (Q : En → Prop) : Prop := ∀ F H σ vs, EnvOk B K F H σ ρ → RpA K F vs xs → ∀ QQ : L2.St → Hp → Prop, (∀ F' H' σ' ρ', EnvOk B K F' H' σ' ρ' → Ex F F' → Q ρ' → QQ σ' H') → g vs σ H QQ
theorem wg_name {i : Nat} {x : PyData} {q : En → Prop} (hp : NP B i) (h : q (ρ.set i (some (.d x)))) : WG B K (gName i) x ρ q := fun F H σ v E rv QQ k =>
  k F H _ _ (E.setD (l := .d x) rv (fun _ z => nomatch z) hp) (Ex.refl F) h
theorem wgs_nil {q : En → Prop} (h : q ρ) : WGs B K gNil [] ρ q := fun F H σ vs E rv QQ k => by
  cases rv
  exact ⟨rfl, k F H σ ρ E (Ex.refl F) h⟩
theorem wgs_cons {g : TG} {gs : TGs} {x : PyData} {xs : List PyData} {q : En → Prop} (h : WG B K g x ρ fun ρ1 => WGs B K gs xs ρ1 q) : WGs B K (gCons g gs) (x :: xs) ρ q := fun F H σ vs E rv QQ k => by
  cases rv with
  | cons r1 r2 => exact ⟨_, _, rfl, h F H σ _ E r1 _ fun F' H' σ' ρ' E' e' q' => q' F' H' σ' _ E' (r2.mono e') QQ fun F2 H2 σ2 ρ2 E2 e2 q2 => k F2 H2 σ2 ρ2 E2 (e'.trans e2) q2⟩
theorem wg_tup {n : Nat} {gs : TGs} {xs : List PyData} {q : En → Prop} (hn : xs.length = n) (h : WGs B K gs xs ρ q) : WG B K (gTup K n gs) (.tuple xs) ρ q := fun F H σ v E rv QQ k => by
  cases rv with
  | @tup a vs xs ha ra => exact ⟨a, vs, rfl, E.fh.stt ha, by rw [ra.length]; exact hn, h F H σ vs E ra QQ k⟩
theorem ws_asgG {g : TG} (h : WD B K te ρ fun x ρ' => WG B K g x ρ' Z.nx) : WS B K (tAsg te g) ρ Z := fun F H σ E D ok =>
  h F H σ E _ fun v x F' H' ρ' E' ef rv q => q F' H' σ v E' rv _ fun F2 H2 σ2 ρ2 E2 e2 q2 => ok.nx F2 H2 σ2 ρ2 E2 (ef.trans e2) q2
/-- a, b = x, y of plain local names -/
theorem ws_par {i j : Nat} (hi : NP B i) (hj : NP B j) (h : WDs B K tl ρ fun xs ρ' => ∃ x y, xs = [x, y] ∧ Z.nx ((ρ'.set i (some (.d x))).set j (some (.d y)))) : WS B K (tPar i j tl) ρ Z := fun F H σ E D ok =>
  h F H σ E _ fun vs xs F' H' ρ' E' ef rv ⟨x, y, hx, q⟩ => by
    subst hx
    cases rv with
    | cons r1 r2 =>
      cases r2 with
      | cons r2 r3 =>
        cases r3
        exact ⟨_, _, rfl, ok.nx F' H' _ _ ((E'.setD (l := .d x) r1 (fun _ z => nomatch z) hi).setD (l := .d y) r2 (fun _ z => nomatch z) hj) ef q⟩

/-! ### loops -/
theorem take_snoc {α : Type} {as : List α} {i : Nat} {a : α} (h : as[i]? = some a) : as.take (i + 1) = as.take i ++ [a] := by
  rw [List.take_add_one, h]
  rfl
theorem split_at {α : Type} {as : List α} {i : Nat} {a : α} (h : as[i]? = some a) : as = as.take i ++ a :: as.drop (i + 1) := by
  obtain ⟨hi, e⟩ := List.getElem?_eq_some_iff.mp h
  rw [← e, ← List.drop_eq_getElem_cons hi, List.take_append_drop]
/-- what a loop over the items as wants -/
def Loop {α : Type} (B : Bs) (K : Fr) (g : TG) (tb : TS) (f : α → PyData) (as : List α) (ρ : En) (Z : Zs) : Prop :=
  ∃ I : List α → En → Prop, I [] ρ ∧ (∀ pre a post ρ2, as = pre ++ a :: post → I pre ρ2 → WG B K g (f a) ρ2 fun ρ3 => WS B K tb ρ3 (Z.lp (I (pre ++ [a])))) ∧ ∀ ρ2, I as ρ2 → Z.nx ρ2
theorem ws_forL {α : Type} {g : TG} {tb : TS} (f : α → PyData) (h : WD B K te ρ fun x ρ1 => ∃ as : List α, x = .list (as.map f) ∧ Loop B K g tb f as ρ1 Z) : WS B K (tFor (iList K te) g tb) ρ Z := fun F H σ E D ok =>
  h F H σ E _ fun v x F1 H1 ρ1 E1 e1 rv ⟨as, hx, I, i0, is, id⟩ => by
    subst hx
    cases rv with
    | @lst a vs xs ha ra =>
    have hl : vs.length = as.length := by rw [ra.length, List.length_map]
    refine ⟨a, rfl, ⟨vs, .inl (.inl (E1.fh _ _ ha))⟩, for_list (xs := vs) (fun i σ H => ∃ F ρ, EnvOk B K F H σ ρ ∧ Ex F1 F ∧ I (as.take i) ρ) ⟨F1, ρ1, E1, Ex.refl F1, i0⟩ (fun i σ H _ ⟨F2, ρ2, E2, e2, _⟩ => .inl (.inl (E2.fh _ _ (e2 _ _ ha)))) (fun i w σ2 H2 hw ⟨F2, ρ2, E2, e2, q⟩ => ?_) fun σ2 H2 ⟨F2, ρ2, E2, e2, q⟩ => ok.nx F2 H2 σ2 ρ2 E2 (e1.trans e2) (id ρ2 (by rw [hl, List.take_length] at q; exact q))⟩
    obtain ⟨d, hd, rd⟩ := ra.get hw
    rw [List.getElem?_map] at hd
    cases ea : as[i]? with
    | none => rw [ea] at hd; cases hd
    | some b =>
    rw [ea] at hd
    cases hd
    exact is (as.take i) b (as.drop (i + 1)) ρ2 (split_at ea) q F2 H2 σ2 w E2 (Rp.mono e2 rd) _ fun F3 H3 σ3 ρ3 E3 e3 q3 => q3 F3 H3 σ3 E3 _
      ⟨fun F4 H4 σ4 ρ4 E4 e4 q4 => ⟨F4, ρ4, E4, e2.trans (e3.trans e4), by rw [take_snoc ea]; exact q4⟩, fun F4 H4 σ4 ρ4 v4 r4 E4 e4 rv4 q4 => ok.rt F4 H4 σ4 ρ4 v4 r4 E4 (e1.trans (e2.trans (e3.trans e4))) rv4 q4,
       fun F4 H4 σ4 ρ4 E4 e4 q4 => ok.nx F4 H4 σ4 ρ4 E4 (e1.trans (e2.trans (e3.trans e4))) q4, fun F4 H4 σ4 ρ4 E4 e4 q4 => ⟨F4, ρ4, E4, e2.trans (e3.trans e4), by rw [take_snoc ea]; exact q4⟩⟩
end
end SV

set_option maxHeartbeats 1000000
namespace SV
open PySem PySem.Spec L2
open Evl (Ex)
section
variable {B : Bs} {K : Fr} {ρ : En} {ta tb te : TE} {tt : TT} {tr tl : TA} {Q : R → En → Prop} {QD : PyData → En → Prop} {QT : Bool → En → Prop} {QA : List Ar → En → Prop} {Z : Zs}

/-! ### loops of any kind -/
theorem loop_gen {α : Type} {J : It} {g : TG} {tS : TS} {f : α → PyData} {as : List α} {F0 F1 H1 : Hp} {σ : L2.St} {ρ1 : En} {D : Ends} (C : En → Prop) (E1 : EnvOk B K F1 H1 σ ρ1) (e1 : Ex F0 F1) (ok : ZOk B K F0 Z D)
    (go : ∀ (i : Nat) (a : α) F H σ ρ, as[i]? = some a → EnvOk B K F H σ ρ → Ex F1 F → C ρ → J.go i H)
    (stop : ∀ (i : Nat) F H σ ρ, as.length ≤ i → EnvOk B K F H σ ρ → Ex F1 F → C ρ → J.stop i H)
    (yld : ∀ (i : Nat) (a : α) F H σ ρ x H', as[i]? = some a → EnvOk B K F H σ ρ → Ex F1 F → C ρ → J.yld i H x H' → ∃ F', EnvOk B K F' H' σ ρ ∧ Ex F F' ∧ Rp K F' x (f a))
    (I : List α → En → Prop) (ic : ∀ pre ρ, I pre ρ → C ρ) (i0 : I [] ρ1) (is : ∀ pre a post ρ2, as = pre ++ a :: post → I pre ρ2 → WG B K g (f a) ρ2 fun ρ3 => WS B K tS ρ3 (Z.lp (I (pre ++ [a])))) (id : ∀ ρ2, I as ρ2 → Z.nx ρ2) :
    ∃ W : Nat → Nat → L2.St → Hp → Prop, (∃ m, W 0 m σ H1) ∧ ∀ i m σ H, W i m σ H →
      (J.stop i H ∧ D.nx σ H) ∨ (J.go i H ∧ ∃ N : L2.St → Hp → Prop, (∀ σ' H', N σ' H' → ∃ m', m' < m ∧ W (i + 1) m' σ' H') ∧ ∀ x H', J.yld i H x H' → g x σ H' fun σ2 H2 => tS { D with nx := N, ct := N, bk := D.nx } σ2 H2) := by
  refine ⟨fun i m σ H => m = as.length - i ∧ i ≤ as.length ∧ ∃ F ρ, EnvOk B K F H σ ρ ∧ Ex F1 F ∧ I (as.take i) ρ, ⟨as.length, (Nat.sub_zero _).symm, Nat.zero_le _, F1, ρ1, E1, Ex.refl F1, i0⟩, ?_⟩
  rintro i m σ2 H2 ⟨rfl, hi, F2, ρ2, E2, e2, q⟩
  by_cases hlt : i < as.length
  · have ea : as[i]? = some as[i] := List.getElem?_eq_getElem hlt
    refine .inr ⟨go i _ F2 H2 σ2 ρ2 ea E2 e2 (ic _ _ q), fun σ' H' => ∃ F ρ, EnvOk B K F H' σ' ρ ∧ Ex F1 F ∧ I (as.take (i + 1)) ρ, fun σ' H' p' => ⟨as.length - (i + 1), by omega, rfl, hlt, p'⟩, fun x H' y => ?_⟩
    obtain ⟨F', E', e', rx⟩ := yld i _ F2 H2 σ2 ρ2 x H' ea E2 e2 (ic _ _ q) y
    exact is (as.take i) as[i] (as.drop (i + 1)) ρ2 (split_at ea) q F' H' σ2 x E' rx _ fun F3 H3 σ3 ρ3 E3 e3 q3 => q3 F3 H3 σ3 E3 _
      ⟨fun F4 H4 σ4 ρ4 E4 e4 q4 => ⟨F4, ρ4, E4, e2.trans (e'.trans (e3.trans e4)), by rw [take_snoc ea]; exact q4⟩, fun F4 H4 σ4 ρ4 v4 r4 E4 e4 rv4 q4 => ok.rt F4 H4 σ4 ρ4 v4 r4 E4 (e1.trans (e2.trans (e'.trans (e3.trans e4)))) rv4 q4,
       fun F4 H4 σ4 ρ4 E4 e4 q4 => ok.nx F4 H4 σ4 ρ4 E4 (e1.trans (e2.trans (e'.trans (e3.trans e4)))) q4, fun F4 H4 σ4 ρ4 E4 e4 q4 => ⟨F4, ρ4, E4, e2.trans (e'.trans (e3.trans e4)), by rw [take_snoc ea]; exact q4⟩⟩
  · have e : i = as.length := by omega
    subst e
    exact .inl ⟨stop _ F2 H2 σ2 ρ2 (Nat.le_refl _) E2 e2 (ic _ _ q), ok.nx F2 H2 σ2 ρ2 E2 (e1.trans e2) (id ρ2 (by rw [List.take_length] at q; exact q))⟩
theorem at_map {α : Type} {K : Fr} {F : Hp} {f : α → PyData} {as : List α} {vs : List V} {i : Nat} {a : α} {v : V} (ra : RpA K F vs (as.map f)) (ea : as[i]? = some a) (hv : vs[i]? = some v) : Rp K F v (f a) := by
  obtain ⟨d, hd, rd⟩ := ra.get hv
  rw [List.getElem?_map, ea] at hd
  cases hd
  exact rd
theorem at_map' {α : Type} {K : Fr} {F : Hp} {f : α → PyData} {as : List α} {vs : List V} {i : Nat} {a : α} (ra : RpA K F vs (as.map f)) (ea : as[i]? = some a) : ∃ v, vs[i]? = some v ∧ Rp K F v (f a) := by
  have hd : (as.map f)[i]? = some (f a) := by rw [List.getElem?_map, ea]; rfl
  exact ra.get' hd
/-- over a tuple -/
theorem ws_forT {α : Type} {g : TG} {tS : TS} (f : α → PyData) (h : WD B K te ρ fun x ρ1 => ∃ as : List α, x = .tuple (as.map f) ∧ Loop B K g tS f as ρ1 Z) : WS B K (tFor (iTup K te) g tS) ρ Z := fun F H σ E D ok =>
  h F H σ E _ fun v x F1 H1 ρ1 E1 e1 rv ⟨as, hx, I, i0, is, id⟩ => by
    subst hx
    cases rv with
    | @tup a vs xs ha ra =>
    have hl : vs.length = as.length := by rw [ra.length, List.length_map]
    refine ⟨a, rfl, ⟨vs, E1.fh.stt ha⟩, loop_gen (f := f) (as := as) (fun _ => True) E1 e1 ok (fun i b F2 H2 σ2 ρ2 ea E2 e2 _ => ?_) (fun i F2 H2 σ2 ρ2 hi E2 e2 _ => ⟨vs, E2.fh.stt (e2.stt ha), by omega⟩) (fun i b F2 H2 σ2 ρ2 y H' ea E2 e2 _ hy => ?_) I (fun _ _ _ => trivial) i0 is id⟩
    · obtain ⟨w, hw, _⟩ := at_map' ra ea
      exact ⟨vs, w, E2.fh.stt (e2.stt ha), hw⟩
    · obtain ⟨rfl, hy⟩ := hy
      exact ⟨F2, E2, Ex.refl F2, Rp.mono e2 (at_map ra ea (hy vs (E2.fh.stt (e2.stt ha))))⟩
/-- over a list that the frame owns and leaves as it is -/
theorem ws_forO {α : Type} {g : TG} {tS : TS} (f : α → PyData) {j : Nat} {as : List α} (hj : ρ[j]? = some (some (.own (as.map f)))) (I : List α → En → Prop) (ic : ∀ pre ρ', I pre ρ' → ρ'[j]? = some (some (.own (as.map f))) ∧ True) (i0 : I [] ρ)
    (is : ∀ pre a post ρ2, as = pre ++ a :: post → I pre ρ2 → WG B K g (f a) ρ2 fun ρ3 => WS B K tS ρ3 (Z.lp (I (pre ++ [a])))) (id : ∀ ρ2, I as ρ2 → Z.nx ρ2) (keep : ∀ F H σ ρ', EnvOk B K F H σ ρ' → ρ'[j]? = some (some (.own (as.map f))) → ∀ a, B.pin = some (j, a) → σ[j]? = some (some (.ref a))) (np : ∃ a, B.pin = some (j, a)) : WS B K (tFor (iList K (tVar j)) g tS) ρ Z := fun F H σ E D ok => by
  obtain ⟨a, ha⟩ := np
  have sj : ∀ {F H σ ρ}, EnvOk B K F H σ ρ → σ[j]? = some (some (.ref a)) := fun E => (E.pin j a ha).1
  obtain ⟨a', vs, e, _, k2, k3⟩ := E.own_at hj
  refine ⟨.ref a', e, a', rfl, ⟨vs, .inl (.inl k2)⟩, ?_⟩
  rw [sj E] at e
  cases e
  refine loop_gen (f := f) (as := as) (fun ρ' => ρ'[j]? = some (some (.own (as.map f)))) E (Ex.refl F) ok (fun i b F2 H2 σ2 ρ2 ea E2 e2 c => ?_) (fun i F2 H2 σ2 ρ2 hi E2 e2 c => ?_) (fun i b F2 H2 σ2 ρ2 y H' ea E2 e2 c hy => ?_) I (fun pre ρ' q => (ic pre ρ' q).1) i0 is id
  all_goals obtain ⟨b', ws, e', _, m2, m3⟩ := E2.own_at c
  all_goals rw [sj E2] at e'
  all_goals cases e'
  · obtain ⟨w, hw, _⟩ := at_map' m3 ea
    exact ⟨ws, w, .inl (.inl m2), hw⟩
  · exact ⟨ws, .inl (.inl m2), by rw [m3.length, List.length_map]; exact hi⟩
  · obtain ⟨rfl, hy⟩ := hy
    exact ⟨F2, E2, Ex.refl F2, at_map m3 ea (hy ws (.inl (.inl m2)))⟩
/-- sign by sign -/
def strD (c : Nat) : PyData := .str ⟨#[c]⟩
theorem ws_forS {g : TG} {tS : TS} (h : WD B K te ρ fun x ρ1 => ∃ z : Str, x = .str z ∧ Loop B K g tS strD z.cps.toList ρ1 Z) : WS B K (tFor (iStr te) g tS) ρ Z := fun F H σ E D ok =>
  h F H σ E _ fun v x F1 H1 ρ1 E1 e1 rv ⟨z, hx, I, i0, is, id⟩ => by
    subst hx
    cases rv
    refine ⟨z, rfl, loop_gen (f := strD) (as := z.cps.toList) (fun _ => True) E1 e1 ok (fun i b F2 H2 σ2 ρ2 ea E2 e2 _ => ?_) (fun i F2 H2 σ2 ρ2 hi E2 e2 _ => ?_) (fun i b F2 H2 σ2 ρ2 y H' ea E2 e2 _ hy => ?_) I (fun _ _ _ => trivial) i0 is id⟩
    · show i < z.cps.size
      rw [← Array.length_toList]
      exact (List.getElem?_eq_some_iff.mp ea).1
    · show z.cps.size ≤ i
      rw [← Array.length_toList]
      exact hi
    · obtain ⟨rfl, c, hc, rfl⟩ := hy
      rw [Array.getElem?_toList, hc] at ea
      cases ea
      exact ⟨F2, E2, Ex.refl F2, Rp.str _⟩
/-- over the script -/
theorem ws_forScr {g : TG} {tS : TS} {j : Nat} {ns : List Int} (hj : ρ[j]? = some (some (.scr ns))) (h : Loop B K g tS PyData.int ns ρ Z) : WS B K (tFor (iList K (tVar j)) g tS) ρ Z := fun F H σ E D ok => by
  obtain ⟨I, i0, is, id⟩ := h
  obtain ⟨v, e, a, hv, hs⟩ := E.sl j _ hj
  subst hv
  refine ⟨.ref a, e, a, rfl, ⟨_, E.fh.sl hs⟩, loop_gen (f := PyData.int) (as := ns) (fun _ => True) E (Ex.refl F) ok (fun i b F2 H2 σ2 ρ2 ea E2 e2 _ => ?_) (fun i F2 H2 σ2 ρ2 hi E2 e2 _ => ⟨_, E2.fh.sl (e2.sl hs), by rw [List.length_map]; exact hi⟩) (fun i b F2 H2 σ2 ρ2 y H' ea E2 e2 _ hy => ?_) I (fun _ _ _ => trivial) i0 is id⟩
  · exact ⟨_, .int b, E2.fh.sl (e2.sl hs), by rw [List.getElem?_map, ea]; rfl⟩
  · obtain ⟨rfl, hy⟩ := hy
    have q := hy _ (E2.fh.sl (e2.sl hs))
    rw [List.getElem?_map, ea] at q
    cases q
    exact ⟨F2, E2, Ex.refl F2, Rp.int _⟩
/-- over range(n), range(a, b): the turns 0, 1, .. -/
def ixs (lo : Int) (n : Nat) : List Int := (List.range n).map fun (k : Nat) => lo + (k : Int)
theorem ixs_at {lo : Int} {n i : Nat} : (ixs lo n)[i]? = if i < n then some (lo + (i : Int)) else none := by
  unfold ixs
  rw [List.getElem?_map]
  by_cases h : i < n
  · rw [List.getElem?_range h, if_pos h]; rfl
  · rw [List.getElem?_eq_none (by rw [List.length_range]; omega), if_neg h]; rfl
theorem ixs_len {lo : Int} {n : Nat} : (ixs lo n).length = n := by unfold ixs; rw [List.length_map, List.length_range]
theorem for_itr {g : TG} {tS : TS} {lo : Int} {n : Nat} {F0 F1 H1 : Hp} {σ : L2.St} {ρ1 : En} {D : Ends} (E1 : EnvOk B K F1 H1 σ ρ1) (e1 : Ex F0 F1) (ok : ZOk B K F0 Z D) (h : Loop B K g tS PyData.int (ixs lo n) ρ1 Z) :
    ∃ W : Nat → Nat → L2.St → Hp → Prop, (∃ m, W 0 m σ H1) ∧ ∀ i m σ H, W i m σ H →
      ((Itr lo n).stop i H ∧ D.nx σ H) ∨ ((Itr lo n).go i H ∧ ∃ N : L2.St → Hp → Prop, (∀ σ' H', N σ' H' → ∃ m', m' < m ∧ W (i + 1) m' σ' H') ∧ ∀ x H', (Itr lo n).yld i H x H' → g x σ H' fun σ2 H2 => tS { D with nx := N, ct := N, bk := D.nx } σ2 H2) := by
  obtain ⟨I, i0, is, id⟩ := h
  refine loop_gen (f := PyData.int) (as := ixs lo n) (fun _ => True) E1 e1 ok (fun i b F2 H2 σ2 ρ2 ea E2 e2 _ => ?_) (fun i F2 H2 σ2 ρ2 hi E2 e2 _ => ?_) (fun i b F2 H2 σ2 ρ2 y H' ea E2 e2 _ hy => ?_) I (fun _ _ _ => trivial) i0 is id
  · have := (List.getElem?_eq_some_iff.mp ea).1
    rw [ixs_len] at this
    exact this
  · rw [ixs_len] at hi
    exact hi
  · obtain ⟨rfl, rfl⟩ := hy
    rw [ixs_at] at ea
    split at ea
    · cases ea
      exact ⟨F2, E2, Ex.refl F2, Rp.int _⟩
    · cases ea
theorem ws_for1 {g : TG} {tS : TS} (h : WD B K te ρ fun x ρ1 => ∃ n : Int, x = .int n ∧ -1000000 ≤ n ∧ n ≤ 1000000 ∧ Loop B K g tS PyData.int (ixs 0 n.toNat) ρ1 Z) : WS B K (tFor (iRng1 (tCons te tNil)) g tS) ρ Z := fun F H σ E D ok =>
  h F H σ E _ fun v x F1 H1 ρ1 E1 e1 rv ⟨n, hx, n0, n1, q⟩ => by
    subst hx
    cases rv
    exact ⟨n, rfl, by omega, by omega, for_itr E1 e1 ok q⟩
theorem ws_for2 {g : TG} {tS : TS} (h : WD B K ta ρ fun x ρ1 => ∃ m : Int, x = .int m ∧ WD B K tb ρ1 fun y ρ2 => ∃ n : Int, y = .int n ∧ (-1000000 ≤ m ∧ m ≤ 1000000 ∧ -1000000 ≤ n ∧ n ≤ 1000000) ∧ Loop B K g tS PyData.int (ixs m (n - m).toNat) ρ2 Z) : WS B K (tFor (iRng2 (tCons ta (tCons tb tNil))) g tS) ρ Z := fun F H σ E D ok =>
  h F H σ E _ fun v x F1 H1 ρ1 E1 e1 rv ⟨m, hx, q⟩ => q F1 H1 σ E1 _ fun u y F2 H2 ρ2 E2 e2 ru ⟨n, hy, ⟨n0, n1, n2, n3⟩, q⟩ => by
    subst hx hy
    cases rv; cases ru
    exact ⟨m, n, rfl, ⟨by omega, by omega, by omega, by omega⟩, for_itr E2 (e1.trans e2) ok q⟩
/-! ### while -/
theorem ws_while {c : TT} {tS : TS} (W : Nat → En → Prop) (h0 : ∃ m, W m ρ) (hs : ∀ m ρ1, W m ρ1 → WT B K c ρ1 fun b ρ2 => (b = true → WS B K tS ρ2 (Z.lp fun ρ' => ∃ m', m' < m ∧ W m' ρ')) ∧ (b = false → Z.nx ρ2)) :
    WS B K (tWhile c tS) ρ Z := fun F H σ E D ok => by
  obtain ⟨m0, w0⟩ := h0
  refine ⟨fun m σ H => ∃ F' ρ', EnvOk B K F' H σ ρ' ∧ Ex F F' ∧ W m ρ', ⟨m0, F, ρ, E, Ex.refl F, w0⟩, ?_⟩
  rintro m σ1 H1 ⟨F1, ρ1, E1, e1, w1⟩
  refine hs m ρ1 w1 F1 H1 σ1 E1 _ fun b F2 H2 ρ2 E2 e2 q => ?_
  have e12 := e1.trans e2
  cases b with
  | false => exact ok.nx F2 H2 σ1 ρ2 E2 e12 (q.2 rfl)
  | true =>
    refine ⟨fun σ' H' => ∃ m', m' < m ∧ ∃ F' ρ', EnvOk B K F' H' σ' ρ' ∧ Ex F F' ∧ W m' ρ', fun _ _ z => z, ?_⟩
    exact q.1 rfl F2 H2 σ1 E2 _ ⟨fun F3 H3 σ3 ρ3 E3 e3 ⟨m', l, w⟩ => ⟨m', l, F3, ρ3, E3, e12.trans e3, w⟩, fun F3 H3 σ3 ρ3 v r E3 e3 rv q3 => ok.rt F3 H3 σ3 ρ3 v r E3 (e12.trans e3) rv q3,
      fun F3 H3 σ3 ρ3 E3 e3 q3 => ok.nx F3 H3 σ3 ρ3 E3 (e12.trans e3) q3, fun F3 H3 σ3 ρ3 E3 e3 ⟨m', l, w⟩ => ⟨m', l, F3, ρ3, E3, e12.trans e3, w⟩⟩

/-! ### comprehensions -/
inductive Sel {α : Type} (P : α → Option PyData → Prop) : List α → List PyData → Prop
  | nil : Sel P [] []
  | yes {a : α} {as : List α} {y : PyData} {ys : List PyData} : Sel P as ys → P a (some y) → Sel P (as ++ [a]) (ys ++ [y])
  | no {a : α} {as : List α} {ys : List PyData} : Sel P as ys → P a none → Sel P (as ++ [a]) ys
theorem Sel.len {α : Type} {P : α → Option PyData → Prop} {as : List α} {ys : List PyData} (s : Sel P as ys) : ys.length ≤ as.length := by
  induction s with
  | nil => exact Nat.le_refl _
  | yes _ _ ih => rw [List.length_append, List.length_append]; exact Nat.add_le_add_right ih 1
  | no _ _ ih => rw [List.length_append]; exact Nat.le_add_right_of_le ih
/-- all items, each by a function -/
theorem Sel.map {α : Type} {f : α → PyData} {as : List α} {ys : List PyData} (s : Sel (fun a o => o = some (f a)) as ys) : ys = as.map f := by
  induction s with
  | nil => rfl
  | yes _ h ih => cases h; rw [ih, List.map_append]; rfl
  | no _ h => cases h
/-- the items that pass a test, each by a function -/
theorem Sel.filter {α : Type} {f : α → PyData} {p : α → Bool} {as : List α} {ys : List PyData} (s : Sel (fun a o => o = if p a = true then some (f a) else none) as ys) : ys = (as.filter p).map f := by
  induction s with
  | nil => rfl
  | @yes a as y ys _ h ih =>
    rw [ih, List.filter_append, List.map_append]
    by_cases c : p a = true
    · rw [if_pos c] at h
      cases h
      rw [List.filter_cons_of_pos c]
      rfl
    · rw [if_neg c] at h
      cases h
  | @no a as ys _ h ih =>
    rw [ih, List.filter_append, List.map_append]
    by_cases c : p a = true
    · rw [if_pos c] at h
      cases h
    · rw [List.filter_cons_of_neg c]
      simp
/-! the targets of a comprehension: names, a tuple of names -/
inductive GVs : TGs → List Nat → Prop
  | nil : GVs gNil []
  | cons {gs : TGs} {vs : List Nat} (i : Nat) : GVs gs vs → GVs (gCons (gName i) gs) (i :: vs)
inductive GV : TG → List Nat → Prop
  | name (i : Nat) : GV (gName i) [i]
  | tup {K : Fr} {n : Nat} {gs : TGs} {vs : List Nat} : GVs gs vs → GV (gTup K n gs) vs
theorem GVs.stay {gs : TGs} {vs : List Nat} (gv : GVs gs vs) : ∀ {xs : List V} {σ : L2.St} {H : Hp} {QQ QQ' : L2.St → Hp → Prop}, gs xs σ H QQ → (∀ (σ' : L2.St) H', σ'.length = σ.length → (∀ k, k ∉ vs → σ'[k]? = σ[k]?) → QQ σ' H' → QQ' σ' H') → gs xs σ H QQ' := by
  induction gv with
  | nil => intro xs σ H QQ QQ' h c; exact ⟨h.1, c σ H rfl (fun _ _ => rfl) h.2⟩
  | @cons gs vs i _ ih =>
    intro xs σ H QQ QQ' h c
    obtain ⟨v, r, e, h⟩ := h
    refine ⟨v, r, e, ?_⟩
    refine ih (show gs r (σ.set i (some v)) H QQ from h) fun σ' H' hl hk q => c σ' H' (by rw [hl, List.length_set]) (fun k hn => ?_) q
    rw [hk k fun z => hn (List.mem_cons_of_mem _ z), List.getElem?_set_ne fun z => hn (by rw [z]; exact List.mem_cons_self)]
theorem GV.stay {g : TG} {vs : List Nat} (gv : GV g vs) {x : V} {σ : L2.St} {H : Hp} {QQ QQ' : L2.St → Hp → Prop} (h : g x σ H QQ) (c : ∀ (σ' : L2.St) H', σ'.length = σ.length → (∀ k, k ∉ vs → σ'[k]? = σ[k]?) → QQ σ' H' → QQ' σ' H') : g x σ H QQ' := by
  cases gv with
  | name i => exact c _ H (List.length_set ..) (fun k hn => List.getElem?_set_ne fun z => hn (by rw [z]; exact List.mem_cons_self)) h
  | tup gs =>
    obtain ⟨a, xs, e, hs, hn, q⟩ := h
    exact ⟨a, xs, e, hs, hn, gs.stay q c⟩
theorem wipe_in {σ : L2.St} {k : Nat} : ∀ {vs : List Nat}, k ∈ vs → k < σ.length → (wipe σ vs)[k]? = some none
  | v :: vs, h, hk => by
    show ((wipe σ vs).set v none)[k]? = some none
    by_cases e : v = k
    · subst e
      rw [List.getElem?_set_self (by rw [wipe_length]; exact hk)]
    · rw [List.getElem?_set_ne e]
      exact wipe_in ((List.mem_cons.mp h).resolve_left fun z => e z.symm) hk
theorem wipe_eq {σ τ : L2.St} {vs : List Nat} (hl : τ.length = σ.length) (h : ∀ k, k ∉ vs → τ[k]? = (wipe σ vs)[k]?) : wipe τ vs = wipe σ vs := by
  refine List.ext_getElem? fun k => ?_
  by_cases hk : k ∈ vs
  · by_cases hl2 : k < σ.length
    · rw [wipe_in hk hl2, wipe_in hk (by rw [hl]; exact hl2)]
    · rw [List.getElem?_eq_none (by rw [wipe_length]; omega), List.getElem?_eq_none (by rw [wipe_length]; omega)]
  · rw [wipe_out hk, h k hk]
def hideO : Option L → Option L
  | some (.own _) => none
  | o => o
def hide (ρ : En) : En := ρ.map hideO
def wipeE (ρ : En) : List Nat → En
  | [] => ρ
  | v :: vs => (wipeE ρ vs).set v none
theorem hide_at {ρ : En} {i : Nat} {l : L} (h : (hide ρ)[i]? = some (some l)) : ρ[i]? = some (some l) ∧ ∀ xs, l ≠ .own xs := by
  unfold hide at h
  rw [List.getElem?_map] at h
  cases e : ρ[i]? with
  | none => rw [e] at h; cases h
  | some o =>
    rw [e] at h
    have h' : hideO o = some l := Option.some.inj h
    cases o with
    | none => cases h'
    | some l' =>
      cases l' with
      | own xs => cases h'
      | d x => cases h'; exact ⟨rfl, fun _ z => nomatch z⟩
      | scr x => cases h'; exact ⟨rfl, fun _ z => nomatch z⟩
      | raw x => cases h'; exact ⟨rfl, fun _ z => nomatch z⟩
theorem hide_len (ρ : En) : (hide ρ).length = ρ.length := List.length_map ..
theorem wipeE_len (ρ : En) : ∀ vs : List Nat, (wipeE ρ vs).length = ρ.length
  | [] => rfl
  | v :: vs => by unfold wipeE; rw [List.length_set, wipeE_len ρ vs]
/-- within a comprehension: a base of its own, the own lists out of sight -/
theorem EnvOk.inner {F H : Hp} {σ : L2.St} (E : EnvOk B K F H σ ρ) (vs : List Nat) : EnvOk ⟨F, H, none⟩ K F H (wipe σ vs) (wipeE (hide ρ) vs) := by
  have base : EnvOk ⟨F, H, none⟩ K F H σ (hide ρ) := by
    refine ⟨⟨Ex.refl F, E.fh, fun a o e _ => e, fun a h => h, fun a h _ => h⟩, E.len.trans (hide_len ρ).symm, fun i l e => ?_, fun i j xs ys e1 _ _ => ?_, fun i xs a e1 _ => ?_, fun i a e => nomatch e⟩
    · exact E.sl i l (hide_at e).1
    · exact absurd rfl ((hide_at e1).2 xs)
    · exact absurd rfl ((hide_at e1).2 xs)
  induction vs with
  | nil => exact base
  | cons v vs ih => exact ih.forget fun a e => nomatch e
/-- an object that is neither frozen nor a slot's is changed -/
theorem EnvOk.poke {F H : Hp} {σ : L2.St} (E : EnvOk B K F H σ ρ) {p : Addr} {o : HO} (hF : F p = none) (h0 : B.H0 p = none) (hs : ∀ (i : Nat) (ys : List PyData), ρ[i]? = some (some (.own ys)) → σ[i]? ≠ some (some (.ref p))) : EnvOk B K F (upd H p o) σ ρ := by
  refine ⟨⟨E.st.f0, fun a u e => ?_, fun a u e n => ?_, fun a h => ?_, E.st.nf⟩, E.len, fun i l e => ?_, E.sep, E.mine, E.pin⟩
  · rw [upd_ne fun z => by rw [z, hF] at e; cases e]; exact E.fh a u e
  · rw [upd_ne fun z => by rw [z, h0] at e; cases e]; exact E.st.h0 a u e n
  · by_cases z : a = p
    · rw [z, upd_same]; exact fun z => nomatch z
    · rw [upd_ne z]; exact E.st.th a h
  · obtain ⟨v, e1, s⟩ := E.sl i l e
    refine ⟨v, e1, s.mono (Ex.refl F) fun a xs el ev => ?_⟩
    subst el ev
    obtain ⟨a', vs, ea, k1, k2, _⟩ := s
    cases ea
    exact ⟨k1, upd_ne fun z => hs i _ e (by rw [← z]; exact e1)⟩
theorem St1.stp {F H F' H' : Hp} (s : St1 ⟨F, H, none⟩ F' H') : Stp F H F' H' := ⟨s.f0, s.fh, fun a o e => s.h0 a o e (fun _ z => nomatch z), s.nf⟩
/-- what a comprehension over the items as wants -/
def Comp {α : Type} (K : Fr) (g : TG) (tt : TT) (te : TE) (vs : List Nat) (f : α → PyData) (as : List α) (ρ : En) (P : α → Option PyData → Prop) : Prop :=
  ∀ a, a ∈ as → ∀ B : Bs, B.pin.map Prod.fst = none → WG B K g (f a) (wipeE (hide ρ) vs) fun ρ2 => WT B K tt ρ2 fun b ρ3 => (b = true → WD B K te ρ3 fun y _ => P a (some y)) ∧ (b = false → P a none)
theorem lc_gen {α : Type} {J : It} {g : TG} {tt : TT} {vs : List Nat} {f : α → PyData} {as : List α} {P : α → Option PyData → Prop} {F0 F1 H1 : Hp} {σ : L2.St} {ρ1 : En} {QQ : VK} (gv : GV g vs) (E1 : EnvOk B K F1 H1 σ ρ1) (e1 : Ex F0 F1) (hz : as.length ≤ lim)
    (go : ∀ (i : Nat) (a : α) F H, as[i]? = some a → Ex F1 F → Ex F H → J.go i H)
    (stop : ∀ (i : Nat) F H, as.length ≤ i → Ex F1 F → Ex F H → J.stop i H)
    (yld : ∀ (i : Nat) (a : α) B F H σ ρ x H', as[i]? = some a → EnvOk B K F H σ ρ → Ex F1 F → J.yld i H x H' → ∃ F', EnvOk B K F' H' σ ρ ∧ Ex F F' ∧ Rp K F' x (f a))
    (h : Comp K g tt te vs f as ρ1 P) (k : ∀ v F' H' ys, EnvOk B K F' H' σ ρ1 → Ex F0 F' → ROk B K F' H' σ ρ1 v (.new ys) → Sel P as ys → QQ v H') :
    ∀ D, H1 D = none → ∃ W : Nat → Nat → Hp → Prop, (∃ m, W 0 m (upd H1 D (.lst []))) ∧ ∀ i m H, W i m H →
      (J.stop i H ∧ QQ (.ref D) H) ∨ (J.go i H ∧ ∃ Nx : Hp → Prop, (∀ H', Nx H' → ∃ m', m' < m ∧ W (i + 1) m' H') ∧ ∀ x H', J.yld i H x H' → g x (wipe σ vs) H' fun σ2 H2 => wipe σ2 vs = wipe σ vs ∧ tt σ2 H2 fun b H3 =>
        if b = true then te σ2 H3 fun y H4 => ∃ acc, H4 D = some (.lst acc) ∧ acc.length < sizeLine ∧ Nx (upd H4 D (.lst (acc ++ [y]))) else Nx H3) := by
  intro D hD
  have hs : ∀ (i : Nat) (ys : List PyData), ρ1[i]? = some (some (.own ys)) → σ[i]? ≠ some (some (.ref D)) := fun i ys hi hs => by
    obtain ⟨a, ws, e, _, k2, _⟩ := E1.own_at hi
    rw [hs] at e
    cases e
    rw [hD] at k2
    cases k2
  have h0 : B.H0 D = none := E1.h0p hD
  refine ⟨fun i m H => m = as.length - i ∧ i ≤ as.length ∧ ∃ F acc ys, EnvOk B K F H σ ρ1 ∧ Ex F1 F ∧ F D = none ∧ H D = some (.lst acc) ∧ RpA K F acc ys ∧ Sel P (as.take i) ys,
    ⟨as.length, (Nat.sub_zero _).symm, Nat.zero_le _, F1, [], [], E1.allocO hD, Ex.refl F1, E1.fh.free hD, upd_same, .nil, .nil⟩, ?_⟩
  rintro i m H2 ⟨rfl, hi, F2, acc, ys, E2, e2, fD, hD2, ra, sel⟩
  by_cases hlt : i < as.length
  · have ea : as[i]? = some as[i] := List.getElem?_eq_getElem hlt
    refine .inr ⟨go i _ F2 H2 ea e2 E2.fh, fun H' => ∃ F acc ys, EnvOk B K F H' σ ρ1 ∧ Ex F1 F ∧ F D = none ∧ H' D = some (.lst acc) ∧ RpA K F acc ys ∧ Sel P (as.take (i + 1)) ys, fun H' p' => ⟨as.length - (i + 1), by omega, rfl, hlt, p'⟩, fun x H' y => ?_⟩
    obtain ⟨F', E', e', rx⟩ := yld i _ _ F2 H2 _ _ x H' ea (E2.inner vs) e2 y
    refine gv.stay (h as[i] (List.getElem_mem hlt) _ rfl F' H' _ x E' rx (fun σ2 H3 => tt σ2 H3 fun b H4 => if b = true then te σ2 H4 fun y H5 => ∃ acc, H5 D = some (.lst acc) ∧ acc.length < sizeLine ∧ ∃ F acc' ys, EnvOk B K F (upd H5 D (.lst (acc ++ [y]))) σ ρ1 ∧ Ex F1 F ∧ F D = none ∧ (upd H5 D (.lst (acc ++ [y]))) D = some (.lst acc') ∧ RpA K F acc' ys ∧ Sel P (as.take (i + 1)) ys
      else ∃ F acc ys, EnvOk B K F H4 σ ρ1 ∧ Ex F1 F ∧ F D = none ∧ H4 D = some (.lst acc) ∧ RpA K F acc ys ∧ Sel P (as.take (i + 1)) ys) fun F3 H3 σ3 ρ3 E3 e3 q3 => ?_) fun σ3 H3 hl hk q => ⟨wipe_eq (by rw [hl, wipe_length]) hk, q⟩
    refine q3 F3 H3 σ3 E3 _ fun b F4 H4 ρ4 E4 e4 q4 => ?_
    cases b with
    | true =>
      refine q4.1 rfl F4 H4 σ3 E4 _ fun v y F5 H5 ρ5 E5 e5 rv q5 => ?_
      have st := E5.st.stp
      have E6 := E2.step st
      have hD5 := st.eh D _ hD2
      have fD5 := st.nf D fD (by rw [hD2]; exact fun z => nomatch z)
      refine ⟨acc, hD5, ?_, F5, acc ++ [v], ys ++ [y], E6.poke fD5 h0 hs, e2.trans st.ef, fD5, upd_same, (ra.mono st.ef).append (.cons rv .nil), ?_⟩
      · have l1 := sel.len
        rw [List.length_take] at l1
        rw [ra.length]
        exact lim_lt (by omega)
      · rw [take_snoc ea]
        exact .yes sel q5
    | false =>
      have st := E4.st.stp
      have E6 := E2.step st
      refine ⟨F4, acc, ys, E6, e2.trans st.ef, st.nf D fD (by rw [hD2]; exact fun z => nomatch z), st.eh D _ hD2, ra.mono st.ef, ?_⟩
      rw [take_snoc ea]
      exact .no sel (q4.2 rfl)
  · have e : i = as.length := by omega
    subst e
    rw [List.take_length] at sel
    exact .inl ⟨stop _ F2 H2 (Nat.le_refl _) e2 E2.fh, k _ F2 H2 ys E2 (e1.trans e2) ⟨D, acc, rfl, fD, hD2, ra, h0, hs⟩ sel⟩
/-- over a list, a tuple, a range, the script -/
theorem we_lcL {α : Type} {tl : TE} {g : TG} {tt : TT} {vs : List Nat} (f : α → PyData) (P : α → Option PyData → Prop) (gv : GV g vs) (h : WD B K tl ρ fun x ρ1 => ∃ as : List α, x = .list (as.map f) ∧ as.length ≤ lim ∧ Comp K g tt te vs f as ρ1 P ∧ ∀ ys, Sel P as ys → Q (.new ys) ρ1) :
    WE B K (tLc (iList K tl) g tt te vs) ρ Q := fun F H σ E QQ k =>
  h F H σ E _ fun v x F1 H1 ρ1 E1 e1 rv ⟨as, hx, hz, hc, q⟩ => by
    subst hx
    cases rv with
    | @lst a ws xs ha ra =>
    have hl : ws.length = as.length := by rw [ra.length, List.length_map]
    refine ⟨a, rfl, ⟨ws, .inl (.inl (E1.fh _ _ ha))⟩, lc_gen (J := Itl K a) gv E1 e1 hz (fun i b F2 H2 ea e2 fh => ?_) (fun i F2 H2 hi e2 fh => ⟨ws, .inl (.inl (fh _ _ (e2 _ _ ha))), by omega⟩) (fun i b B2 F2 H2 σ2 ρ2 y H' ea E2 e2 hy => ?_) hc fun v F2 H2 ys E2 e2 rv2 sel => k v (.new ys) F2 H2 ρ1 E2 e2 rv2 (q ys sel)⟩
    · obtain ⟨w, hw, _⟩ := at_map' ra ea
      exact ⟨ws, w, .inl (.inl (fh _ _ (e2 _ _ ha))), hw⟩
    · obtain ⟨rfl, hy⟩ := hy
      exact ⟨F2, E2, Ex.refl F2, Rp.mono e2 (at_map ra ea (hy ws (.inl (.inl (E2.fh _ _ (e2 _ _ ha))))))⟩
theorem we_lcT {α : Type} {tl : TE} {g : TG} {tt : TT} {vs : List Nat} (f : α → PyData) (P : α → Option PyData → Prop) (gv : GV g vs) (h : WD B K tl ρ fun x ρ1 => ∃ as : List α, x = .tuple (as.map f) ∧ as.length ≤ lim ∧ Comp K g tt te vs f as ρ1 P ∧ ∀ ys, Sel P as ys → Q (.new ys) ρ1) :
    WE B K (tLc (iTup K tl) g tt te vs) ρ Q := fun F H σ E QQ k =>
  h F H σ E _ fun v x F1 H1 ρ1 E1 e1 rv ⟨as, hx, hz, hc, q⟩ => by
    subst hx
    cases rv with
    | @tup a ws xs ha ra =>
    have hl : ws.length = as.length := by rw [ra.length, List.length_map]
    refine ⟨a, rfl, ⟨ws, E1.fh.stt ha⟩, lc_gen (J := Itt K a) gv E1 e1 hz (fun i b F2 H2 ea e2 fh => ?_) (fun i F2 H2 hi e2 fh => ⟨ws, fh.stt (e2.stt ha), by omega⟩) (fun i b B2 F2 H2 σ2 ρ2 y H' ea E2 e2 hy => ?_) hc fun v F2 H2 ys E2 e2 rv2 sel => k v (.new ys) F2 H2 ρ1 E2 e2 rv2 (q ys sel)⟩
    · obtain ⟨w, hw, _⟩ := at_map' ra ea
      exact ⟨ws, w, fh.stt (e2.stt ha), hw⟩
    · obtain ⟨rfl, hy⟩ := hy
      exact ⟨F2, E2, Ex.refl F2, Rp.mono e2 (at_map ra ea (hy ws (E2.fh.stt (e2.stt ha))))⟩
theorem we_lcScr {g : TG} {tt : TT} {vs : List Nat} {j : Nat} {ns : List Int} (P : Int → Option PyData → Prop) (gv : GV g vs) (hj : ρ[j]? = some (some (.scr ns))) (hz : ns.length ≤ lim) (hc : Comp K g tt te vs PyData.int ns ρ P) (q : ∀ ys, Sel P ns ys → Q (.new ys) ρ) :
    WE B K (tLc (iList K (tVar j)) g tt te vs) ρ Q := fun F H σ E QQ k => by
  obtain ⟨v, e, a, hv, hs⟩ := E.sl j _ hj
  subst hv
  refine ⟨.ref a, e, a, rfl, ⟨_, E.fh.sl hs⟩, lc_gen (J := Itl K a) gv E (Ex.refl F) hz (fun i b F2 H2 ea e2 fh => ⟨_, .int b, fh.sl (e2.sl hs), by rw [List.getElem?_map, ea]; rfl⟩) (fun i F2 H2 hi e2 fh => ⟨_, fh.sl (e2.sl hs), by rw [List.length_map]; exact hi⟩) (fun i b B2 F2 H2 σ2 ρ2 y H' ea E2 e2 hy => ?_) hc fun v F2 H2 ys E2 e2 rv2 sel => k v (.new ys) F2 H2 ρ E2 e2 rv2 (q ys sel)⟩
  obtain ⟨rfl, hy⟩ := hy
  have q := hy _ (E2.fh.sl (e2.sl hs))
  rw [List.getElem?_map, ea] at q
  cases q
  exact ⟨F2, E2, Ex.refl F2, Rp.int _⟩
theorem lc_itr {g : TG} {tt : TT} {vs : List Nat} {lo : Int} {n : Nat} {P : Int → Option PyData → Prop} {F0 F1 H1 : Hp} {σ : L2.St} {ρ1 : En} {QQ : VK} (gv : GV g vs) (E1 : EnvOk B K F1 H1 σ ρ1) (e1 : Ex F0 F1) (hz : n ≤ lim) (h : Comp K g tt te vs PyData.int (ixs lo n) ρ1 P)
    (k : ∀ v F' H' ys, EnvOk B K F' H' σ ρ1 → Ex F0 F' → ROk B K F' H' σ ρ1 v (.new ys) → Sel P (ixs lo n) ys → QQ v H') : ∀ D, H1 D = none → ∃ W : Nat → Nat → Hp → Prop, (∃ m, W 0 m (upd H1 D (.lst []))) ∧ ∀ i m H, W i m H →
      ((Itr lo n).stop i H ∧ QQ (.ref D) H) ∨ ((Itr lo n).go i H ∧ ∃ Nx : Hp → Prop, (∀ H', Nx H' → ∃ m', m' < m ∧ W (i + 1) m' H') ∧ ∀ x H', (Itr lo n).yld i H x H' → g x (wipe σ vs) H' fun σ2 H2 => wipe σ2 vs = wipe σ vs ∧ tt σ2 H2 fun b H3 =>
        if b = true then te σ2 H3 fun y H4 => ∃ acc, H4 D = some (.lst acc) ∧ acc.length < sizeLine ∧ Nx (upd H4 D (.lst (acc ++ [y]))) else Nx H3) := by
  refine lc_gen (J := Itr lo n) (f := PyData.int) (as := ixs lo n) gv E1 e1 (by rw [ixs_len]; exact hz) (fun i b F2 H2 ea e2 fh => ?_) (fun i F2 H2 hi e2 fh => ?_) (fun i b B2 F2 H2 σ2 ρ2 y H' ea E2 e2 hy => ?_) h k
  · have := (List.getElem?_eq_some_iff.mp ea).1
    rw [ixs_len] at this
    exact this
  · rw [ixs_len] at hi
    exact hi
  · obtain ⟨rfl, rfl⟩ := hy
    rw [ixs_at] at ea
    split at ea
    · cases ea
      exact ⟨F2, E2, Ex.refl F2, Rp.int _⟩
    · cases ea
theorem we_lc1 {tn : TE} {g : TG} {tt : TT} {vs : List Nat} (P : Int → Option PyData → Prop) (gv : GV g vs) (h : WD B K tn ρ fun x ρ1 => ∃ n : Int, x = .int n ∧ -1000000 ≤ n ∧ n ≤ 1000000 ∧ Comp K g tt te vs PyData.int (ixs 0 n.toNat) ρ1 P ∧ ∀ ys, Sel P (ixs 0 n.toNat) ys → Q (.new ys) ρ1) :
    WE B K (tLc (iRng1 (tCons tn tNil)) g tt te vs) ρ Q := fun F H σ E QQ k =>
  h F H σ E _ fun v x F1 H1 ρ1 E1 e1 rv ⟨n, hx, n0, n1, hc, q⟩ => by
    subst hx
    cases rv
    exact ⟨n, rfl, by omega, by omega, lc_itr gv E1 e1 (by show n.toNat ≤ 1000000; omega) hc fun v F2 H2 ys E2 e2 rv2 sel => k v (.new ys) F2 H2 ρ1 E2 e2 rv2 (q ys sel)⟩
end
end SV

set_option maxHeartbeats 1000000
namespace SV
open PySem PySem.Spec L2
open Evl (Ex)

/-! ### what a def is worth, over plain data -/
abbrev GF := List L → (R → List PyData → Prop) → (Addr → Prop) → Prop
def pinAt (pin : Option Nat) (vs : List V) : Option (Nat × Addr) :=
  match pin with
  | none => none
  | some p => match vs[p]? with
    | some (.ref a) => some (p, a)
    | _ => none
def Own1 (B : Bs) (K : Fr) (F H : Hp) (ys : List PyData) : Prop :=
  match B.pin with
  | none => ys = []
  | some (_, a) => F a = none ∧ ∃ ws, H a = some (.lst ws) ∧ RpA K F ws ys
def RetOk (B : Bs) (K : Fr) (F H : Hp) (v : V) : R → Prop
  | .d x => Rp K F v x
  | .new xs => ∃ a vs, v = .ref a ∧ F a = none ∧ H a = some (.lst vs) ∧ RpA K F vs xs ∧ B.H0 a = none
  | .scr ns => ∃ a, v = .ref a ∧ SqL K F a (ns.map V.int)
  | .raw w => v = w
structure Args (K : Fr) (pin : Option Nat) (F H : Hp) (vs : List V) (ls : List L) : Prop where
  ok : EnvOk ⟨F, H, pinAt pin vs⟩ K F H (vs.map some) (ls.map some)
  pn : (pinAt pin vs).map Prod.fst = pin
def SpG (K : Fr) (pin : Option Nat) (G : GF) : Sp := fun vs H Q E => ∃ F ls Po Pe, Args K pin F H vs ls ∧ G ls Po Pe ∧
  (∀ v r F' H' ys, St1 ⟨F, H, pinAt pin vs⟩ F' H' → RetOk ⟨F, H, pinAt pin vs⟩ K F' H' v r → Own1 ⟨F, H, pinAt pin vs⟩ K F' H' ys → Po r ys → Q v H') ∧
  ∀ C F' H' ys, St1 ⟨F, H, pinAt pin vs⟩ F' H' → Own1 ⟨F, H, pinAt pin vs⟩ K F' H' ys → Pe C → E (.ref C) none H'
def ownAt (pin : Option Nat) (ρ : En) : List PyData :=
  match pin with
  | none => []
  | some p => match ρ[p]? with
    | some (some (.own ys)) => ys
    | _ => []
def Zf (pin : Option Nat) (Po : R → List PyData → Prop) : Zs := { nx := fun ρ => Po (.d .none) (ownAt pin ρ), rt := fun r ρ => Po r (ownAt pin ρ) }
def EK (B : Bs) (K : Fr) (E : XK) (C : Addr) : Prop := ∀ F H σ ρ, EnvOk B K F H σ ρ → E (.ref C) none H
section
variable {B : Bs} {K : Fr} {F H F' H' : Hp} {σ : L2.St} {ρ : En} {v : V} {r : R}
theorem EnvOk.own1 (E : EnvOk B K F H σ ρ) {pin : Option Nat} (hp : B.pin.map Prod.fst = pin) : Own1 B K F H (ownAt pin ρ) := by
  unfold Own1
  cases e : B.pin with
  | none => rw [e] at hp; cases hp; rfl
  | some q =>
    obtain ⟨p, a⟩ := q
    rw [e] at hp
    cases hp
    obtain ⟨h1, xs, h2⟩ := E.pin p a e
    obtain ⟨a', vs, e2, k1, k2, k3⟩ := E.own_at h2
    rw [h1] at e2
    cases e2
    show F a = none ∧ ∃ ws, H a = some (.lst ws) ∧ RpA K F ws (match ρ[p]? with | some (some (.own ys)) => ys | _ => [])
    rw [h2]
    exact ⟨k1, vs, k2, k3⟩
theorem ROk.ret (h : ROk B K F H σ ρ v r) : RetOk B K F H v r := by
  cases r with
  | d x => exact h
  | new xs => obtain ⟨a, vs, e, k1, k2, k3, k4, _⟩ := h; exact ⟨a, vs, e, k1, k2, k3, k4⟩
  | scr ns => exact h
  | raw w => exact h
theorem EnvOk.pad (E : EnvOk B K F H σ ρ) (k : Nat) : EnvOk B K F H (σ ++ List.replicate k none) (ρ ++ List.replicate k none) := by
  have at_ : ∀ (i : Nat) (l : L), (ρ ++ List.replicate k none)[i]? = some (some l) → ρ[i]? = some (some l) ∧ (σ ++ List.replicate k none)[i]? = σ[i]? := fun i l e => by
    by_cases h : i < ρ.length
    · rw [List.getElem?_append_left h] at e
      exact ⟨e, List.getElem?_append_left (by rw [E.len]; exact h)⟩
    · rw [List.getElem?_append_right (by omega), List.getElem?_replicate] at e
      split at e
      · cases e
      · cases e
  refine ⟨E.st, by rw [List.length_append, List.length_append, E.len, List.length_replicate, List.length_replicate], fun i l e => ?_, fun i j xs ys e1 e2 ne => ?_, fun i xs a e1 e2 => ?_, fun i a e => ?_⟩
  · obtain ⟨q, s⟩ := at_ i l e
    rw [s]
    exact E.sl i l q
  · obtain ⟨q1, s1⟩ := at_ i _ e1
    obtain ⟨q2, s2⟩ := at_ j _ e2
    rw [s1, s2]
    exact E.sep i j xs ys q1 q2 ne
  · obtain ⟨q1, s1⟩ := at_ i _ e1
    rw [s1] at e2
    exact E.mine i xs a q1 e2
  · obtain ⟨q1, xs, q2⟩ := E.pin i a e
    have hi : i < ρ.length := (List.getElem?_eq_some_iff.mp q2).1
    rw [List.getElem?_append_left (by rw [E.len]; exact hi), List.getElem?_append_left hi]
    exact ⟨q1, xs, q2⟩
/-- a def's body read over plain data -/
theorem rd_of {N : List Str} {t : TS} {pin : Option Nat} {G : GF} {vs : List V} {Q : VK} {E : XK} (h : SpG K pin G vs H Q E)
    (w : ∀ B ls Po Pe, B.pin.map Prod.fst = pin → G ls Po Pe → (∀ C, Pe C → EK B K E C) → WS B K t (ls.map some ++ List.replicate (N.length - ls.length) none) (Zf pin Po)) : t { nx := fun _ H' => Q .non H', rt := Q } (L2.start N vs) H := by
  obtain ⟨F, ls, Po, Pe, ha, hG, hQ, hE⟩ := h
  have hl : vs.length = ls.length := by
    have := ha.ok.len
    rw [List.length_map, List.length_map] at this
    exact this
  have E0 := ha.ok.pad (N.length - ls.length)
  have ww := w ⟨F, H, pinAt pin vs⟩ ls Po Pe ha.pn hG fun C hC F' H' σ' ρ' E' => hE C F' H' _ E'.st (E'.own1 ha.pn) hC
  unfold L2.start
  rw [hl]
  exact ww F H _ E0 _ ⟨fun F' H' σ' ρ' E' _ q => hQ .non (.d .none) F' H' _ E'.st Rp.non (E'.own1 ha.pn) q, fun F' H' σ' ρ' v r E' _ rv q => hQ v r F' H' _ E'.st rv.ret (E'.own1 ha.pn) q, fun _ _ _ _ _ _ q => q.elim, fun _ _ _ _ _ _ q => q.elim⟩
theorem SpG.len {pin : Option Nat} {G : GF} {n : Nat} (hG : ∀ ls Po Pe, G ls Po Pe → ls.length = n) : ∀ vs H Q E, SpG K pin G vs H Q E → vs.length = n := fun vs H Q E h => by
  obtain ⟨F, ls, Po, Pe, ha, hg, _⟩ := h
  have := ha.ok.len
  rw [List.length_map, List.length_map] at this
  rw [this]
  exact hG ls Po Pe hg
end
/-! ### calls -/
def argL : List Ar → Option (List L)
  | [] => some []
  | .d x :: r => (argL r).map (.d x :: ·)
  | .scr ns :: r => (argL r).map (.scr ns :: ·)
  | .raw v :: r => (argL r).map (.raw v :: ·)
  | .own _ :: _ => none
section
variable {B : Bs} {K : Fr} {F H F' H' : Hp} {σ : L2.St} {ρ : En} {ta : TA} {Q : R → En → Prop}
theorem args_sl : ∀ {as : List Ar} {vs : List V} {ls : List L}, AOks K F σ vs as → argL as = some ls → vs.length = ls.length ∧ ∀ (i : Nat) (l : L), ls[i]? = some l → (∃ v, vs[i]? = some v ∧ SlotOk K F H v l) ∧ ∀ xs, l ≠ .own xs
  | [], _, _, .nil, e => by
    cases e
    exact ⟨rfl, fun i l h => by simp at h⟩
  | a :: as, _, ls, .cons (v := v) (vs := vs) ha hs, e => by
    have key : ∃ l ls', ls = l :: ls' ∧ argL as = some ls' ∧ SlotOk K F H v l ∧ ∀ xs, l ≠ .own xs := by
      cases a with
      | d x =>
        cases q : argL as with
        | none => unfold argL at e; rw [q] at e; cases e
        | some ls' => unfold argL at e; rw [q] at e; cases e; exact ⟨_, ls', rfl, rfl, ha, fun _ z => nomatch z⟩
      | scr x =>
        cases q : argL as with
        | none => unfold argL at e; rw [q] at e; cases e
        | some ls' => unfold argL at e; rw [q] at e; cases e; exact ⟨_, ls', rfl, rfl, ha, fun _ z => nomatch z⟩
      | raw x =>
        cases q : argL as with
        | none => unfold argL at e; rw [q] at e; cases e
        | some ls' => unfold argL at e; rw [q] at e; cases e; exact ⟨_, ls', rfl, rfl, ha, fun _ z => nomatch z⟩
      | own j => cases e
    obtain ⟨l, ls', rfl, e', sl, no⟩ := key
    obtain ⟨h1, h2⟩ := args_sl hs e'
    refine ⟨congrArg (· + 1) h1, fun i l2 h => ?_⟩
    cases i with
    | zero =>
      have z := Option.some.inj h
      subst z
      exact ⟨⟨v, rfl, sl⟩, no⟩
    | succ i => exact h2 i l2 h
theorem we_call {G : GF} {E : XK} (h : WA B K ta ρ fun as ρ1 => ∃ ls Pe, argL as = some ls ∧ G ls (fun r _ => Q r ρ1) Pe ∧ ∀ C, Pe C → EK B K E C) : WE B K (tCall (SpG K none G) [] E ta) ρ Q := fun F H σ E0 QQ k =>
  h F H σ E0 _ fun vs as F1 H1 ρ1 E1 e1 av ⟨ls, Pe, ha, hG, hE⟩ => by
    show SpG K none G (vs ++ []) H1 QQ E
    rw [List.append_nil]
    obtain ⟨hl, hs⟩ := args_sl (H := H1) av ha
    refine ⟨F1, ls, fun r _ => Q r ρ1, Pe, ⟨⟨⟨Ex.refl F1, E1.fh, fun a o e _ => e, fun a h => h, fun a h _ => h⟩, by rw [List.length_map, List.length_map, hl], fun i l e => ?_, fun i j xs ys e1 _ _ => ?_, fun i xs a e1 _ => ?_, fun i a e => nomatch e⟩, rfl⟩, hG, fun v r F' H' ys st rv _ q => ?_, fun C F' H' ys st _ hC => hE C hC F' H' σ ρ1 (E1.step st.stp)⟩
    · rw [List.getElem?_map] at e ⊢
      cases q : ls[i]? with
      | none => rw [q] at e; cases e
      | some l' =>
        rw [q] at e
        cases e
        obtain ⟨⟨v, hv, sv⟩, _⟩ := hs i _ q
        exact ⟨v, by rw [hv]; rfl, sv⟩
    · rw [List.getElem?_map] at e1
      cases q : ls[i]? with
      | none => rw [q] at e1; cases e1
      | some l' => rw [q] at e1; cases e1; exact absurd rfl ((hs i _ q).2 xs)
    · rw [List.getElem?_map] at e1
      cases q : ls[i]? with
      | none => rw [q] at e1; cases e1
      | some l' => rw [q] at e1; cases e1; exact absurd rfl ((hs i _ q).2 xs)
    · have E2 := E1.step st.stp
      refine k v r F' H' ρ1 E2 (e1.trans st.stp.ef) ?_ q
      cases r with
      | d x => exact rv
      | new xs =>
        obtain ⟨a, ws, e, k1, k2, k3, k4⟩ := rv
        refine ⟨a, ws, e, k1, k2, k3, E1.h0p k4, fun i ys hi hs => ?_⟩
        obtain ⟨a', us, e', _, m2, _⟩ := E1.own_at hi
        rw [hs] at e'
        cases e'
        rw [show H1 a = none from k4] at m2
        cases m2
      | scr ns => exact rv
      | raw w => exact rv
/-- the heap goes on, but the own list of slot j is another one -/
theorem EnvOk.stepW (E : EnvOk B K F H σ ρ) {j p : Nat} {a : Addr} {xs ys : List PyData} {ws : List V} (hj : ρ[j]? = some (some (.own xs))) (ha : σ[j]? = some (some (.ref a))) (st : St1 ⟨F, H, some (p, a)⟩ F' H') (fa : F' a = none) (hw : H' a = some (.lst ws)) (rw' : RpA K F' ws ys) :
    EnvOk B K F' H' σ (ρ.set j (some (.own ys))) := by
  obtain ⟨a', vs, e1, k1, k2, k3⟩ := E.own_at hj
  rw [ha] at e1
  cases e1
  have hi : j < ρ.length := (List.getElem?_eq_some_iff.mp hj).1
  have ne : ∀ b o, b ≠ a → H b = some o → H' b = some o := fun b o n e => st.h0 b o e fun i z => n (Prod.mk.inj (Option.some.inj z)).2.symm
  have own_of : ∀ (m : Nat) (zs : List PyData), (ρ.set j (some (.own ys)))[m]? = some (some (.own zs)) → ∃ zs' : List PyData, ρ[m]? = some (some (.own zs')) := fun m zs em => by
    by_cases hm : m = j
    · subst hm; exact ⟨xs, hj⟩
    · rw [List.getElem?_set_ne (Ne.symm hm)] at em; exact ⟨zs, em⟩
  refine ⟨⟨E.st.f0.trans st.f0, st.fh, fun b u e n => ?_, fun b hb => ?_, fun b h1 h2 => st.nf b (E.st.nf b h1 h2) (E.st.th b h2)⟩, by rw [List.length_set]; exact E.len, fun i l e => ?_, fun i m us ws' e1 e2 n => ?_, fun i us b e1 e2 => ?_, fun i b e => ?_⟩
  · have hb : b ≠ a := fun z => by
      subst z
      rcases E.mine j xs b hj ha with z | z
      · rw [z] at e; cases e
      · exact n j z
    exact ne b u hb (E.st.h0 b u e n)
  · exact st.th b (E.st.th b hb)
  · by_cases h : i = j
    · subst h
      rw [List.getElem?_set_self hi] at e
      cases e
      exact ⟨.ref a, ha, a, ws, rfl, fa, hw, rw'⟩
    · rw [List.getElem?_set_ne (Ne.symm h)] at e
      obtain ⟨v, e1, s⟩ := E.sl i l e
      refine ⟨v, e1, s.mono st.f0 fun b us el ev => ?_⟩
      subst el ev
      obtain ⟨b', vs', eb, m1, m2, _⟩ := s
      cases eb
      have hb : b ≠ a := fun z => by subst z; exact E.sep i j _ _ e hj h (e1.trans ha.symm)
      exact ⟨st.nf b m1 (by rw [show (⟨F, H, some (p, a)⟩ : Bs).H0 b = H b from rfl, m2]; exact fun z => nomatch z), (ne b _ hb m2).trans m2.symm⟩
  · obtain ⟨_, q1⟩ := own_of i us e1
    obtain ⟨_, q2⟩ := own_of m ws' e2
    exact E.sep i m _ _ q1 q2 n
  · obtain ⟨_, q1⟩ := own_of i us e1
    exact E.mine i _ b q1 e2
  · obtain ⟨q1, us, q2⟩ := E.pin i b e
    refine ⟨q1, ?_⟩
    by_cases h : i = j
    · subst h; exact ⟨ys, List.getElem?_set_self hi⟩
    · exact ⟨us, by rw [List.getElem?_set_ne (Ne.symm h)]; exact q2⟩
theorem AOks.split : ∀ {as bs : List Ar} {vs : List V}, AOks K F σ vs (as ++ bs) → ∃ us ws, vs = us ++ ws ∧ us.length = as.length ∧ AOks K F σ us as ∧ AOks K F σ ws bs
  | [], _, vs, h => ⟨[], vs, rfl, rfl, .nil, h⟩
  | _ :: _, _, _, .cons h r => by
    obtain ⟨us, ws, rfl, hl, h1, h2⟩ := AOks.split r
    exact ⟨_ :: us, ws, rfl, congrArg (· + 1) hl, .cons h h1, h2⟩
theorem we_callP {G : GF} {E : XK} {p : Nat} (h : WA B K ta ρ fun as ρ1 => ∃ pre post j xs l1 l2 Pe, as = pre ++ .own j :: post ∧ pre.length = p ∧ ρ1[j]? = some (some (.own xs)) ∧ argL pre = some l1 ∧ argL post = some l2 ∧ G (l1 ++ .own xs :: l2) (fun r ys => Q r (ρ1.set j (some (.own ys)))) Pe ∧ ∀ C, Pe C → EK B K E C) :
    WE B K (tCall (SpG K (some p) G) [] E ta) ρ Q := fun F H σ E0 QQ k =>
  h F H σ E0 _ fun vs as F1 H1 ρ1 E1 e1 av ⟨pre, post, j, xs, l1, l2, Pe, ea, hp, hj, hl1, hl2, hG, hE⟩ => by
    show SpG K (some p) G (vs ++ []) H1 QQ E
    rw [List.append_nil]
    subst ea
    obtain ⟨us, ws, rfl, hu, au, aw⟩ := av.split
    cases aw with
    | @cons v ws a as hv aw =>
    obtain ⟨a, cs, ha, f1, f2, f3⟩ := E1.own_at hj
    rw [show σ[j]? = some (some v) from hv] at ha
    cases ha
    obtain ⟨n1, s1⟩ := args_sl (H := H1) au hl1
    obtain ⟨n2, s2⟩ := args_sl (H := H1) aw hl2
    have hlen : l1.length = p := by rw [← n1, hu, hp]
    have pa : pinAt (some p) (us ++ .ref a :: ws) = some (p, a) := by
      have e : (us ++ V.ref a :: ws)[p]? = some (.ref a) := by
        rw [List.getElem?_append_right (by omega), show p - us.length = 0 by omega]
        rfl
      show (match (us ++ V.ref a :: ws)[p]? with | some (.ref a) => some (p, a) | _ => none) = some (p, a)
      rw [e]
    have at_ : ∀ (i : Nat) (l : L), (l1 ++ L.own xs :: l2)[i]? = some l → (∃ v, (us ++ V.ref a :: ws)[i]? = some v ∧ SlotOk K F1 H1 v l) ∧ (∀ zs, l = .own zs → i = p) := fun i l e => by
      by_cases h1 : i < l1.length
      · rw [List.getElem?_append_left h1] at e
        obtain ⟨⟨v, hv, sv⟩, no⟩ := s1 i l e
        exact ⟨⟨v, by rw [List.getElem?_append_left (by omega)]; exact hv, sv⟩, fun zs z => absurd z (no zs)⟩
      · by_cases h2 : i = l1.length
        · subst h2
          rw [List.getElem?_append_right (Nat.le_refl _), Nat.sub_self] at e
          have e' := Option.some.inj e
          subst e'
          refine ⟨⟨.ref a, ?_, a, cs, rfl, f1, f2, f3⟩, fun _ _ => hlen⟩
          rw [List.getElem?_append_right (by omega), show l1.length - us.length = 0 by omega]
          rfl
        · rw [List.getElem?_append_right (by omega), show i - l1.length = (i - l1.length - 1) + 1 by omega, List.getElem?_cons_succ] at e
          obtain ⟨⟨v, hv, sv⟩, no⟩ := s2 _ l e
          refine ⟨⟨v, ?_, sv⟩, fun zs z => absurd z (no zs)⟩
          rw [List.getElem?_append_right (by omega), show i - us.length = (i - l1.length - 1) + 1 by omega, List.getElem?_cons_succ]
          exact hv
    have map_at : ∀ (i : Nat) (l : L), ((l1 ++ L.own xs :: l2).map some)[i]? = some (some l) → (l1 ++ L.own xs :: l2)[i]? = some l := fun i l e => by
      rw [List.getElem?_map] at e
      cases q : (l1 ++ L.own xs :: l2)[i]? with
      | none => rw [q] at e; cases e
      | some l' => rw [q] at e; exact congrArg some (Option.some.inj (Option.some.inj e))
    have own_at_p : ((l1 ++ L.own xs :: l2).map some)[p]? = some (some (.own xs)) := by
      rw [List.getElem?_map, List.getElem?_append_right (by omega), show p - l1.length = 0 by omega]
      rfl
    have ref_at_p : ((us ++ V.ref a :: ws).map some)[p]? = some (some (.ref a)) := by
      rw [List.getElem?_map, List.getElem?_append_right (by omega), show p - us.length = 0 by omega]
      rfl
    unfold SpG
    rw [pa]
    refine ⟨F1, l1 ++ .own xs :: l2, fun r ys => Q r (ρ1.set j (some (.own ys))), Pe, ⟨?_, by rw [pa]; rfl⟩, hG, fun v r F' H' ys st rv ow q => ?_, fun C F' H' ys st ow hC => ?_⟩
    · rw [pa]
      refine ⟨⟨Ex.refl F1, E1.fh, fun a o e _ => e, fun a h => h, fun a h _ => h⟩, ?_, fun i l e => ?_, fun i m zs zs' e1 e2 n => ?_, fun i zs b e1 e2 => ?_, fun i b e => ?_⟩
      · rw [List.length_map, List.length_map, List.length_append, List.length_append, List.length_cons, List.length_cons, n1, n2]
      · obtain ⟨⟨v, hv, sv⟩, _⟩ := at_ i l (map_at i l e)
        exact ⟨v, by rw [List.getElem?_map, hv]; rfl, sv⟩
      · have q1 := (at_ i _ (map_at i _ e1)).2 zs rfl
        have q2 := (at_ m _ (map_at m _ e2)).2 zs' rfl
        exact absurd (q1.trans q2.symm) n
      · have q1 := (at_ i _ (map_at i _ e1)).2 zs rfl
        subst q1
        rw [ref_at_p] at e2
        cases e2
        exact .inr rfl
      · cases e
        exact ⟨ref_at_p, xs, own_at_p⟩
    · obtain ⟨fa, vs', hw, rw'⟩ := (show F' a = none ∧ ∃ ws, H' a = some (.lst ws) ∧ RpA K F' ws ys from ow)
      have E2 := E1.stepW hj hv st fa hw rw'
      refine k v r F' H' _ E2 (e1.trans st.f0) ?_ q
      cases r with
      | d x => exact rv
      | new zs =>
        obtain ⟨b, us', e, k1, k2, k3, k4⟩ := rv
        refine ⟨b, us', e, k1, k2, k3, E1.h0p k4, fun i zs' hi hs => ?_⟩
        have : ∃ zs'' : List PyData, ρ1[i]? = some (some (.own zs'')) := by
          by_cases hm : i = j
          · subst hm; exact ⟨xs, hj⟩
          · rw [List.getElem?_set_ne (Ne.symm hm)] at hi; exact ⟨zs', hi⟩
        obtain ⟨_, hi'⟩ := this
        obtain ⟨a', us2, e', _, m2, _⟩ := E1.own_at hi'
        rw [hs] at e'
        cases e'
        rw [show H1 b = none from k4] at m2
        cases m2
      | scr ns => exact rv
      | raw w => exact rv
    · obtain ⟨fa, vs', hw, rw'⟩ := (show F' a = none ∧ ∃ ws, H' a = some (.lst ws) ∧ RpA K F' ws ys from ow)
      exact hE C hC F' H' σ _ (E1.stepW hj hv st fa hw rw')
/-! ### raise -/
def tRaiseE (E : XK) (C : Addr) : TS := fun _ _ H => E (.ref C) none H
theorem ws_raise {E : XK} {C : Addr} {Z : Zs} (h : EK B K E C) : WS B K (tRaiseE E C) ρ Z := fun F H σ E0 D ok => h F H σ ρ E0
end
theorem p_raise {X : Cx} {E : XK} {C : Addr} {e : Expr} {pos : Pos} (tk : Takes X (fun cls d _ H => E cls d H)) (mk : PMk X e (fun _ H Q => Q (.ref C) none H)) (hc : X.calm = true := by rfl) : PS X (.Raise (some e) none pos) (tRaiseE E C) := ps_raise hc tk mk
end SV

set_option maxHeartbeats 1000000
namespace SV
open PySem PySem.Spec L2
open Evl (Ex)

abbrev rJoin (K : Fr) : V → List V → Hp → VK → Prop := fun x xs H Q => ∃ a p, ∃ ys : List Str, x = .str a ∧ xs = [.ref p] ∧ (SqL K H p (ys.map V.str) ∨ SqT K H p (ys.map V.str)) ∧ (ys.map (·.length)).sum + ys.length * a.length ≤ 16777216 ∧ Q (.str (Txt.join a ys)) H
/-! ### rules that the terms name -/
section
variable {X : Cx}
theorem ps_setO {i : Nat} {x : Str} {e : Expr} {te : TE} {pos pos' : Pos} (hN : X.N.Nodup) (hi : X.N[i]? = some x) (hx : Loc X.env.scope x) (he : PE X e te) (hs : swapsWith e (some (.Name x pos')) pos.line X.env = pure false := by rfl)
    (hf : X.fn x = true ∨ X.env.scope.names.lookup x = some .local := by first | exact .inl rfl | exact .inr rfl | assumption) : PS X (.Assign [.Name x pos'] e pos) (tAsgO te i) := ps_set hN hi hx he hs hf
end
/-! the rules, by the fragment that is named -/
section
variable {X : Cx} (K : Fr) (h : X.K = K := by rfl)
include h
theorem k_plus : OpR X (binaryOp .Add) (rPlus K) := h ▸ op_plus
theorem k_eqD (hu : X.A.units + 64 < cLine) : OpR X (compareOp .Eq) (rEqD K) := h ▸ op_eqD hu
theorem k_neD (hu : X.A.units + 64 < cLine) : OpR X (compareOp .NotEq) (rNeD K) := h ▸ op_neD hu
theorem k_inSeq : OpR X (compareOp .In) (rIn K false) := h ▸ op_in_seq
theorem k_niSeq : OpR X (compareOp .NotIn) (rIn K true) := h ▸ op_notIn_seq
theorem k_ix : IxR X (rIx K) := h ▸ ix_seq
theorem k_sl : SlR X (rSlAny K) := h ▸ sl_any
theorem k_len : CallR X (.builtin "len") (rLen K) := h ▸ call_len
theorem k_isi : CallR X (.builtin "isinstance") (rIsi K) := h ▸ call_isi
theorem k_isiT : CallR X (.builtin "isinstance") (rIsiT K) := h ▸ call_isiT
theorem k_max (hc : X.calm = true) : CallR X (.builtin "max") (rMax K) := h ▸ cr_max hc
theorem k_min (hc : X.calm = true) : CallR X (.builtin "min") (rMin K) := h ▸ cr_min hc
theorem k_sum (hc : X.calm = true) : CallR X (.builtin "sum") (rSum K) := h ▸ cr_sum hc
theorem k_all (hc : X.calm = true) : CallR X (.builtin "all") (rAll K) := h ▸ cr_all hc
theorem k_any (hc : X.calm = true) : CallR X (.builtin "any") (rAny K) := h ▸ cr_any hc
theorem k_listOf : CallR X (.type "list") (rListOf K) := h ▸ call_list_of
theorem k_tupOf : CallR X (.type "tuple") (rTupOf K) := h ▸ call_tuple_of
theorem k_piL {tg l : Expr} {tl : TE} (hl : PE X l tl) : PI X tg l (iList K tl) := h ▸ pi_list hl
theorem k_piT {tg l : Expr} {tl : TE} (hl : PE X l tl) : PI X tg l (iTup K tl) := h ▸ pi_tup hl
theorem k_gTup {es : List Expr} {k : Nat} {pos : Pos} {t : TGs} {n : Nat} (hc : X.calm = true) (hg : PGs X es t) (hn : (assignEach es X.env).length = n := by rfl) (hst : (assignEach es X.env).findIdx? (·.1) = none := by rfl) : PG X (.Tuple es k pos) (gTup K n t) := h ▸ pg_tup hc hg hn hst
theorem k_bm0 {o : Expr} {to : TE} {name : Str} {apos cpos : Pos} {T id : String} {r : V → List V → Hp → VK → Prop} (pa : PlainAttrs T) (slot : Slot T name id) (hty : typeOf (.builtin id) = pure (.type "method_descriptor")) (hm : MtR X id r) (ho : PE X o to)
    (hbase : attributeBase o name X.env (eval o X.env) = eval o X.env := by rfl) (hline : (apos.endLine == cpos.line) = true := by rfl) : PE X (.Call (.Attribute o name apos) [] [] cpos) (tBM0 K T r to) := h ▸ pe_bm0 pa slot hty hm ho hbase hline
theorem k_bm {o e : Expr} {es : List Expr} {to : TE} {t : TA} {name : Str} {apos cpos : Pos} {T id : String} {r : V → List V → Hp → VK → Prop} (pa : PlainAttrs T) (slot : Slot T name id) (hty : typeOf (.builtin id) = pure (.type "method_descriptor")) (hm : MtR X id r) (ho : PE X o to) (ha : PA X (e :: es) t)
    (hbase : attributeBase o name X.env (eval o X.env) = eval o X.env := by rfl)
    (hfew : ((backTo cpos (starEach (e :: es) X.env)).all (fun x => !x.1) && (backToKw cpos (keywordEach [] X.env)).all (fun x => x.1.isSome) && decide ((e :: es).length + ([] : List Keyword).length + (if ([] : List Keyword).isEmpty then 0 else 1) < 30)) = true := by rfl)
    (hline : (apos.endLine == cpos.line) = true := by rfl) (hs : starEach (e :: es) X.env = (false, eval e X.env) :: starEach es X.env := by rfl) (hplain : (backTo cpos (starEach es X.env)).any (·.1) = false := by rfl) :
    PE X (.Call (.Attribute o name apos) (e :: es) [] cpos) (tBM K T r to t) := h ▸ pe_bm pa slot hty hm ho ha hbase hfew hline hs hplain
theorem k_join {o e : Expr} {to te : TE} {apos pos : Pos} (ho : PE X o to) (he : PE X e te) (hs : starEach [e] X.env = [(false, eval e X.env)] := by rfl) (hbase : attributeBase o "join" X.env (eval o X.env) = eval o X.env := by rfl) (hline : (apos.endLine == pos.line) = true := by rfl) :
    PE X (.Call (.Attribute o "join" apos) [e] [] pos) (tM1 (rJoin K) to te) := h ▸ pe_join ho he hs hbase hline
end
/-! ### forks -/
section
variable {p : Prop} [Decidable p] {A B : Prop} {b : Bool}
theorem fk_dec (h1 : p → A) (h2 : ¬ p → B) : (decide p = true → A) ∧ (decide p = false → B) := ⟨fun h => h1 (of_decide_eq_true h), fun h => h2 (of_decide_eq_false h)⟩
theorem fk_not (h : (b = true → B) ∧ (b = false → A)) : ((!b) = true → A) ∧ ((!b) = false → B) := ⟨fun e => h.2 (by cases b <;> simp_all), fun e => h.1 (by cases b <;> simp_all)⟩
theorem fk_int {i j : Int} (h1 : i = j → A) (h2 : i ≠ j → B) : (PyData.eqv (.int i) (.int j) = true → A) ∧ (PyData.eqv (.int i) (.int j) = false → B) := by
  unfold PyData.eqv
  exact ⟨fun h => h1 (beq_iff_eq.mp h), fun h => h2 fun e => by rw [e, beq_self_eq_true] at h; cases h⟩
theorem fk_str {i j : Str} (h1 : i = j → A) (h2 : i ≠ j → B) : (PyData.eqv (.str i) (.str j) = true → A) ∧ (PyData.eqv (.str i) (.str j) = false → B) := by
  unfold PyData.eqv
  exact ⟨fun h => h1 (beq_iff_eq.mp h), fun h => h2 fun e => by rw [e, beq_self_eq_true] at h; cases h⟩
theorem fk_nil {xs : List PyData} (h1 : xs = [] → A) (h2 : xs ≠ [] → B) : (PyData.eqv (.list xs) (.list []) = true → A) ∧ (PyData.eqv (.list xs) (.list []) = false → B) := by
  cases xs with
  | nil => exact ⟨fun _ => h1 rfl, fun h => by simp [PyData.eqv, PyData.eqvAll] at h⟩
  | cons x xs => exact ⟨fun h => by simp [PyData.eqv, PyData.eqvAll] at h, fun _ => h2 fun z => nomatch z⟩
theorem fk_t (h : A) : (true = true → A) ∧ (true = false → B) := ⟨fun _ => h, (fun z => nomatch z)⟩
theorem fk_f (h : B) : (false = true → A) ∧ (false = false → B) := ⟨(fun z => nomatch z), fun _ => h⟩
end
/-! ### data that == may be asked of -/
inductive OkD : Nat → PyData → Prop
  | int {n : Nat} (i : Int) : OkD n (.int i)
  | bool {n : Nat} (b : Bool) : OkD n (.bool b)
  | none {n : Nat} : OkD n .none
  | str {n : Nat} {s : Str} : PyData.strOk s = true → OkD n (.str s)
  | list {n : Nat} {xs : List PyData} : (∀ x, x ∈ xs → OkD n x) → OkD (n + 1) (.list xs)
  | tuple {n : Nat} {xs : List PyData} : (∀ x, x ∈ xs → OkD n x) → OkD (n + 1) (.tuple xs)
theorem noDs_of {xs : List PyData} (h : ∀ x, x ∈ xs → noD x = true) : noDs xs = true := by
  induction xs with
  | nil => rfl
  | cons x xs ih =>
    unfold noDs
    rw [h x List.mem_cons_self, ih fun y hy => h y (List.mem_cons_of_mem _ hy)]
    rfl
theorem lays_of {xs : List PyData} (h : ∀ x, x ∈ xs → x.canLay0 = true) : PyData.canLayAll0 xs = true := by
  induction xs with
  | nil => rfl
  | cons x xs ih =>
    unfold PyData.canLayAll0
    rw [h x List.mem_cons_self, ih fun y hy => h y (List.mem_cons_of_mem _ hy)]
    rfl
theorem depths_of {n : Nat} {xs : List PyData} (h : ∀ x, x ∈ xs → x.depth ≤ n) : PyData.depthAll xs ≤ n := by
  induction xs with
  | nil => exact Nat.zero_le _
  | cons x xs ih =>
    unfold PyData.depthAll
    exact Nat.max_le.mpr ⟨h x List.mem_cons_self, ih fun y hy => h y (List.mem_cons_of_mem _ hy)⟩
theorem OkD.all {n : Nat} {x : PyData} (h : OkD n x) : noD x = true ∧ x.canLay0 = true ∧ x.depth ≤ n := by
  induction h with
  | int i => exact ⟨rfl, by unfold PyData.canLay0; rfl, by unfold PyData.depth; exact Nat.zero_le _⟩
  | bool i => exact ⟨rfl, by unfold PyData.canLay0; rfl, by unfold PyData.depth; exact Nat.zero_le _⟩
  | none => exact ⟨rfl, by unfold PyData.canLay0; rfl, by unfold PyData.depth; exact Nat.zero_le _⟩
  | str s => exact ⟨rfl, by unfold PyData.canLay0; exact s, by unfold PyData.depth; exact Nat.zero_le _⟩
  | list _ ih => exact ⟨noDs_of fun x hx => (ih x hx).1, by unfold PyData.canLay0; exact lays_of fun x hx => (ih x hx).2.1, by unfold PyData.depth; exact Nat.succ_le_succ (depths_of fun x hx => (ih x hx).2.2)⟩
  | tuple _ ih => exact ⟨noDs_of fun x hx => (ih x hx).1, by unfold PyData.canLay0; exact lays_of fun x hx => (ih x hx).2.1, by unfold PyData.depth; exact Nat.succ_le_succ (depths_of fun x hx => (ih x hx).2.2)⟩
theorem OkD.sh {n : Nat} {x : PyData} (h : OkD n x) (hn : n ≤ 64) : SeqAt.shaped x = true := by
  unfold SeqAt.shaped
  rw [h.all.2.1, decide_eq_true (Nat.le_trans h.all.2.2 hn)]
  rfl
theorem ok2 {x y : PyData} (hx : OkD 60 x) (hy : OkD 60 y) : noD x = true ∧ noD y = true ∧ SeqAt.shaped x = true ∧ SeqAt.shaped y = true := ⟨hx.all.1, hy.all.1, hx.sh (by decide), hy.sh (by decide)⟩
theorem ok2O {xs : List PyData} {y : PyData} (hx : OkD 60 (.list xs)) (hy : OkD 60 y) : noDs xs = true ∧ noD y = true ∧ SeqAt.shaped (.list xs) = true ∧ SeqAt.shaped y = true := ⟨by have := hx.all.1; unfold noD at this; exact this, hy.all.1, hx.sh (by decide), hy.sh (by decide)⟩
theorem OkD.nil {n : Nat} : OkD (n + 1) (.list []) := .list fun _ h => nomatch h
theorem OkD.ints {n : Nat} (ns : List Int) : OkD (n + 1) (.list (ns.map .int)) := .list fun x hx => by
  obtain ⟨i, _, rfl⟩ := List.mem_map.mp hx
  exact .int i
theorem OkD.strs {n : Nat} {ws : List Str} (h : ∀ w, w ∈ ws → PyData.strOk w = true) : OkD (n + 1) (.list (ws.map .str)) := .list fun x hx => by
  obtain ⟨i, hi, rfl⟩ := List.mem_map.mp hx
  exact .str (h i hi)
/-! ### == of data, where no truths stand among numbers -/
mutual
def noB : PyData → Bool
  | .bool _ => false
  | .dict _ => false
  | .list xs => noBs xs
  | .tuple xs => noBs xs
  | _ => true
def noBs : List PyData → Bool
  | [] => true
  | x :: xs => noB x && noBs xs
end
mutual
theorem eqv_iff : ∀ {x y : PyData}, noB x = true → noB y = true → (PyData.eqv x y = true ↔ x = y)
  | .none, y, _, h => by cases y <;> simp [PyData.eqv]
  | .bool _, _, h, _ => by simp [noB] at h
  | .dict _, _, h, _ => by simp [noB] at h
  | .int i, y, _, h => by cases y <;> simp [PyData.eqv, noB] at h ⊢
  | .str i, y, _, h => by cases y <;> simp [PyData.eqv] at h ⊢
  | .list xs, .list ys, h1, h2 => by
    unfold noB at h1 h2
    unfold PyData.eqv
    rw [eqvAll_iff h1 h2]
    exact ⟨fun e => by rw [e], fun e => by cases e; rfl⟩
  | .tuple xs, .tuple ys, h1, h2 => by
    unfold noB at h1 h2
    unfold PyData.eqv
    rw [eqvAll_iff h1 h2]
    exact ⟨fun e => by rw [e], fun e => by cases e; rfl⟩
  | .list xs, .none, _, _ => by simp [PyData.eqv]
  | .list xs, .bool _, _, h => by simp [noB] at h
  | .list xs, .dict _, _, h => by simp [noB] at h
  | .list xs, .int _, _, _ => by simp [PyData.eqv]
  | .list xs, .str _, _, _ => by simp [PyData.eqv]
  | .list xs, .tuple _, _, _ => by simp [PyData.eqv]
  | .tuple xs, .none, _, _ => by simp [PyData.eqv]
  | .tuple xs, .bool _, _, h => by simp [noB] at h
  | .tuple xs, .dict _, _, h => by simp [noB] at h
  | .tuple xs, .int _, _, _ => by simp [PyData.eqv]
  | .tuple xs, .str _, _, _ => by simp [PyData.eqv]
  | .tuple xs, .list _, _, _ => by simp [PyData.eqv]
theorem eqvAll_iff : ∀ {xs ys : List PyData}, noBs xs = true → noBs ys = true → (PyData.eqvAll xs ys = true ↔ xs = ys)
  | [], [], _, _ => by simp [PyData.eqvAll]
  | [], _ :: _, _, _ => by simp [PyData.eqvAll]
  | _ :: _, [], _, _ => by simp [PyData.eqvAll]
  | x :: xs, y :: ys, h1, h2 => by
    unfold noBs at h1 h2
    rw [Bool.and_eq_true] at h1 h2
    unfold PyData.eqvAll
    rw [Bool.and_eq_true, eqv_iff h1.1 h2.1, eqvAll_iff h1.2 h2.2]
    exact ⟨fun ⟨a, b⟩ => by rw [a, b], fun e => by cases e; exact ⟨rfl, rfl⟩⟩
end
theorem noBs_of {xs : List PyData} (h : ∀ x, x ∈ xs → noB x = true) : noBs xs = true := by
  induction xs with
  | nil => rfl
  | cons x xs ih =>
    unfold noBs
    rw [h x List.mem_cons_self, ih fun y hy => h y (List.mem_cons_of_mem _ hy)]
    rfl
theorem noB_ints (ns : List Int) : noB (.list (ns.map .int)) = true := by
  unfold noB
  exact noBs_of fun x hx => by obtain ⟨i, _, rfl⟩ := List.mem_map.mp hx; rfl
theorem noB_strs (ns : List Str) : noB (.list (ns.map .str)) = true := by
  unfold noB
  exact noBs_of fun x hx => by obtain ⟨i, _, rfl⟩ := List.mem_map.mp hx; rfl
/-- == of like data, as a fork -/
theorem fk_eqv {x y : PyData} {A B : Prop} (hx : noB x = true) (hy : noB y = true) (h1 : x = y → A) (h2 : x ≠ y → B) : (PyData.eqv x y = true → A) ∧ (PyData.eqv x y = false → B) :=
  ⟨fun h => h1 ((eqv_iff hx hy).mp h), fun h => h2 fun e => by rw [(eqv_iff hx hy).mpr e] at h; cases h⟩
/-! ### + and subscripts, by the values -/
theorem plus_int {i j : Int} {k : R → Prop} (h : k (.d (.int (i + j)))) : Plus (.int i) (.int j) k := h
theorem plus_str {s t : Str} {k : R → Prop} (h1 : s.length + t.length ≤ lim) (h : k (.d (.str (s ++ t)))) : Plus (.str s) (.str t) k := ⟨h1, h⟩
theorem plus_list {xs ys : List PyData} {k : R → Prop} (h1 : xs.length + ys.length ≤ lim) (h : k (.new (xs ++ ys))) : Plus (.list xs) (.list ys) k := ⟨h1, h⟩
theorem wd_plusI {B : Bs} {K : Fr} {ρ : En} {ta tb : TE} {QD : PyData → En → Prop} (h : WD B K ta ρ fun x ρ1 => ∃ i, x = .int i ∧ WD B K tb ρ1 fun y ρ2 => ∃ j, y = .int j ∧ QD (.int (i + j)) ρ2) : WD B K (tOp (rPlus K) ta tb) ρ QD :=
  wd_e (we_plus (wd_mono h fun x ρ1 ⟨i, hx, h2⟩ => by
    subst hx
    exact wd_mono h2 fun y ρ2 ⟨j, hy, q⟩ => by
      subst hy
      exact plus_int ⟨_, rfl, q⟩))
theorem len_map {α : Type} {f : α → PyData} {as : List α} {k : Int → Prop} (h : k as.length) : Len (.list (as.map f)) k := by
  show k (as.map f).length
  rw [List.length_map]
  exact h
theorem len_mapT {α : Type} {f : α → PyData} {as : List α} {k : Int → Prop} (h : k as.length) : Len (.tuple (as.map f)) k := by
  show k (as.map f).length
  rw [List.length_map]
  exact h
theorem len_list {xs : List PyData} {k : Int → Prop} (h : k xs.length) : Len (.list xs) k := h
theorem len_tup {xs : List PyData} {k : Int → Prop} (h : k xs.length) : Len (.tuple xs) k := h
theorem atI_map {α β : Type} {f : α → β} {xs : List α} {i : Int} {x : α} (h : atI xs i = some x) : atI (xs.map f) i = some (f x) := by
  unfold atI at h ⊢
  rw [List.length_map]
  cases e : ixN xs.length i with
  | none => rw [e] at h; cases h
  | some j =>
    rw [e] at h
    show (xs.map f)[j]? = _
    rw [List.getElem?_map, show xs[j]? = some x from h]
    rfl
theorem idx_map {α : Type} {f : α → PyData} {xs : List α} {i : Int} {x : α} {k : PyData → Prop} (h : atI xs i = some x) (q : k (f x)) : Idx (.list (xs.map f)) (.int i) k := ⟨_, atI_map h, q⟩
theorem idx_mapT {α : Type} {f : α → PyData} {xs : List α} {i : Int} {x : α} {k : PyData → Prop} (h : atI xs i = some x) (q : k (f x)) : Idx (.tuple (xs.map f)) (.int i) k := ⟨_, atI_map h, q⟩
theorem atI_pos {α : Type} {xs : List α} {i : Int} {n : Nat} (e : i = (n : Int)) (h : n < xs.length) : atI xs i = some xs[n] := by
  subst e
  exact atI_nat (List.getElem?_eq_getElem h)
theorem idx_list {xs : List PyData} {i : Int} {d : PyData} {k : PyData → Prop} (h : atI xs i = some d) (q : k d) : Idx (.list xs) (.int i) k := ⟨d, h, q⟩
theorem idx_tup {xs : List PyData} {i : Int} {d : PyData} {k : PyData → Prop} (h : atI xs i = some d) (q : k d) : Idx (.tuple xs) (.int i) k := ⟨d, h, q⟩
theorem idx_str {z : Str} {i : Int} {c : Nat} {k : PyData → Prop} (hz : z.length ≤ lim) (h : atI z.cps.toList i = some c) (q : k (.str ⟨#[c]⟩)) : Idx (.str z) (.int i) k := ⟨hz, c, h, q⟩
/-! ### an own list is given away, or frozen where it stands -/
theorem EnvOk.give {B : Bs} {K : Fr} {F H : Hp} {σ : L2.St} {ρ : En} (E : EnvOk B K F H σ ρ) {j : Nat} {xs : List PyData} (hj : ρ[j]? = some (some (.own xs))) (np : NP B j) :
    ∃ v, σ[j]? = some (some v) ∧ EnvOk B K F H σ (ρ.set j none) ∧ ROk B K F H σ (ρ.set j none) v (.new xs) := by
  obtain ⟨a, vs, e, k1, k2, k3⟩ := E.own_at hj
  have hi : j < ρ.length := (List.getElem?_eq_some_iff.mp hj).1
  have at_ : ∀ (i : Nat) (l : L), (ρ.set j none)[i]? = some (some l) → i ≠ j ∧ ρ[i]? = some (some l) := fun i l h => by
    by_cases c : i = j
    · subst c; rw [List.getElem?_set_self hi] at h; cases h
    · rw [List.getElem?_set_ne (Ne.symm c)] at h; exact ⟨c, h⟩
  refine ⟨.ref a, e, E.weak (List.length_set ..) (fun i l h => (at_ i l h).2) fun i b hb => ?_, a, vs, rfl, k1, k2, k3, ?_, fun i ys hi hs => ?_⟩
  · have : i ≠ j := fun z => by subst z; exact np b hb
    rw [List.getElem?_set_ne (Ne.symm this)]
  · rcases E.mine j xs a hj e with h | h
    · exact h
    · exact absurd h (np a)
  · obtain ⟨n, q⟩ := at_ i _ hi
    exact E.sep i j ys xs q hj n (hs.trans e.symm)
theorem we_take {B : Bs} {K : Fr} {ρ : En} {Q : R → En → Prop} {j : Nat} {xs : List PyData} (hj : ρ[j]? = some (some (.own xs))) (np : NP B j) (q : Q (.new xs) (ρ.set j none)) : WE B K (tVar j) ρ Q := fun F H σ E QQ k => by
  obtain ⟨v, e, E', r⟩ := E.give hj np
  exact ⟨v, e, k v (.new xs) F H _ E' (Ex.refl F) r q⟩
theorem ws_retO {B : Bs} {K : Fr} {ρ : En} {Z : Zs} {j : Nat} {xs : List PyData} (hj : ρ[j]? = some (some (.own xs))) (np : NP B j) (q : Z.rt (.new xs) (ρ.set j none)) : WS B K (tRet (tVar j)) ρ Z := ws_ret (we_take hj np q)
theorem wd_frz {B : Bs} {K : Fr} {ρ : En} {QD : PyData → En → Prop} {j : Nat} {xs : List PyData} (hj : ρ[j]? = some (some (.own xs))) (np : NP B j) (q : QD (.list xs) (ρ.set j (some (.d (.list xs))))) : WD B K (tVar j) ρ QD := fun F H σ E QQ k => by
  obtain ⟨v, e, E', r⟩ := E.give hj np
  obtain ⟨F', E2, e2, r2⟩ := E'.asD (r := .new xs) r rfl
  refine ⟨v, e, k v (.list xs) F' H _ ?_ e2 r2 q⟩
  have E3 := E2.setD (i := j) (l := .d (.list xs)) r2 (fun _ z => nomatch z) np
  have hl : j < σ.length := (List.getElem?_eq_some_iff.mp e).1
  have e3 : σ.set j (some v) = σ := by
    refine List.ext_getElem? fun i => ?_
    by_cases c : i = j
    · subst c; rw [List.getElem?_set_self hl, e]
    · rw [List.getElem?_set_ne (Ne.symm c)]
  rw [e3, List.set_set] at E3
  exact E3
theorem wt_yes {B : Bs} {K : Fr} {ρ : En} {QT : Bool → En → Prop} (h : QT true ρ) : WT B K tYes ρ QT := fun F H σ E QQ k => k true F H ρ E (Ex.refl F) h
/-! ### % and // by a number above 0 -/
theorem wd_modP {B : Bs} {K : Fr} {ρ : En} {ta tb : TE} {QD : PyData → En → Prop} (h : WD B K ta ρ fun x ρ1 => ∃ i, x = .int i ∧ WD B K tb ρ1 fun y ρ2 => ∃ j, y = .int j ∧ 0 < j ∧ QD (.int (i % j)) ρ2) : WD B K (tOp (rI (fun _ j => j ≠ 0) fun i j => .int (i.fmod j)) ta tb) ρ QD :=
  wd_iop (C := fun _ j => j ≠ 0) (g := fun i j => i.fmod j) (wd_mono h fun x ρ1 ⟨i, hx, h2⟩ => ⟨i, hx, wd_mono h2 fun y ρ2 ⟨j, hy, hj, q⟩ => ⟨j, hy, Int.ne_of_gt hj, by rw [Int.fmod_eq_emod_of_nonneg i (Int.le_of_lt hj)]; exact q⟩⟩)
theorem wd_divP {B : Bs} {K : Fr} {ρ : En} {ta tb : TE} {QD : PyData → En → Prop} (h : WD B K ta ρ fun x ρ1 => ∃ i, x = .int i ∧ WD B K tb ρ1 fun y ρ2 => ∃ j, y = .int j ∧ (0 < j ∧ j < 1073741824) ∧ QD (.int (i / j)) ρ2) : WD B K (tOp (rI CDivN fun i j => .int (i.fdiv j)) ta tb) ρ QD :=
  wd_iop (C := CDivN) (g := fun i j => i.fdiv j) (wd_mono h fun x ρ1 ⟨i, hx, h2⟩ => ⟨i, hx, wd_mono h2 fun y ρ2 ⟨j, hy, hj, q⟩ => ⟨j, hy, ⟨Int.ne_of_gt hj.1, by omega⟩, by rw [Int.fdiv_eq_ediv_of_nonneg i (Int.le_of_lt hj.1)]; exact q⟩⟩)
theorem wd_mulP {B : Bs} {K : Fr} {ρ : En} {ta tb : TE} {QD : PyData → En → Prop} (h : WD B K ta ρ fun x ρ1 => ∃ i, x = .int i ∧ WD B K tb ρ1 fun y ρ2 => ∃ j, y = .int j ∧ CMul i j ∧ QD (.int (i * j)) ρ2) : WD B K (tOp (rI CMul fun i j => .int (i * j)) ta tb) ρ QD :=
  wd_iop (C := CMul) (g := fun i j => i * j) h
/-! ### sep.join(xs) -/
theorem wd_join {B : Bs} {K : Fr} {ρ : En} {ta tb : TE} {QD : PyData → En → Prop} (h : WD B K ta ρ fun x ρ1 => ∃ a, x = .str a ∧ WD B K tb ρ1 fun y ρ2 => ∃ ys : List Str, y = .list (ys.map .str) ∧ (ys.map (·.length)).sum + ys.length * a.length ≤ 16777216 ∧ QD (.str (Txt.join a ys)) ρ2) : WD B K (tM1 (rJoin K) ta tb) ρ QD := fun F H σ E QQ k =>
  h F H σ E _ fun v x F1 H1 ρ1 E1 e1 rv ⟨a, hx, q⟩ => by
    subst hx
    cases rv
    refine ⟨⟨a, rfl⟩, q F1 H1 σ E1 _ fun u y F2 H2 ρ2 E2 e2 ru ⟨ys, hy, hz, q2⟩ => ?_⟩
    subst hy
    cases ru with
    | @lst p vs xs hp ra =>
    have e := ra.strs
    subst e
    exact ⟨a, p, ys, rfl, rfl, .inl (.inl (.inl (E2.fh _ _ hp))), hz, k _ _ F2 H2 ρ2 E2 (e1.trans e2) (.str _) q2⟩
theorem wd_joinO {B : Bs} {K : Fr} {ρ : En} {a : Str} {j : Nat} {ys : List Str} {QD : PyData → En → Prop} (hj : ρ[j]? = some (some (.own (ys.map .str)))) (hz : (ys.map (·.length)).sum + ys.length * a.length ≤ 16777216) (q : QD (.str (Txt.join a ys)) ρ) : WD B K (tM1 (rJoin K) (tC (.str a)) (tVar j)) ρ QD := fun F H σ E QQ k => by
  obtain ⟨p, vs, e, _, k2, k3⟩ := E.own_at hj
  have e3 := k3.strs
  subst e3
  exact ⟨⟨a, rfl⟩, .ref p, e, a, p, ys, rfl, rfl, .inl (.inl (.inl k2)), hz, k _ _ F H ρ E (Ex.refl F) (.str _) q⟩
/-! ### one sign in a text -/
abbrev rInS1 : R2 := fun x y H Q => ∃ (c : Nat) (z : Str), x = .str ⟨#[c]⟩ ∧ y = .str z ∧ Q (.bl (decide (c ∈ z.cps.toList))) H
abbrev rNiS1 : R2 := fun x y H Q => ∃ (c : Nat) (z : Str), x = .str ⟨#[c]⟩ ∧ y = .str z ∧ Q (.bl (!decide (c ∈ z.cps.toList))) H
theorem wd_inSign {B : Bs} {K : Fr} {ρ : En} {ta tb : TE} {QD : PyData → En → Prop} (h : WD B K ta ρ fun x ρ1 => ∃ c, x = .str ⟨#[c]⟩ ∧ WD B K tb ρ1 fun y ρ2 => ∃ z, y = .str z ∧ QD (.bool (decide (c ∈ z.cps.toList))) ρ2) : WD B K (tOp rInS1 ta tb) ρ QD := fun F H σ E QQ k =>
  h F H σ E _ fun v x F1 H1 ρ1 E1 e1 rv ⟨i, hx, q⟩ => q F1 H1 σ E1 _ fun u y F2 H2 ρ2 E2 e2 ru ⟨j, hy, q2⟩ => by
    subst hx hy
    cases rv; cases ru
    exact ⟨i, j, rfl, rfl, k _ _ F2 H2 ρ2 E2 (e1.trans e2) (.bl _) q2⟩
theorem wd_niSign {B : Bs} {K : Fr} {ρ : En} {ta tb : TE} {QD : PyData → En → Prop} (h : WD B K ta ρ fun x ρ1 => ∃ c, x = .str ⟨#[c]⟩ ∧ WD B K tb ρ1 fun y ρ2 => ∃ z, y = .str z ∧ QD (.bool (!decide (c ∈ z.cps.toList))) ρ2) : WD B K (tOp rNiS1 ta tb) ρ QD := fun F H σ E QQ k =>
  h F H σ E _ fun v x F1 H1 ρ1 E1 e1 rv ⟨i, hx, q⟩ => q F1 H1 σ E1 _ fun u y F2 H2 ρ2 E2 e2 ru ⟨j, hy, q2⟩ => by
    subst hx hy
    cases rv; cases ru
    exact ⟨i, j, rfl, rfl, k _ _ F2 H2 ρ2 E2 (e1.trans e2) (.bl _) q2⟩
/-! ### what the top has written -/
abbrev veX : List Value := [.type "ValueError", .type "Exception", .type "BaseException", .type "object"]
structure ExcT (K : Fr) (mg : Str → Option Value) (nm : Str) (a : Addr) : Prop where
  g : mg nm = some (.ref a)
  x : PySem.W.excIn K a veX "ValueError.__new__" = true
  k : PySem.W.keepIn K (.ref a) = true
  b : PySem.W.subIn K (.ref a) (.type "BaseException") = some true
  t : PySem.W.typeIn K (.ref a) = some (.type "type")
structure Df (K : Fr) (mg : Str → Option Value) (nm : Str) (st : Stmt) (ps : List Str) (f : Addr) (fd : FuncData) : Prop where
  F : Fun K nm nm st f fd
  g : mg nm = some (.ref f)
  b : Binds K fd ps []
theorem Df.kp {K : Fr} {mg : Str → Option Value} {nm : Str} {st : Stmt} {ps : List Str} {f : Addr} {fd : FuncData} (d : Df K mg nm st ps f fd) : PySem.W.keepIn K (.ref f) = true := d.F.kp
/-- the law's own meaning: True -/
def G_law : GF := fun ls Po _ => ∃ ns : List Int, ls = [.scr ns] ∧ ns.length ≤ 63 ∧ Po (.d (.bool true)) []
theorem law_sp {K : Fr} {H : Hp} {a : Addr} {ns : List Int} (hS : SqL K H a (ns.map V.int)) (hl : ns.length ≤ 63) : SpG K none G_law [.ref a] H (fun v _ => v = .bl true) fun _ _ _ => False := by
  refine ⟨H, [.scr ns], fun r _ => r = .d (.bool true), fun _ => False, ⟨⟨⟨Ex.refl H, Ex.refl H, fun a o e _ => e, fun a h => h, fun a h _ => h⟩, rfl, fun i l e => ?_, fun i j xs ys e1 _ _ => ?_, fun i xs a e1 _ => ?_, fun i a e => nomatch e⟩, rfl⟩, ⟨ns, rfl, hl, rfl⟩, fun v r F' H' ys st rv _ q => ?_, fun C F' H' ys _ _ h => h⟩
  · cases i with
    | zero => cases e; exact ⟨.ref a, rfl, a, rfl, hS⟩
    | succ i => simp at e
  · cases i with
    | zero => cases e1
    | succ i => simp at e1
  · cases i with
    | zero => cases e1
    | succ i => simp at e1
  · subst q
    cases (show Rp K F' v (.bool true) from rv)
    rfl
end SV

set_option maxHeartbeats 1000000
namespace SV
open PySem PySem.Spec L2
open Evl (Ex)
/-! ### try: f(..) except C as e: what a refusal is -/
def tTry (K : Fr) (c : Value) (i : Nat) (tb : WX → TS) (ts : Addr → Value → Option Addr → TS) : TS := fun D σ H => tb (wAs K c i ts (fun _ _ _ _ => False) D) D σ H
section
variable {X : Cx} {x n : Str} {c : Value} {i : Nat} {body suite : List Stmt} {b0 : Stmt} {np pos pos' : Pos} {tb : WX → TS} {ts : Addr → Value → Option Addr → TS}
theorem k_try (K : Fr) (hK : X.K = K) (hs : X.stack = X.env :: X.outer) (hf : X.env.frame = some X.env.locals) (hN : X.N.Nodup) (hi : X.N[i]? = some n) (hln : X.env.kindOf n = some .local) (hc : Names X x c)
    (hb : ∀ (W : WX) (pn : List (Addr × Obj)) (xe : Value → Shared → Prop), Takes (X.tr pn xe) W → PassesOwn (model X.prog X.w) X.A X.env xe → PSs (X.tr pn xe) body (tb W))
    (hsu : ∀ (a : Addr) (oe : Obj) (cls : Value) (d : Option Addr) (pn : List (Addr × Obj)), Zc cls d oe → (∃ vs, oe.data = .fields vs) → PSs (X.suite a ((a, oe) :: pn)) (b0 :: suite) (ts a cls d)) :
    PS X (.Try body [.ExceptHandler (some (.Name x np)) (some n) (b0 :: suite) pos'] [] [] pos) (tTry K c i tb ts) := hK ▸ ps_try_as (Wout := fun _ _ _ _ => False) hs hf hN hi hln hc takes0 hb hsu
end
/-! isinstance of the error that a suite holds -/
abbrev rIsX (K : Fr) (a : Addr) (cls : Value) (d : Option Addr) : List V → Hp → VK → Prop := fun xs H Q => ∃ (D : Addr) (c : V) (cv : Value) (b : Bool), cls = .ref D ∧ d = none ∧ ExcC K D ∧ xs = [.ref a, c] ∧ ClsV c cv ∧ PySem.W.kitOne K (.ref D) cv = some b ∧ Q (.bl b) H
abbrev rIsXT (K : Fr) (a : Addr) (cls : Value) (d : Option Addr) : List V → Hp → VK → Prop := fun xs H Q => ∃ (D : Addr) (tp : Addr) (cs : List V) (us : List Value) (b : Bool), cls = .ref D ∧ d = none ∧ ExcC K D ∧ xs = [.ref a, .ref tp] ∧ H tp = some (.tup cs) ∧ Paired ClsV cs us ∧ PySem.W.kitAny K (.ref D) us = some b ∧ Q (.bl b) H
theorem k_isx {X : Cx} {a : Addr} {oe : Obj} {cls : Value} {d : Option Addr} {pn : List (Addr × Obj)} (K : Fr) (hz : Zc cls d oe) (hf : ∃ vs, oe.data = .fields vs) (h : X.K = K := by rfl) : CallR (X.suite a ((a, oe) :: pn)) (.builtin "isinstance") (rIsX K a cls d) := by
  subst h
  intro pins s σ H xs us Q I r hh
  obtain ⟨D, c, cv, b, rfl, rfl, C, rfl, k, e, q⟩ := hh
  exact call_isE C hz hf pins s σ H _ us Q I r ⟨c, cv, b, rfl, fun u hu => k.eq hu, e, q⟩
theorem k_isxT {X : Cx} {a : Addr} {oe : Obj} {cls : Value} {d : Option Addr} {pn : List (Addr × Obj)} (K : Fr) (hz : Zc cls d oe) (hf : ∃ vs, oe.data = .fields vs) (h : X.K = K := by rfl) : CallR (X.suite a ((a, oe) :: pn)) (.builtin "isinstance") (rIsXT K a cls d) := by
  subst h
  intro pins s σ H xs us Q I r hh
  obtain ⟨D, tp, cs, ws, b, rfl, rfl, C, rfl, hT, k, e, q⟩ := hh
  obtain ⟨u1, u2, rfl, r1, r2⟩ := vals2 r
  cases (show u1 = Value.ref a from r1)
  cases (show u2 = Value.ref tp from r2)
  obtain ⟨hget, _⟩ := I.pin (a, oe) (List.mem_append.mpr (.inl List.mem_cons_self))
  obtain ⟨vs, hv⟩ := hf
  have J : PySem.W.InstAt s.heap a oe D none := by
    obtain ⟨oc, od, oda, osl⟩ := oe
    obtain ⟨z1, z2⟩ := hz
    dsimp only at z1 z2 hv
    subst z1 z2 hv
    exact ⟨hget, rfl, rfl, trivial⟩
  obtain ⟨_, its, rv, o, h1, h2, n, h3⟩ := (show ObjOk X.prog X.w H s.heap tp (.tup cs) from I.hok tp _ hT)
  have e3 := ClsV.all k rv
  subst e3
  obtain ⟨oc, od, dt, sl⟩ := o
  simp only at h2 h3
  subst h2 h3
  exact PySem.W.kia_tup (PySem.W.handS_kitx_exc C.hg C.hk C.hs C.hd C.ha C.hn C.ht C.hm) I.kIn J h1 e (fun z => nomatch z) fun tk => ⟨.bl b, H, I.tok tk, rfl, q⟩
/-! ### what a try lets its body raise -/
/-- class C may be raised where the slots read as ρ -/
def EKr (B : Bs) (K : Fr) (W : WX) (C : Addr) (ρ : En) : Prop := ∀ F H σ, EnvOk B K F H σ ρ → W (.ref C) none σ H
abbrev Bs.up (B : Bs) (F : Hp) : Bs := ⟨F, B.H0, B.pin⟩
def tTryO (K : Fr) (c : Value) (tb : WX → TS) (ts : Addr → Value → Option Addr → TS) : TS := fun D σ H => tb (wOnly K c ts (fun _ _ _ _ => False) D) D σ H
section
variable {X : Cx} {x : Str} {c : Value} {body suite : List Stmt} {b0 : Stmt} {np pos pos' : Pos} {tb : WX → TS} {ts : Addr → Value → Option Addr → TS}
theorem k_tryO (K : Fr) (hK : X.K = K) (hs : X.stack = X.env :: X.outer) (hf : X.env.frame = some X.env.locals) (hc : Names X x c)
    (hb : ∀ (W : WX) (pn : List (Addr × Obj)) (xe : Value → Shared → Prop), Takes (X.tr pn xe) W → PassesOwn (model X.prog X.w) X.A X.env xe → PSs (X.tr pn xe) body (tb W))
    (hsu : ∀ (a : Addr) (oe : Obj) (cls : Value) (d : Option Addr) (pn : List (Addr × Obj)), Zc cls d oe → (∃ vs, oe.data = .fields vs) → PSs (X.suite a ((a, oe) :: pn)) (b0 :: suite) (ts a cls d)) :
    PS X (.Try body [.ExceptHandler (some (.Name x np)) none (b0 :: suite) pos'] [] [] pos) (tTryO K c tb ts) := hK ▸ ps_try_only (Wout := fun _ _ _ _ => False) hs hf hc takes0 hb hsu
end
section
variable {B : Bs} {K : Fr} {F H : Hp} {σ : L2.St} {ρ : En} {ta : TA} {Q : R → En → Prop} {QD : PyData → En → Prop} {Z : Zs}
theorem EnvOk.upB (E : EnvOk B K F H σ ρ) : EnvOk (B.up F) K F H σ ρ :=
  ⟨⟨Ex.refl F, E.st.fh, E.st.h0, E.st.th, fun a h1 _ => h1⟩, E.len, E.sl, E.sep, E.mine, E.pin⟩
theorem EnvOk.dnB {F0 H0 : Hp} (E0 : St1 B F0 H0) (E : EnvOk (B.up F0) K F H σ ρ) : EnvOk B K F H σ ρ :=
  ⟨⟨E0.f0.trans E.st.f0, E.st.fh, E.st.h0, E.st.th, fun a h1 h2 => E.st.nf a (E0.nf a h1 h2) h2⟩, E.len, E.sl, E.sep, E.mine, E.pin⟩
theorem ZOk.upB {F0 : Hp} {H0 : Hp} {D : Ends} (E0 : St1 B F0 H0) (ok : ZOk B K F0 Z D) : ∀ F1, ZOk (B.up F0) K F1 Z D := fun F1 =>
  ⟨fun F H σ ρ E e => ok.nx F H σ ρ (E.dnB E0) E.st.f0, fun F H σ ρ v r E e rv => ok.rt F H σ ρ v r (E.dnB E0) E.st.f0 rv, fun F H σ ρ E e => ok.bk F H σ ρ (E.dnB E0) E.st.f0, fun F H σ ρ E e => ok.ct F H σ ρ (E.dnB E0) E.st.f0⟩
/-- try: body, except C as slot i -/
theorem ws_try {c : Value} {i : Nat} {tb : WX → TS} {ts : Addr → Value → Option Addr → TS} (np : NP B i) (S : Addr → En → Prop)
    (h : ∀ (F0 : Hp) (W : WX), (∀ C ρ1, S C ρ1 → EKr (B.up F0) K W C ρ1) → WS (B.up F0) K (tb W) ρ Z)
    (hs : ∀ (F0 : Hp) C ρ1, S C ρ1 → PySem.W.exmOne K (.ref C) c = some true ∧ ∀ a, WS (B.up F0) K (ts a (.ref C) none) (ρ1.set i (some (.raw (.ref a)))) ⟨fun ρ2 => Z.nx (ρ2.set i none), Z.rt, fun ρ2 => Z.bk (ρ2.set i none), fun ρ2 => Z.ct (ρ2.set i none)⟩) :
    WS B K (tTry K c i tb ts) ρ Z := fun F H σ E D ok => by
  have Zu := ok.upB E.st
  refine h F _ (fun C ρ1 hS F1 H1 σ1 E1 => ?_) F H σ E.upB D (Zu F)
  obtain ⟨hm, hw⟩ := hs F C ρ1 hS
  refine ⟨true, hm, fun _ a ha => ?_, fun z => nomatch z⟩
  have z1 := Zu F1
  exact hw a F1 H1 _ (E1.setD (l := .raw (.ref a)) rfl (fun _ z => nomatch z) np) _ ⟨fun F2 H2 σ2 ρ2 E2 e2 q => z1.nx F2 H2 _ _ (E2.forget np) e2 q, fun F2 H2 σ2 ρ2 v r E2 e2 rv q => z1.rt F2 H2 σ2 ρ2 v r E2 e2 rv q, fun F2 H2 σ2 ρ2 E2 e2 q => z1.bk F2 H2 _ _ (E2.forget np) e2 q, fun F2 H2 σ2 ρ2 E2 e2 q => z1.ct F2 H2 _ _ (E2.forget np) e2 q⟩
/-- try: body, except C without a name -/
theorem ws_tryO {c : Value} {tb : WX → TS} {ts : Addr → Value → Option Addr → TS} (S : Addr → En → Prop)
    (h : ∀ (F0 : Hp) (W : WX), (∀ C ρ1, S C ρ1 → EKr (B.up F0) K W C ρ1) → WS (B.up F0) K (tb W) ρ Z)
    (hs : ∀ (F0 : Hp) C ρ1, S C ρ1 → PySem.W.exmOne K (.ref C) c = some true ∧ ∀ a, WS (B.up F0) K (ts a (.ref C) none) ρ1 Z) :
    WS B K (tTryO K c tb ts) ρ Z := fun F H σ E D ok => by
  have Zu := ok.upB E.st
  refine h F _ (fun C ρ1 hS F1 H1 σ1 E1 => ?_) F H σ E.upB D (Zu F)
  obtain ⟨hm, hw⟩ := hs F C ρ1 hS
  exact ⟨true, hm, fun _ a ha => hw a F1 H1 _ E1 _ (Zu F1), fun z => nomatch z⟩
/-- a call within a try's body -/
theorem we_callS {G : GF} {W : WX} (h : WA B K ta ρ fun as ρ1 => ∃ ls Pe, argL as = some ls ∧ G ls (fun r _ => Q r ρ1) Pe ∧ ∀ C, Pe C → EKr B K W C ρ1) : WE B K (tCallS (SpG K none G) (L2.WE W) ta) ρ Q := fun F H σ E0 QQ k =>
  h F H σ E0 _ fun vs as F1 H1 ρ1 E1 e1 av ⟨ls, Pe, ha, hG, hE⟩ => by
    show SpG K none G vs H1 QQ (L2.WE W σ)
    obtain ⟨hl, hs⟩ := args_sl (H := H1) av ha
    refine ⟨F1, ls, fun r _ => Q r ρ1, Pe, ⟨⟨⟨Ex.refl F1, E1.fh, fun a o e _ => e, fun a h => h, fun a h _ => h⟩, by rw [List.length_map, List.length_map, hl], fun i l e => ?_, fun i j xs ys e1 _ _ => ?_, fun i xs a e1 _ => ?_, fun i a e => nomatch e⟩, rfl⟩, hG, fun v r F' H' ys st rv _ q => ?_, fun C F' H' ys st _ hC => hE C hC F' H' σ (E1.step st.stp)⟩
    · rw [List.getElem?_map] at e ⊢
      cases q : ls[i]? with
      | none => rw [q] at e; cases e
      | some l' =>
        rw [q] at e
        cases e
        obtain ⟨⟨v, hv, sv⟩, _⟩ := hs i _ q
        exact ⟨v, by rw [hv]; rfl, sv⟩
    · rw [List.getElem?_map] at e1
      cases q : ls[i]? with
      | none => rw [q] at e1; cases e1
      | some l' => rw [q] at e1; cases e1; exact absurd rfl ((hs i _ q).2 xs)
    · rw [List.getElem?_map] at e1
      cases q : ls[i]? with
      | none => rw [q] at e1; cases e1
      | some l' => rw [q] at e1; cases e1; exact absurd rfl ((hs i _ q).2 xs)
    · have E2 := E1.step st.stp
      refine k v r F' H' ρ1 E2 (e1.trans st.stp.ef) ?_ q
      cases r with
      | d x => exact rv
      | new xs =>
        obtain ⟨a, ws, e, k1, k2, k3, k4⟩ := rv
        refine ⟨a, ws, e, k1, k2, k3, E1.h0p k4, fun i ys hi hs => ?_⟩
        obtain ⟨a', us, e', _, m2, _⟩ := E1.own_at hi
        rw [hs] at e'
        cases e'
        rw [show H1 a = none from k4] at m2
        cases m2
      | scr ns => exact rv
      | raw w => exact rv
theorem wd_isx {i : Nat} {a D : Addr} {c : V} {cv : Value} {b : Bool} (hi : ρ[i]? = some (some (.raw (.ref a)))) (C : ExcC K D) (k : ClsV c cv) (e : PySem.W.kitOne K (.ref D) cv = some b) (q : QD (.bool b) ρ) : WD B K (tCB (rIsX K a (.ref D) none) (tCons (tVar i) (tCons (tC c) tNil))) ρ QD := fun F H σ E QQ kk => by
  obtain ⟨v, hv, sv⟩ := E.sl i _ hi
  cases (show v = .ref a from sv)
  exact ⟨_, hv, D, c, cv, b, rfl, rfl, C, rfl, k, e, kk _ _ F H ρ E (Ex.refl F) (.bl b) q⟩
/-- a row of classes -/
inductive Cts : TA → List V → List Value → Prop
  | nil : Cts tNil [] []
  | cons {a : Addr} {t : TA} {cs : List V} {us : List Value} (h : Cts t cs us) : Cts (tCons (tC (.ref a)) t) (.ref a :: cs) (.ref a :: us)
theorem Cts.run {t : TA} {cs : List V} {us : List Value} (h : Cts t cs us) (σ : L2.St) (H : Hp) {Q : List V → Hp → Prop} (q : Q cs H) : t σ H Q := by
  induction h generalizing Q with
  | nil => exact q
  | cons h ih => exact ih q
theorem Cts.pair {t : TA} {cs : List V} {us : List Value} (h : Cts t cs us) : Paired ClsV cs us := by
  induction h with
  | nil => exact .nil
  | cons h ih => exact .cons (.own _) ih
theorem wd_isxT {i : Nat} {a D : Addr} {t : TA} {cs : List V} {us : List Value} {b : Bool} (hi : ρ[i]? = some (some (.raw (.ref a)))) (ht : Cts t cs us) (hl : cs.length ≤ sizeLine) (C : ExcC K D) (e : PySem.W.kitAny K (.ref D) us = some b) (q : QD (.bool b) ρ) : WD B K (tCB (rIsXT K a (.ref D) none) (tCons (tVar i) (tCons (tTup t) tNil))) ρ QD := fun F H σ E QQ kk => by
  obtain ⟨v, hv, sv⟩ := E.sl i _ hi
  cases (show v = .ref a from sv)
  refine ⟨_, hv, ht.run σ H ⟨hl, fun p hp => ?_⟩⟩
  obtain ⟨E2, e2⟩ := E.alloc (o := .tup cs) hp
  exact ⟨D, p, cs, us, b, rfl, rfl, C, rfl, upd_same, ht.pair, e, kk _ _ _ _ ρ E2 e2 (.bl b) q⟩
end
end SV

set_option maxHeartbeats 1000000
namespace SV
open PySem PySem.Spec L2
open Evl (Ex)
/-! ### a call that only reads own lists: its answer holds no lists -/
def atomD : PyData → Bool
  | .none => true
  | .bool _ => true
  | .int _ => true
  | .str _ => true
  | _ => false
abbrev flatR : R → Prop
  | .d x => atomD x = true
  | .new xs => ∀ x, x ∈ xs → atomD x = true
  | .scr _ => False
  | .raw _ => False
def argR (ρ : En) : List Ar → Option (List L)
  | [] => some []
  | .d x :: r => (argR ρ r).map (.d x :: ·)
  | .scr ns :: r => (argR ρ r).map (.scr ns :: ·)
  | .raw v :: r => (argR ρ r).map (.raw v :: ·)
  | .own j :: r => match ρ[j]? with
    | some (some (.own xs)) => (argR ρ r).map (.d (.list xs) :: ·)
    | _ => none
def tCallR (sp : Sp) (E : XK) (t : TA) : TE := fun σ H Q => True ∧ tCall sp [] E t σ H Q
def tCallRS (sp : Sp) (E : St → XK) (t : TA) : TE := fun σ H Q => True ∧ tCallS sp E t σ H Q
theorem pe_ro {X : Cx} {e : Expr} {sp : Sp} {E : XK} {t : TA} (h : PE X e (tCall sp [] E t)) : PE X e (tCallR sp E t) := ⟨fun pins s σ H Q I hh => h.run pins s σ H Q I hh.2⟩
theorem pe_roS {X : Cx} {e : Expr} {sp : Sp} {E : St → XK} {t : TA} (h : PE X e (tCallS sp E t)) : PE X e (tCallRS sp E t) := ⟨fun pins s σ H Q I hh => h.run pins s σ H Q I hh.2⟩
theorem Rp.atom {K : Fr} {F F' : Hp} {v : V} {x : PyData} (h : Rp K F v x) (a : atomD x = true) : Rp K F' v x := by
  cases h with
  | int i => exact .int i
  | bl b => exact .bl b
  | str s => exact .str s
  | non => exact .non
  | _ => cases a
theorem RpA.atom {K : Fr} {F F' : Hp} : ∀ {vs : List V} {xs : List PyData}, RpA K F vs xs → (∀ x, x ∈ xs → atomD x = true) → RpA K F' vs xs
  | _, _, .nil, _ => .nil
  | _, _, .cons h t, a => .cons (h.atom (a _ List.mem_cons_self)) (t.atom fun x hx => a x (List.mem_cons_of_mem _ hx))
section
variable {B : Bs} {K : Fr} {F H F' H' : Hp} {σ : L2.St} {ρ : En} {ta tr te : TA} {Q : R → En → Prop} {QD : PyData → En → Prop} {QA : List Ar → En → Prop} {Z : Zs}
theorem argsR_sl (E : EnvOk B K F H σ ρ) : ∀ {as : List Ar} {vs : List V} {ls : List L}, AOks K F σ vs as → argR ρ as = some ls → vs.length = ls.length ∧ ∀ (i : Nat) (l : L), ls[i]? = some l → (∃ v, vs[i]? = some v ∧ SlotOk K H H v l) ∧ ∀ xs, l ≠ .own xs
  | [], _, _, .nil, e => by
    cases e
    exact ⟨rfl, fun i l h => by simp at h⟩
  | a :: as, _, ls, .cons (v := v) (vs := vs) ha hs, e => by
    have key : ∃ l ls', ls = l :: ls' ∧ argR ρ as = some ls' ∧ SlotOk K H H v l ∧ ∀ xs, l ≠ .own xs := by
      cases a with
      | d x =>
        cases q : argR ρ as with
        | none => unfold argR at e; rw [q] at e; cases e
        | some ls' => unfold argR at e; rw [q] at e; cases e; exact ⟨_, ls', rfl, rfl, Rp.mono E.fh ha, fun _ z => nomatch z⟩
      | scr x =>
        cases q : argR ρ as with
        | none => unfold argR at e; rw [q] at e; cases e
        | some ls' => unfold argR at e; rw [q] at e; cases e; obtain ⟨a, e1, h⟩ := ha; exact ⟨_, ls', rfl, rfl, ⟨a, e1, E.fh.sl h⟩, fun _ z => nomatch z⟩
      | raw x =>
        cases q : argR ρ as with
        | none => unfold argR at e; rw [q] at e; cases e
        | some ls' => unfold argR at e; rw [q] at e; cases e; exact ⟨_, ls', rfl, rfl, ha, fun _ z => nomatch z⟩
      | own j =>
        unfold argR at e
        split at e
        · rename_i xs hj
          cases q : argR ρ as with
          | none => rw [q] at e; cases e
          | some ls' =>
            rw [q] at e; cases e
            obtain ⟨b, cs, hb, f1, f2, f3⟩ := E.own_at hj
            rw [show σ[j]? = some (some v) from ha] at hb
            cases hb
            exact ⟨_, ls', rfl, rfl, .lst f2 (f3.mono E.fh), fun _ z => nomatch z⟩
        · cases e
    obtain ⟨l, ls', rfl, e', sl, no⟩ := key
    obtain ⟨h1, h2⟩ := argsR_sl E hs e'
    refine ⟨congrArg (· + 1) h1, fun i l2 h => ?_⟩
    cases i with
    | zero =>
      have z := Option.some.inj h
      subst z
      exact ⟨⟨v, rfl, sl⟩, no⟩
    | succ i => exact h2 i l2 h
theorem argsR_ok {vs : List V} {ls : List L} (hl : vs.length = ls.length) (hs : ∀ (i : Nat) (l : L), ls[i]? = some l → (∃ v, vs[i]? = some v ∧ SlotOk K H H v l) ∧ ∀ xs, l ≠ .own xs) : Args K none H H vs ls := by
  refine ⟨⟨⟨Ex.refl H, Ex.refl H, fun a o e _ => e, fun a h => h, fun a h _ => h⟩, by rw [List.length_map, List.length_map, hl], fun i l e => ?_, fun i j xs ys e1 _ _ => ?_, fun i xs a e1 _ => ?_, fun i a e => nomatch e⟩, rfl⟩
  · rw [List.getElem?_map] at e ⊢
    cases q : ls[i]? with
    | none => rw [q] at e; cases e
    | some l' =>
      rw [q] at e
      cases e
      obtain ⟨⟨v, hv, sv⟩, _⟩ := hs i _ q
      exact ⟨v, by rw [hv]; rfl, sv⟩
  · rw [List.getElem?_map] at e1
    cases q : ls[i]? with
    | none => rw [q] at e1; cases e1
    | some l' => rw [q] at e1; cases e1; exact absurd rfl ((hs i _ q).2 xs)
  · rw [List.getElem?_map] at e1
    cases q : ls[i]? with
    | none => rw [q] at e1; cases e1
    | some l' => rw [q] at e1; cases e1; exact absurd rfl ((hs i _ q).2 xs)
theorem EnvOk.over (E : EnvOk B K F H σ ρ) (st : St1 ⟨H, H, none⟩ F' H') : EnvOk B K F H' σ ρ :=
  E.step ⟨Ex.refl F, fun a o e => st.h0 a o (E.fh a o e) (fun _ z => nomatch z), fun a o e => st.h0 a o e (fun _ z => nomatch z), fun a h _ => h⟩
theorem flat_ok (E : EnvOk B K F H σ ρ) (st : St1 ⟨H, H, none⟩ F' H') {v : V} {r : R} (rv : RetOk ⟨H, H, none⟩ K F' H' v r) (fl : flatR r) : ROk B K F H' σ ρ v r := by
  cases r with
  | d x => exact Rp.atom rv fl
  | new xs =>
    obtain ⟨a, ws, e, k1, k2, k3, k4⟩ := rv
    refine ⟨a, ws, e, E.fh.free k4, k2, k3.atom fl, E.h0p k4, fun i ys hi hs => ?_⟩
    obtain ⟨a', us, e', _, m2, _⟩ := E.own_at hi
    rw [hs] at e'
    cases e'
    rw [show H a = none from k4] at m2
    cases m2
  | scr ns => exact fl.elim
  | raw w => exact fl.elim
theorem we_callR {G : GF} {E : XK} (h : WA B K ta ρ fun as ρ1 => ∃ ls Pe, argR ρ1 as = some ls ∧ G ls (fun r _ => flatR r ∧ Q r ρ1) Pe ∧ ∀ C, Pe C → EK B K E C) : WE B K (tCallR (SpG K none G) E ta) ρ Q := fun F H σ E0 QQ k => ⟨trivial, by
  refine h F H σ E0 _ fun vs as F1 H1 ρ1 E1 e1 av ⟨ls, Pe, ha, hG, hE⟩ => ?_
  · show SpG K none G (vs ++ []) H1 QQ E
    rw [List.append_nil]
    obtain ⟨hl, hs⟩ := argsR_sl E1 av ha
    exact ⟨H1, ls, fun r _ => flatR r ∧ Q r ρ1, Pe, argsR_ok hl hs, hG, fun v r F' H' ys st rv _ q => k v r F1 H' ρ1 (E1.over st) e1 (flat_ok E1 st rv q.1) q.2, fun C F' H' ys st _ hC => hE C hC F1 H' σ ρ1 (E1.over st)⟩⟩
theorem we_callRS {G : GF} {W : WX} (h : WA B K ta ρ fun as ρ1 => ∃ ls Pe, argR ρ1 as = some ls ∧ G ls (fun r _ => flatR r ∧ Q r ρ1) Pe ∧ ∀ C, Pe C → EKr B K W C ρ1) : WE B K (tCallRS (SpG K none G) (L2.WE W) ta) ρ Q := fun F H σ E0 QQ k => ⟨trivial, by
  refine h F H σ E0 _ fun vs as F1 H1 ρ1 E1 e1 av ⟨ls, Pe, ha, hG, hE⟩ => ?_
  · show SpG K none G vs H1 QQ (L2.WE W σ)
    obtain ⟨hl, hs⟩ := argsR_sl E1 av ha
    exact ⟨H1, ls, fun r _ => flatR r ∧ Q r ρ1, Pe, argsR_ok hl hs, hG, fun v r F' H' ys st rv _ q => k v r F1 H' ρ1 (E1.over st) e1 (flat_ok E1 st rv q.1) q.2, fun C F' H' ys st _ hC => hE C hC F1 H' σ (E1.over st)⟩⟩
/-! arguments that no callee changes -/
def WAf (B : Bs) (K : Fr) (ta : TA) (ρ : En) (Q : List Ar → En → Prop) : Prop := WA B K ta ρ Q
theorem waf_nil (q : QA [] ρ) : WAf B K tNil ρ QA := wa_nil q
theorem waf_d {te : TE} (h : WD B K te ρ fun x ρ1 => WAf B K tr ρ1 fun as ρ2 => QA (.d x :: as) ρ2) : WAf B K (tCons te tr) ρ QA := wa_d h
theorem waf_scr {i : Nat} {ns : List Int} (h : ρ[i]? = some (some (.scr ns))) (q : WAf B K tr ρ fun as ρ2 => QA (.scr ns :: as) ρ2) : WAf B K (tCons (tVar i) tr) ρ QA := wa_e (we_scr h ⟨_, rfl, q⟩)
theorem waf_raw {i : Nat} {v : V} (h : ρ[i]? = some (some (.raw v))) (q : WAf B K tr ρ fun as ρ2 => QA (.raw v :: as) ρ2) : WAf B K (tCons (tVar i) tr) ρ QA := wa_e (we_rawv h ⟨_, rfl, q⟩)
theorem we_callF {G : GF} {E : XK} (h : WAf B K ta ρ fun as ρ1 => ∃ ls Pe, argL as = some ls ∧ G ls (fun r _ => Q r ρ1) Pe ∧ ∀ C, Pe C → EK B K E C) : WE B K (tCall (SpG K none G) [] E ta) ρ Q := we_call h
theorem we_callFS {G : GF} {W : WX} (h : WAf B K ta ρ fun as ρ1 => ∃ ls Pe, argL as = some ls ∧ G ls (fun r _ => Q r ρ1) Pe ∧ ∀ C, Pe C → EKr B K W C ρ1) : WE B K (tCallS (SpG K none G) (L2.WE W) ta) ρ Q := we_callS h
theorem wd_pow {t1 t2 : TE} (h : WD B K t1 ρ fun x ρ1 => ∃ i, x = .int i ∧ WD B K t2 ρ1 fun y ρ2 => ∃ j, y = .int j ∧ CPow i j ∧ QD (.int (i ^ j.toNat)) ρ2) : WD B K (tOp (rI CPow fun i j => .int (i ^ j.toNat)) t1 t2) ρ QD := fun F H σ E QQ k =>
  h F H σ E _ fun v x F1 H1 ρ1 E1 e1 rv ⟨i, hx, q⟩ => q F1 H1 σ E1 _ fun u y F2 H2 ρ2 E2 e2 ru ⟨j, hy, hc, q2⟩ => by
    subst hx hy
    cases rv; cases ru
    exact ⟨i, j, rfl, rfl, hc, k _ _ F2 H2 ρ2 E2 (e1.trans e2) (.int _) q2⟩
end
/-! classes against classes -/
theorem kit_self {K : Fr} {t : Value} : PySem.W.kitOne K t t = some true := if_pos (beq_self_eq_true _)
theorem kit_ne {K : Fr} {t : Value} {C : Addr} {b : Bool} (hne : (t == Value.ref C) = false) (hd : PySem.W.hasDictIn K C = true) (ht : PySem.W.typeIn K (.ref C) = some (.type "type")) (h : PySem.W.subIn K t (.ref C) = some b) : PySem.W.kitOne K t (.ref C) = some b := by
  obtain ⟨cd, hc, _⟩ := PySem.W.any_some hd
  have e2 : ((PySem.W.clsIn K C).isSome && PySem.W.typeIn K (.ref C) == some (.type "type")) = true := by rw [hc, ht] <;> rfl
  show (if (t == Value.ref C) = true then some true else (if ((PySem.W.clsIn K C).isSome && PySem.W.typeIn K (.ref C) == some (.type "type")) = true then PySem.W.subIn K t (.ref C) else none)) = some b
  rw [hne, if_neg (by decide), if_pos e2]
  exact h
theorem kit_bt {K : Fr} {a : Addr} {n : String} {b : Bool} (hm : PySem.W.kitMeta n = true) (h : PySem.W.subIn K (.ref a) (.type n) = some b) : PySem.W.kitOne K (.ref a) (.type n) = some b := by
  show (if (Value.ref a == Value.type n) = true then some true else (if PySem.W.kitMeta n = true then PySem.W.subIn K (.ref a) (.type n) else none)) = some b
  rw [if_pos hm, show (Value.ref a == Value.type n) = false from rfl, if_neg (by decide)]
  exact h
end SV

set_option maxHeartbeats 1000000
namespace SV
open PySem PySem.Spec L2 PyProof.Rows
open Evl (Ex)
/-! ### xs[a:b:c]: some items of a list, by a step -/
def tSl3 (K : Fr) (te : TE) (tl th ts : TO) : TE := fun σ H Q => te σ H fun x H1 => tl σ H1 fun _ H2 => th σ H2 fun _ H3 => ts σ H3 fun st H4 => st ≠ some 0 ∧ ∃ a xs, x = .ref a ∧ SqL K H4 a xs ∧ ∀ p ys, H4 p = none → (∀ y, y ∈ ys → y ∈ xs) → ys.length ≤ xs.length → Q (.ref p) (upd H4 p (.lst ys))
theorem vals_pick {xs : List V} {us : List Value} (r : Vals xs us) : ∀ l : List Nat, ∃ ys : List V, Vals ys (l.filterMap (us.toArray[·]?)) ∧ ∀ y, y ∈ ys → y ∈ xs
  | [] => ⟨[], .nil, fun _ h => nomatch h⟩
  | i :: l => by
    obtain ⟨ys, h1, h2⟩ := vals_pick r l
    cases e : xs[i]? with
    | none =>
      have e2 := r.none_of e
      refine ⟨ys, ?_, h2⟩
      rw [List.filterMap_cons, show us.toArray[i]? = none by simpa using e2]
      exact h1
    | some x =>
      obtain ⟨u, e2, ru⟩ := r.get e
      refine ⟨x :: ys, ?_, fun y hy => ?_⟩
      · rw [List.filterMap_cons, show us.toArray[i]? = some u by simpa using e2]
        exact .cons ru h1
      · rcases List.mem_cons.mp hy with h | h
        · rw [h]; exact List.mem_of_getElem? e
        · exact h2 y h
theorem k_slice3 {X : Cx} {e : Expr} {te : TE} {tl th ts : TO} {lo hi : Option Expr} {st : Expr} {p3 pos : Pos} (K : Fr) (hK : X.K = K) (he : PE X e te) (hl : PO X lo tl) (hu : PO X hi th) (hs : PO X (some st) ts) : PE X (.Subscript e (.Slice lo hi (some st) p3) pos) (tSl3 K te tl th ts) := by
  subst hK
  refine ⟨fun pins s σ H Q I h => ?_⟩
  refine Subscript_ (thn (he.run pins s σ H _ I h) fun v s1 ⟨x, H1, I1, r1, q1⟩ => ?_)
  refine wpAny_Slice (thn (hl.run pins s1 σ H1 _ I1 q1) fun vl s2 ⟨l, H2, I2, pl, q2⟩ => ?_)
  refine thn (hu.run pins s2 σ H2 _ I2 q2) fun vu s3 ⟨u, H3, I3, pu, q3⟩ => ?_
  refine thn (hs.run pins s3 σ H3 _ I3 q3) fun vs s4 ⟨o, H4, I4, ps, ne, a, xs, ex, hx, q⟩ => ?_
  subst ex
  cases r1
  have I5 : Inv X pins σ H4 { s4 with heap := s4.heap.push { cls := .type "slice", data := .fields #[vl, vu, vs] } } := I4.kept (t' := s4.toks) fun b ob q => Heap.get?_push_of_some _ q
  obtain ⟨its, r, ht, hz⟩ := I5.list hx
  have hlen := r.length
  show wpAny (model X.prog X.w) X.A (subscriptTail e (.Slice lo hi (some st) p3) (.ref a) (.ref s4.heap.objs.size)) (EP X pins σ Q) X.xe { s4 with heap := s4.heap.push { cls := .type "slice", data := .fields #[vl, vu, vs] } }
  refine tail_any (ops := [.ref a, .ref s4.heap.objs.size]) ht.isList.typeIs (PySem.slot_list_getitem.lookup) ?_ (by with_unfolding_all rfl)
  refine wpAny_getItem_list_slice ht.isList (Heap.IsSliceOf.new _ vl vu vs) pl pu ps ne ?_ (by rw [List.size_toArray]; omega)
  obtain ⟨ys, rp, hm⟩ := vals_pick r (sliceRange (sliceBounds l u o its.toArray.size).1 (sliceBounds l u o its.toArray.size).2.1 (sliceBounds l u o its.toArray.size).2.2)
  have hsz := slicePick_size_le its.toArray l u o
  unfold slicePick at hsz ⊢
  rw [List.size_toArray, ← rp.length, List.size_toArray, ← hlen] at hsz
  refine ⟨.ref _, _, I5.laid (t' := s4.toks) (o := .lst ys) (fun b ob q => Heap.get?_push_of_some _ q) (Nat.le_refl _) ?_, rfl, q _ ys (I5.hok.fresh (Nat.le_refl _)) hm hsz⟩
  exact ⟨Nat.le_trans hsz hz, _, 0, rp, Heap.get?_push_size _ rfl⟩
theorem ints_of {ns : List Int} : ∀ {ys : List V}, (∀ y, y ∈ ys → y ∈ ns.map V.int) → ∃ ms : List Int, ys = ms.map V.int
  | [], _ => ⟨[], rfl⟩
  | y :: ys, h => by
    obtain ⟨ms, e⟩ := ints_of (ys := ys) fun z hz => h z (List.mem_cons_of_mem _ hz)
    obtain ⟨n, _, en⟩ := List.mem_map.mp (h y List.mem_cons_self)
    exact ⟨n :: ms, by rw [e, ← en]; rfl⟩
section
variable {B : Bs} {K : Fr} {ρ : En} {Q : R → En → Prop}
theorem we_sl3S {j : Nat} {ns : List Int} {t1 t2 t3 : TO} (hj : ρ[j]? = some (some (.scr ns))) (h : WO B K t1 ρ fun _ ρ2 => WO B K t2 ρ2 fun _ ρ3 => WO B K t3 ρ3 fun st ρ4 => st ≠ some 0 ∧ ∀ ms : List Int, ms.length ≤ ns.length → Q (.new (ms.map .int)) ρ4) : WE B K (tSl3 K (tVar j) t1 t2 t3) ρ Q := fun F H σ E QQ k => by
  obtain ⟨v, e, a, hv, hs⟩ := E.sl j _ hj
  subst hv
  refine ⟨.ref a, e, h F H σ E _ fun lo F2 H2 ρ2 E2 e2 q2 => q2 F2 H2 σ E2 _ fun hi F3 H3 ρ3 E3 e3 q3 => q3 F3 H3 σ E3 _ fun st F4 H4 ρ4 E4 e4 ⟨ne, q4⟩ => ⟨ne, a, ns.map V.int, rfl, E4.fh.sl (((e2.trans e3).trans e4).sl hs), fun p ys hp hm hl => ?_⟩⟩
  obtain ⟨ms, rfl⟩ := ints_of hm
  rw [List.length_map, List.length_map] at hl
  obtain ⟨E5, r5⟩ := new_ok E4 hp (RpA.of_ints (K := K) (F := F4) ms)
  exact k _ _ F4 _ ρ4 E5 ((e2.trans e3).trans e4) r5 (q4 ms hl)
end
/-! ### text * int -/
def srepS (x : Str) (n : Int) : Str := if n < 1 then Str.empty else if (n == 1 || x.length == 0) = true then x else ⟨(List.replicate n.toNat x.cps).foldl (· ++ ·) #[]⟩
def rSrep : R2 := fun x y H Q => ∃ a n, x = .str a ∧ y = .int n ∧ -1000000 ≤ n ∧ n ≤ 1000000 ∧ a.length * n.toNat ≤ 1000000 ∧ Q (.str (srepS a n)) H
theorem foldl_size (x : Array Nat) : ∀ (k : Nat) (a : Array Nat), ((List.replicate k x).foldl (· ++ ·) a).size = a.size + x.size * k
  | 0, a => by simp
  | k + 1, a => by
    rw [List.replicate_succ, List.foldl_cons, foldl_size x k, Array.size_append, Nat.mul_succ]
    omega
theorem srepS_len (x : Str) (n : Int) : (srepS x n).length = x.length * n.toNat := by
  unfold srepS
  split
  · rename_i h
    rw [show n.toNat = 0 by omega, Nat.mul_zero]
    rfl
  · split
    · rename_i h
      rw [Bool.or_eq_true, beq_iff_eq, beq_iff_eq] at h
      rcases h with h | h
      · rw [h]; exact (Nat.mul_one _).symm
      · rw [h, Nat.zero_mul]
    · show Array.size _ = _
      rw [foldl_size]
      show 0 + x.length * n.toNat = _
      omega
theorem op_srep {X : Cx} : OpR X (binaryOp .Mult) rSrep := by
  intro pins s σ H x y v u Q I rx ry h
  obtain ⟨a, n, rfl, rfl, h1, h2, h3, q⟩ := h
  obtain ⟨t, rfl⟩ := rx
  obtain ⟨t', rfl⟩ := ry
  have hl := srepS_len a n
  refine P.mul_str (by rw [decide_eq_false (by omega), decide_eq_false (by omega)]; rfl) (fun k1 _ hc => ?_) (fun _ _ => ?_) ?_
  · have hn : 0 < n := by omega
    have e1 : (a.length : Int) ≤ 1000000 := by
      have : a.length * 1 ≤ a.length * n.toNat := Nat.mul_le_mul_left _ (by omega)
      omega
    have e2 : (1000000 : Int) ≤ (2 ^ 63 - 1) / n := by
      rw [Int.le_ediv_iff_mul_le hn]
      have : (1000000 : Int) * n ≤ 1000000 * 1000000 := Int.mul_le_mul_of_nonneg_left h2 (by omega)
      omega
    omega
  · unfold Builtin.Str.tooLong
    exact decide_eq_false (by have : (1000000 : Nat) ≤ sizeLine := by decide
                              omega)
  · unfold srepS at q
    split
    · rename_i k
      rw [if_pos k] at q
      exact ⟨by decide, .str _, H, I.tok _, ⟨_, rfl⟩, q⟩
    · rename_i k
      rw [if_neg k] at q
      split
      · rename_i k2
        rw [if_pos k2] at q
        exact ⟨.str _, H, I, ⟨_, rfl⟩, q⟩
      · rename_i k2
        rw [if_neg k2] at q
        refine ⟨?_, .str _, H, I.tok _, ⟨_, rfl⟩, q⟩
        have e := foldl_size a.cps n.toNat #[]
        have e2 : (1000000 : Nat) ≤ sizeLine := by decide
        show Array.size _ ≤ sizeLine
        rw [e]
        show 0 + a.length * n.toNat ≤ sizeLine
        omega
section
variable {B : Bs} {K : Fr} {ρ : En} {ta tb : TE} {QD : PyData → En → Prop}
theorem wd_srep (h : WD B K ta ρ fun x ρ1 => ∃ a, x = .str a ∧ WD B K tb ρ1 fun y ρ2 => ∃ n, y = .int n ∧ (-1000000 ≤ n ∧ n ≤ 1000000 ∧ a.length * n.toNat ≤ 1000000) ∧ QD (.str (srepS a n)) ρ2) : WD B K (tOp rSrep ta tb) ρ QD := fun F H σ E QQ k =>
  h F H σ E _ fun v x F1 H1 ρ1 E1 e1 rv ⟨a, hx, q⟩ => q F1 H1 σ E1 _ fun u y F2 H2 ρ2 E2 e2 ru ⟨n, hy, ⟨h1, h2, h3⟩, q2⟩ => by
    subst hx hy
    cases rv; cases ru
    exact ⟨a, n, rfl, rfl, h1, h2, h3, k _ _ F2 H2 ρ2 E2 (e1.trans e2) (.str _) q2⟩
theorem wd_dnew (q : QD (.dict []) ρ) : WD B K tDNewK ρ QD := fun F H σ E QQ k p hp => by
  obtain ⟨E2, e2⟩ := E.alloc (o := .dK []) hp
  exact k _ _ _ _ ρ E2 e2 (.dct upd_same) q
end
end SV

set_option maxHeartbeats 4000000
set_option hygiene false
local macro_rules | `(tactic| walk_at "okd") => `(tactic| first | exact SV.OkD.int _ | exact SV.OkD.bool _ | exact SV.OkD.none | exact SV.OkD.nil | exact SV.OkD.ints _ | exact SV.OkD.strs (by assumption) | assumption)
local macro_rules | `(tactic| walk_at "nob") => `(tactic| first | exact SV.noB_strs _ | exact SV.noB_ints _ | rfl | assumption)
local macro_rules | `(tactic| walk_at "sn1") => `(tactic| first
  | ((with_reducible refine' SV.ws_retO ?h ?h2 ?_); (case h => exact rfl); (case h2 => exact SV.np_of (by assumption) (by decide)))
  | (with_reducible refine SV.ws_seq ?_)
  | (with_reducible refine SV.ws_for1 ?_)
  | (with_reducible refine SV.ws_for2 ?_)
  | (with_reducible refine SV.ws_ret ?_)
  | (with_reducible refine SV.ws_retN ?_)
  | (with_reducible refine SV.ws_drop ?_)
  | (with_reducible refine SV.ws_next ?_)
  | (with_reducible refine SV.ws_cont ?_)
  | (with_reducible refine SV.ws_brk ?_)
  | ((with_reducible refine' SV.ws_asgO ?h ?_); (case h => exact SV.np_of (by assumption) (by decide)))
  | ((with_reducible refine' SV.ws_asg ?h ?_); (case h => exact SV.np_of (by assumption) (by decide)))
  | ((with_reducible refine' SV.ws_aug ?h ?h2 ?_); (case h => exact SV.np_of (by assumption) (by decide)); (case h2 => exact rfl))
  | (with_reducible refine SV.ws_setItem ?_)
  | (with_reducible refine SV.ws_asgG ?_)
  | ((with_reducible refine' SV.wg_name ?h ?_); (case h => exact SV.np_of (by assumption) (by decide)))
  | ((with_reducible refine' SV.wg_tup ?h ?_); (case h => exact rfl))
  | (with_reducible refine SV.wgs_cons ?_)
  | (with_reducible refine SV.wgs_nil ?_)
  | (with_reducible refine SV.wt_test ?_)
  | (with_reducible refine SV.wt_B ?_)
  | (with_reducible refine SV.wt_and ?_)
  | (with_reducible refine SV.wt_or ?_)
  | (with_reducible refine SV.wt_not ?_)
  | (with_reducible refine SV.wt_yes ?_)
  | ((with_reducible refine' SV.wd_var ?h ?_); (case h => exact rfl))
  | ((with_reducible refine' SV.wd_frz ?h ?h2 ?_); (case h => exact rfl); (case h2 => exact SV.np_of (by assumption) (by decide)))
  | (with_reducible refine SV.wd_int ?_)
  | (with_reducible refine SV.wd_bl ?_)
  | (with_reducible refine SV.wd_str ?_)
  | (with_reducible refine SV.wd_non ?_)
  | ((with_reducible refine' SV.wd_ixS ?h ?_); (case h => exact rfl))
  | ((with_reducible refine' SV.wd_ixO ?h ?_); (case h => exact rfl))
  | (with_reducible refine SV.wd_ix ?_)
  | ((with_reducible refine' SV.wd_lenS ?h ?_); (case h => exact rfl))
  | ((with_reducible refine' SV.wd_lenO ?h ?_); (case h => exact rfl))
  | (with_reducible refine SV.wd_len ?_)
  | (with_reducible refine SV.wd_e (SV.we_plus ?_))
  | (with_reducible refine SV.wd_sub ?_)
  | (with_reducible refine SV.wd_modP ?_)
  | (with_reducible refine SV.wd_divP ?_)
  | (with_reducible refine SV.wd_pow ?_)
  | (with_reducible refine SV.wd_mulP ?_)
  | (with_reducible refine SV.wd_srep ?_)
  | (with_reducible refine SV.wd_dnew ?_)
  | (with_reducible refine SV.wd_neg ?_)
  | (with_reducible refine SV.wd_lt ?_)
  | ((with_reducible refine' SV.wd_eqO ?h ?_); (case h => exact rfl))
  | ((with_reducible refine' SV.wd_neO ?h ?_); (case h => exact rfl))
  | (with_reducible refine SV.wd_eqD ?_)
  | (with_reducible refine SV.wd_neD ?_)
  | (with_reducible refine SV.wd_isN ?_)
  | (with_reducible refine SV.wd_notN ?_)
  | (with_reducible refine SV.wd_tup ?_)
  | (with_reducible refine SV.wd_max2 ?_)
  | (with_reducible refine SV.wd_min2 ?_)
  | (with_reducible refine SV.wd_andV ?_)
  | (with_reducible refine SV.wd_orV ?_)
  | (with_reducible refine SV.wd_notV ?_)
  | (with_reducible refine SV.wd_niSign ?_)
  | (with_reducible refine SV.wd_inSign ?_)
  | (with_reducible refine SV.wd_isi_int ?_)
  | (with_reducible refine SV.wd_isi_bool ?_)
  | (with_reducible refine SV.wd_isi_str ?_)
  | (with_reducible refine SV.wd_isi_tuple ?_)
  | (with_reducible refine SV.wd_isi_list ?_)
  | (with_reducible refine SV.wd_isi_dict ?_)
  | ((with_reducible refine' SV.wd_isx ?h ?C ?k ?e ?_); (case h => exact rfl); (case C => assumption); (case k => (first | exact .ty _ | exact .own _)); (case e => assumption))
  | ((with_reducible refine' SV.wd_isxT ?h ?t ?l ?C ?e ?_); (case h => exact rfl); (case t => (first | exact (.cons (.cons (.cons (.cons (.cons (.cons (.cons (.cons .nil)))))))) | exact (.cons (.cons (.cons (.cons (.cons (.cons (.cons .nil))))))) | exact (.cons (.cons (.cons (.cons .nil)))))); (case l => exact Nat.le_of_ble_eq_true rfl); (case C => assumption); (case e => assumption))
  | (with_reducible refine SV.wd_e (SV.we_lst ?_))
  | ((with_reducible refine' SV.wd_e (SV.we_slS ?h ?_)); (case h => exact rfl))
  | ((with_reducible refine' SV.wd_e (SV.we_sl3S ?h ?_)); (case h => exact rfl))
  | ((with_reducible refine' SV.wd_e (SV.we_slO ?h ?_)); (case h => exact rfl))
  | (with_reducible refine SV.wd_e (SV.we_sl ?_))
  | (with_reducible refine SV.wd_e (SV.we_rep ?_))
  | (with_reducible refine SV.wd_e (SV.we_callF ?_))
  | (with_reducible refine SV.wd_e (SV.we_callP ?_))
  | (with_reducible refine SV.wd_e (SV.we_callFS ?_))
  | (with_reducible refine SV.wd_e (SV.we_callR ?_))
  | (with_reducible refine SV.wd_e (SV.we_callRS ?_))
  | (with_reducible refine SV.wd_e (SV.we_if ?_))
  | (with_reducible refine SV.wd_e (SV.we_list ?_))
  | ((with_reducible refine' SV.wd_e (SV.we_listO ?h ?_)); (case h => exact rfl))
  | ((with_reducible refine' SV.wd_tupOfO ?h ?_); (case h => exact rfl))
  | (with_reducible refine SV.wd_tupOf ?_)
  | (with_reducible refine SV.wd_join ?_)
  | (with_reducible refine SV.wds_cons ?_)
  | (with_reducible refine SV.wds_nil ?_)
  | ((with_reducible refine' SV.we_scr ?h ?_); (case h => exact rfl))
  | (with_reducible refine SV.we_lst ?_)
  | ((with_reducible refine' SV.we_slS ?h ?_); (case h => exact rfl))
  | ((with_reducible refine' SV.we_sl3S ?h ?_); (case h => exact rfl))
  | ((with_reducible refine' SV.we_slO ?h ?_); (case h => exact rfl))
  | (with_reducible refine SV.we_sl ?_)
  | (with_reducible refine SV.wo_none ?_)
  | (with_reducible refine SV.wo_some ?_)
  | ((with_reducible refine' SV.we_append ?h ?_); (case h => exact rfl))
  | ((with_reducible refine' SV.we_extend ?h ?_); (case h => exact rfl))
  | ((with_reducible refine' SV.we_listO ?h ?_); (case h => exact rfl))
  | (with_reducible refine SV.we_list ?_)
  | (with_reducible refine SV.we_plus ?_)
  | (with_reducible refine SV.we_rep ?_)
  | (with_reducible refine SV.we_callF ?_)
  | (with_reducible refine SV.we_callP ?_)
  | (with_reducible refine SV.we_callFS ?_)
  | (with_reducible refine SV.we_callR ?_)
  | (with_reducible refine SV.we_callRS ?_)
  | (with_reducible refine SV.we_if ?_)
  | (with_reducible refine SV.wa_nil ?_)
  | (with_reducible refine SV.waf_nil ?_)
  | ((with_reducible refine' SV.waf_scr ?h ?_); (case h => exact rfl))
  | ((with_reducible refine' SV.waf_raw ?h ?_); (case h => exact rfl))
  | (with_reducible refine SV.waf_d ?_)
  | ((with_reducible refine' SV.wa_own ?h ?_); (case h => exact rfl))
  | ((with_reducible refine' SV.wa_e (SV.we_scr ?h ?_)); (case h => exact rfl))
  | (with_reducible refine SV.wa_d ?_)
  | (with_reducible refine SV.len_map ?_)
  | (with_reducible refine SV.len_mapT ?_)
  | (with_reducible refine SV.len_list ?_)
  | (with_reducible refine SV.len_tup ?_)
  | (with_reducible refine SV.lof_list ?_)
  | (with_reducible refine SV.lof_tup ?_)
  | (refine SV.plus_int ?_)
  | (refine SV.plus_str ?_ ?_)
  | (refine SV.plus_list ?_ ?_)
  | (with_reducible refine SV.fk_dec (fun hc => ?_) (fun hc => ?_))
  | (with_reducible refine SV.fk_not ?_)
  | (with_reducible refine SV.fk_int (fun hc => ?_) (fun hc => ?_))
  | (with_reducible refine SV.fk_nil (fun hc => ?_) (fun hc => ?_))
  | (with_reducible refine SV.fk_str (fun hc => ?_) (fun hc => ?_))
  | (with_reducible refine SV.fk_eqv (by walk_at "nob") (by walk_at "nob") (fun hc => ?_) (fun hc => ?_))
  | (refine SV.fk_t ?_)
  | (refine SV.fk_f ?_)
  | (with_reducible refine SV.we_d ?_)
  | (refine SV.idx_list rfl ?_)
  | (refine SV.idx_tup rfl ?_)
  | (refine And.intro (show SV.atomD _ = true from rfl) ?_)
  | ((with_reducible refine' ⟨_, ?h, ?_⟩); (case h => exact rfl))
  | (refine ⟨⟨_, rfl⟩, ?_⟩)
  | (refine ⟨_, _, _, rfl, rfl, rfl, ?_⟩)
  | (refine And.intro ?hs ?_; (case hs => (first | omega | (simp only [List.length_cons, List.length_nil, SV.lim]; omega) | exact Or.inl ⟨by omega, by omega⟩ | exact Or.inr ⟨by omega, by omega⟩ | exact SV.ok2 (by walk_at "okd") (by walk_at "okd") | exact SV.ok2O (by walk_at "okd") (by walk_at "okd"))))
  | (refine ⟨_, fun _ => False, rfl, ?_, fun C (h : False) => (h.elim : SV.EK _ _ L2.E0 C)⟩)
  | (refine ⟨[], _, _, _, _, _, fun _ => False, rfl, rfl, rfl, rfl, rfl, ?_, fun C (h : False) => (h.elim : SV.EK _ _ L2.E0 C)⟩)
  | (refine ⟨[_], [], _, _, _, _, fun _ => False, rfl, rfl, rfl, rfl, rfl, ?_, fun C (h : False) => (h.elim : SV.EK _ _ L2.E0 C)⟩)
  | fail)
local macro_rules | `(tactic| walk_at "sn") => `(tactic| repeat' (walk_at "sn1"))
local macro_rules | `(tactic| walk_at "sv1") => `(tactic| first | (with_reducible refine SV.ws_if ?_) | walk_at "sn1")
local macro_rules | `(tactic| walk_at "sv") => `(tactic| repeat' (walk_at "sv1"))
set_option hygiene true

namespace SV
open PySem PySem.Spec L2
open Evl (Ex)
def topS (i : Nat) : Stmt := PySem.Challenge.pw_pagepart_k53_text_stairs.main.body.getD i (.Pass ⟨0, 0, 0, 0⟩)
abbrev s_is_word : Stmt := topS 7
abbrev N_is_word : List Str := ["thing", "sign"]
theorem sc_is_word : FnScope N_is_word ["thing"] (defScope s_is_word) := ⟨rfl, rfl, rfl, by decide +kernel, rfl, by decide +kernel, by decide +kernel⟩
abbrev s_need_words : Stmt := topS 8
abbrev N_need_words : List Str := ["things", "thing"]
theorem sc_need_words : FnScope N_need_words ["things"] (defScope s_need_words) := ⟨rfl, rfl, rfl, by decide +kernel, rfl, by decide +kernel, by decide +kernel⟩
abbrev s_put_word : Stmt := topS 9
abbrev N_put_word : List Str := ["found", "word", "wide"]
theorem sc_put_word : FnScope N_put_word ["found", "word", "wide"] (defScope s_put_word) := ⟨rfl, rfl, rfl, by decide +kernel, rfl, by decide +kernel, by decide +kernel⟩
abbrev s_lines : Stmt := topS 10
abbrev N_lines : List Str := ["words", "wide", "found", "word"]
theorem sc_lines : FnScope N_lines ["words", "wide"] (defScope s_lines) := ⟨rfl, rfl, rfl, by decide +kernel, rfl, by decide +kernel, by decide +kernel⟩
abbrev s_taken : Stmt := topS 11
abbrev N_taken : List Str := ["sizes", "wide", "many", "used", "size"]
theorem sc_taken : FnScope N_taken ["sizes", "wide"] (defScope s_taken) := ⟨rfl, rfl, rfl, by decide +kernel, rfl, by decide +kernel, by decide +kernel⟩
abbrev s_next_stair : Stmt := topS 12
abbrev N_next_stair : List Str := ["sizes", "wide", "many", "whole", "middle"]
theorem sc_next_stair : FnScope N_next_stair ["sizes", "wide", "many", "whole"] (defScope s_next_stair) := ⟨rfl, rfl, rfl, by decide +kernel, rfl, by decide +kernel, by decide +kernel⟩
abbrev s_text_stairs : Stmt := topS 13
abbrev N_text_stairs : List Str := ["words", "sizes", "word", "whole", "found", "wide"]
theorem sc_text_stairs : FnScope N_text_stairs ["words"] (defScope s_text_stairs) := ⟨rfl, rfl, rfl, by decide +kernel, rfl, by decide +kernel, by decide +kernel⟩
abbrev s_law_cell_at : Stmt := topS 15
abbrev N_law_cell_at : List Str := ["script", "k"]
theorem sc_law_cell_at : FnScope N_law_cell_at ["script", "k"] (defScope s_law_cell_at) := ⟨rfl, rfl, rfl, by decide +kernel, rfl, by decide +kernel, by decide +kernel⟩
abbrev s_law_take : Stmt := topS 16
abbrev N_law_take : List Str := ["deck", "many", "found", "number"]
theorem sc_law_take : FnScope N_law_take ["deck", "many"] (defScope s_law_take) := ⟨rfl, rfl, rfl, by decide +kernel, rfl, by decide +kernel, by decide +kernel⟩
abbrev s_law_word : Stmt := topS 17
abbrev N_law_word : List Str := ["cell", "way", "some", "deck", "most", "word", "j"]
theorem sc_law_word : FnScope N_law_word ["cell", "way"] (defScope s_law_word) := ⟨rfl, rfl, rfl, by decide +kernel, rfl, by decide +kernel, by decide +kernel⟩
abbrev s_law_count : Stmt := topS 18
abbrev N_law_count : List Str := ["words", "wide", "many", "used", "word"]
theorem sc_law_count : FnScope N_law_count ["words", "wide"] (defScope s_law_count) := ⟨rfl, rfl, rfl, by decide +kernel, rfl, by decide +kernel, by decide +kernel⟩
abbrev s_law_due : Stmt := topS 19
abbrev N_law_due : List Str := ["words", "sizes", "word", "found", "wide", "many"]
theorem sc_law_due : FnScope N_law_due ["words"] (defScope s_law_due) := ⟨rfl, rfl, rfl, by decide +kernel, rfl, by decide +kernel, by decide +kernel⟩
abbrev s_law_told : Stmt := topS 20
abbrev N_law_told : List Str := ["found", "due", "stair", "one"]
theorem sc_law_told : FnScope N_law_told ["found", "due"] (defScope s_law_told) := ⟨rfl, rfl, rfl, by decide +kernel, rfl, by decide +kernel, by decide +kernel⟩
abbrev s_law_many : Stmt := topS 21
abbrev N_law_many : List Str := ["words", "wide", "many"]
theorem sc_law_many : FnScope N_law_many ["words", "wide"] (defScope s_law_many) := ⟨rfl, rfl, rfl, by decide +kernel, rfl, by decide +kernel, by decide +kernel⟩
abbrev s_law : Stmt := topS 22
abbrev N_law : List Str := ["script", "way", "cells", "k", "text", "cell", "due", "handed", "found", "wide", "high"]
theorem sc_law : FnScope N_law ["script"] (defScope s_law) := ⟨rfl, rfl, rfl, by decide +kernel, rfl, by decide +kernel, by decide +kernel⟩
structure Txt (K : Fr) (mg : Str → Option Value) where
  b_ValueError : mg "ValueError" = none
  b_bool : mg "bool" = none
  b_int : mg "int" = none
  b_isinstance : mg "isinstance" = none
  b_len : mg "len" = none
  b_list : mg "list" = none
  b_max : mg "max" = none
  b_min : mg "min" = none
  b_range : mg "range" = none
  b_str : mg "str" = none
  b_sum : mg "sum" = none
  b_tuple : mg "tuple" = none
  t_MOST_SIGNS : Tok
  c_MOST_SIGNS : mg "MOST_SIGNS" = some (.int 12 t_MOST_SIGNS)
  t_SIGNS : Tok
  c_SIGNS : mg "SIGNS" = some (.str "!\"#$&'()*+,-./0123456789:;<=>?@ABCDEFGHIJKLMNOPQRSTUVWXYZ[\\]^_`abcdefghijklmnopqrstuvwxyz{|}~" t_SIGNS)
  a_PartError : Addr
  PartError : ExcT K mg "PartError" a_PartError
  a_NoTexts : Addr
  NoTexts : ExcT K mg "NoTexts" a_NoTexts
  a_NoRoom : Addr
  NoRoom : ExcT K mg "NoRoom" a_NoRoom
  f_is_word : Addr
  fd_is_word : FuncData
  d_is_word : Df K mg "is_word" s_is_word ["thing"] f_is_word fd_is_word
  f_need_words : Addr
  fd_need_words : FuncData
  d_need_words : Df K mg "need_words" s_need_words ["things"] f_need_words fd_need_words
  f_put_word : Addr
  fd_put_word : FuncData
  d_put_word : Df K mg "put_word" s_put_word ["found", "word", "wide"] f_put_word fd_put_word
  f_lines : Addr
  fd_lines : FuncData
  d_lines : Df K mg "lines" s_lines ["words", "wide"] f_lines fd_lines
  f_taken : Addr
  fd_taken : FuncData
  d_taken : Df K mg "taken" s_taken ["sizes", "wide"] f_taken fd_taken
  f_next_stair : Addr
  fd_next_stair : FuncData
  d_next_stair : Df K mg "next_stair" s_next_stair ["sizes", "wide", "many", "whole"] f_next_stair fd_next_stair
  f_text_stairs : Addr
  fd_text_stairs : FuncData
  d_text_stairs : Df K mg "text_stairs" s_text_stairs ["words"] f_text_stairs fd_text_stairs
  f_law_cell_at : Addr
  fd_law_cell_at : FuncData
  d_law_cell_at : Df K mg "_law_cell_at" s_law_cell_at ["script", "k"] f_law_cell_at fd_law_cell_at
  f_law_take : Addr
  fd_law_take : FuncData
  d_law_take : Df K mg "_law_take" s_law_take ["deck", "many"] f_law_take fd_law_take
  f_law_word : Addr
  fd_law_word : FuncData
  d_law_word : Df K mg "_law_word" s_law_word ["cell", "way"] f_law_word fd_law_word
  f_law_count : Addr
  fd_law_count : FuncData
  d_law_count : Df K mg "_law_count" s_law_count ["words", "wide"] f_law_count fd_law_count
  f_law_due : Addr
  fd_law_due : FuncData
  d_law_due : Df K mg "_law_due" s_law_due ["words"] f_law_due fd_law_due
  f_law_told : Addr
  fd_law_told : FuncData
  d_law_told : Df K mg "_law_told" s_law_told ["found", "due"] f_law_told fd_law_told
  f_law_many : Addr
  fd_law_many : FuncData
  d_law_many : Df K mg "_law_many" s_law_many ["words", "wide"] f_law_many fd_law_many
  f_law : Addr
  fd_law : FuncData
  d_law : Df K mg "law" s_law ["script"] f_law fd_law
  e_NoRoom : ExcC K a_NoRoom
  m_NoRoom_NoRoom : PySem.W.exmOne K (.ref a_NoRoom) (.ref a_NoRoom) = some true
section
variable {P : Program} {w : World} {K : Fr} {mg : Str → Option Value} {base : Heap}


/-! ### _law_cell_at -/
def G_law_cell_at : GF := fun ls Po _ => ∃ (ns : List Int) (k : Int), ls = [.scr ns, .d (.int k)] ∧ 0 ≤ k ∧ ∀ z : Int, Po (.d (.int z)) []
theorem ok_law_cell_at (T : Txt K mg) : FnOk P w K mg base CX0 1 T.f_law_cell_at T.fd_law_cell_at ["script", "k"] (SpG K none G_law_cell_at) := by
  refine T.d_law_cell_at.F.ok sc_law_cell_at (SpG.len (n := 2) fun ls Po Pe h => by obtain ⟨_, _, rfl, _⟩ := h; rfl) (fun cdv A outer s H vs Q E hr h => ⟨_, (pss_cons (ps_if (pt_cmpR op_lt (pv 1) (pe_callB (k_len K) (by rfl) T.b_len PySem.boot_len (pa_cons (pv 0) pa_nil)) (nomark _)) (pss_one (ps_ret (pe_ix (k_ix K) (pv 0) (pv 1) (fun _ _ => rfl)))) pss_nil)
 (pss_one (ps_ret pe_int))), rd_of h fun B ls Po Pe hB hG hE => ?_⟩)
  obtain ⟨ns, k, rfl, hk, q⟩ := hG
  show WS B K _ [some (.scr ns), some (.d (.int k))] _
  walk_at "sv"
  · have h1 : ixN ns.length k = some k.toNat := by
      unfold ixN
      rw [if_pos hk, if_pos hc]
    have h2 : k.toNat < ns.length := by omega
    refine ⟨k, ns[k.toNat], rfl, ?_, q _⟩
    unfold atI
    rw [h1]
    exact List.getElem?_eq_getElem h2
  · exact q _

/-! ### _law_take: a draw below many; the deck's cell and count are some others behind it -/
def deckD (c w s : Int) : List PyData := [.int c, .int w, .int s]
def G_law_take : GF := fun ls Po _ => ∃ c w s m : Int, ls = [.own (deckD c w s), .d (.int m)] ∧ (0 < m ∧ m < 1073741824 ∧ 0 ≤ s ∧ s < 2000000) ∧ ∀ r c' s' : Int, 0 ≤ r → r < m → s ≤ s' → s' ≤ s + 1 → Po (.d (.int r)) (deckD c' w s')
theorem ok_law_take (T : Txt K mg) : FnOk P w K mg base CX0 1 T.f_law_take T.fd_law_take ["deck", "many"] (SpG K (some 0) G_law_take) := by
  refine T.d_law_take.F.ok sc_law_take (SpG.len (n := 2) fun ls Po Pe h => by obtain ⟨_, _, _, _, rfl, _⟩ := h; rfl) (fun cdv A outer s H vs Q E hr h => ⟨_, (pss_cons (ps_if (pt_cmpR (k_eqD K rfl hr.units) (pe_ix (k_ix K) (pv 0) pe_int (fun _ _ => rfl)) pe_int (nomark _)) (pss_cons (ps_set (i := 2) sc_law_take.nd rfl (.inl rfl) (pe_op op_modN (pe_ix (k_ix K) (pv 0) pe_int (fun _ _ => rfl)) (pv 1)))
 (pss_cons (ps_asg (pe_op op_fdivN (pe_ix (k_ix K) (pv 0) pe_int (fun _ _ => rfl)) (pv 1)) (pg_sub (pv 0) pe_int set_list))
 (pss_one (ps_ret (pv 2))))) pss_nil)
 (pss_cons (ps_asg (pe_op (k_plus K) (pe_ix (k_ix K) (pv 0) pe_int (fun _ _ => rfl)) pe_int) (pg_sub (pv 0) pe_int set_list))
 (pss_cons (ps_set (i := 3) sc_law_take.nd rfl (.inl rfl) (pe_op op_modN (pe_op (k_plus K) (pe_op op_mul (pe_op op_modN (pe_ix (k_ix K) (pv 0) pe_int (fun _ _ => rfl)) pe_int) (pe_op (k_plus K) (pe_op op_mul (pe_ix (k_ix K) (pv 0) pe_int (fun _ _ => rfl)) (pe_ix (k_ix K) (pv 0) pe_int (fun _ _ => rfl))) pe_int)) (pe_ix (k_ix K) (pv 0) pe_int (fun _ _ => rfl))) pe_int))
 (pss_cons (ps_set (i := 3) sc_law_take.nd rfl (.inl rfl) (pe_op op_modN (pe_op op_mul (pv 3) (pv 3)) pe_int))
 (pss_one (ps_ret (pe_op op_modN (pe_op op_fdivN (pe_op op_modN (pe_op op_mul (pv 3) pe_int) pe_int) pe_int) (pv 1)))))))), rd_of h fun B ls Po Pe hB hG hE => ?_⟩)
  obtain ⟨c, w, t, m, rfl, hm, q⟩ := hG
  show WS B K _ [some (.own [.int c, .int w, .int t]), some (.d (.int m)), none, none] _
  walk_at "sv"
  · exact q _ _ _ (Int.emod_nonneg _ (by omega)) (Int.emod_lt_of_pos _ hm.1) (Int.le_refl _) (by omega)
  · exact q _ _ _ (Int.emod_nonneg _ (by omega)) (Int.emod_lt_of_pos _ hm.1) (by omega) (Int.le_refl _)

/-! ### _law_word: a word of 1 to 12 signs -/
def someS : Str := "!\"#$&'()*+,-./0123456789:;<=>?@ABCDEFGHIJKLMNOPQRSTUVWXYZ[\\]^_`abcdefghijklmnopqrstuvwxyz{|}~"
/-- a word: 1 to 12 signs of these -/
def IsWord (w : Str) : Prop := 1 ≤ w.length ∧ w.length ≤ 12 ∧ ∀ c, c ∈ w.cps.toList → c ∈ someS.cps.toList
theorem someS_len : someS.cps.toList.length = 93 := by decide +kernel
theorem atI_lt {α : Type} {xs : List α} {i : Int} (h0 : 0 ≤ i) (h : i < xs.length) : ∃ x, atI xs i = some x ∧ x ∈ xs := by
  have e : ixN xs.length i = some i.toNat := by
    unfold ixN
    rw [if_pos h0, if_pos h]
  have hl : i.toNat < xs.length := by omega
  exact ⟨xs[i.toNat], by unfold atI; rw [e]; exact List.getElem?_eq_getElem hl, List.getElem_mem hl⟩
theorem app_len (a b : Str) : (a ++ b).length = a.length + b.length := Array.size_append
theorem app_list (a b : Str) : (a ++ b).cps.toList = a.cps.toList ++ b.cps.toList := Array.toList_append
def G_law_word : GF := fun ls Po _ => ∃ c w : Int, ls = [.d (.int c), .d (.int w)] ∧ ∀ x : Str, IsWord x → Po (.d (.str x)) []
theorem ok_law_word (T : Txt K mg) : FnOk P w K mg base CX0 2 T.f_law_word T.fd_law_word ["cell", "way"] (SpG K none G_law_word) := by
  refine T.d_law_word.F.ok sc_law_word (SpG.len (n := 2) fun ls Po Pe h => by obtain ⟨_, _, rfl, _⟩ := h; rfl) (fun cdv A outer s H vs Q E hr h => ⟨_, (pss_cons (ps_set (i := 2) sc_law_word.nd rfl (.inl rfl) pe_str)
 (pss_cons (ps_setO (i := 3) sc_law_word.nd rfl (.inl rfl) (pe_lst (pa_cons (pv 0) (pa_cons (pv 1) (pa_cons pe_int pa_nil)))))
 (pss_cons (ps_set (i := 4) sc_law_word.nd rfl (.inl rfl) (pe_ix (k_ix K) (pe_lst (pa_cons pe_int (pa_cons pe_int (pa_cons pe_int pa_nil)))) (pe_call (ok_law_take T) hr (by rfl) T.d_law_take.g T.d_law_take.kp T.d_law_take.b .nil pass0 (pa_cons (pv 3) (pa_cons pe_int pa_nil))) (fun _ _ => rfl)))
 (pss_cons (ps_set (i := 5) sc_law_word.nd rfl (.inl rfl) pe_str)
 (pss_cons (ps_for PassesOwn.never rfl (pi_range1 (by rfl) T.b_range (pa_cons (pe_op (k_plus K) pe_int (pe_call (ok_law_take T) hr (by rfl) T.d_law_take.g T.d_law_take.kp T.d_law_take.b .nil pass0 (pa_cons (pv 3) (pa_cons (pv 4) pa_nil)))) pa_nil)) (pg_name (i := 6) sc_law_word.nd rfl (Or.inl rfl)) (pss_one (ps_set (i := 5) sc_law_word.nd rfl (.inl rfl) (pe_op (k_plus K) (pv 5) (pe_ix (k_ix K) (pv 2) (pe_call (ok_law_take T) hr (by rfl) T.d_law_take.g T.d_law_take.kp T.d_law_take.b .nil pass0 (pa_cons (pv 3) (pa_cons pe_int pa_nil))) (fun _ _ => rfl))))))
 (pss_one (ps_ret (pv 5)))))))), rd_of h fun B ls Po Pe hB hG hE => ?_⟩)
  obtain ⟨c, w, rfl, q⟩ := hG
  show WS B K _ [some (.d (.int c)), some (.d (.int w)), none, none, none, none, none] _
  walk_at "sv"
  refine ⟨c, w, 0, 3, rfl, by omega, fun r c1 s1 r0 r1 s0 s1' => ?_⟩
  have e : ∃ m : Int, atI [PyData.int 3, .int 6, .int 12] r = some (.int m) ∧ 3 ≤ m ∧ m ≤ 12 := by
    rcases (show r = 0 ∨ r = 1 ∨ r = 2 by omega) with e | e | e <;> subst e
    · exact ⟨3, rfl, by omega⟩
    · exact ⟨6, rfl, by omega⟩
    · exact ⟨12, rfl, by omega⟩
  obtain ⟨m, hm, m0⟩ := e
  refine ⟨_, rfl, idx_list hm ?_⟩
  walk_at "sv"
  refine ⟨c1, w, s1, m, rfl, by omega, fun r2 c2 s2 r20 r21 s20 s21 => ?_⟩
  walk_at "sv"
  refine ⟨fun pre ρ => ∃ (x : Str) (c' s' : Int) (o : Option L), ρ = [some (.d (.int c)), some (.d (.int w)), some (.d (.str someS)), some (.own (deckD c' w s')), some (.d (.int m)), some (.d (.str x)), o] ∧ x.length = pre.length ∧ (0 ≤ s' ∧ s' ≤ 2 + pre.length) ∧ ∀ c, c ∈ x.cps.toList → c ∈ someS.cps.toList,
    ⟨(("" : String) : Str), c2, s2, none, rfl, rfl, ⟨by omega, by simp only [List.length_nil]; omega⟩, fun c hc => by rw [show ((("" : String) : Str).cps.toList) = [] from by decide +kernel] at hc; cases hc⟩, fun pre a post ρ2 ha hI => ?_, fun ρ2 hI => ?_⟩
  · obtain ⟨x, c', s', o, rfl, hx, hs, hc⟩ := hI
    have hl : pre.length < 12 := by
      have := congrArg List.length ha
      rw [ixs_len, List.length_append, List.length_cons] at this
      omega
    walk_at "sv"
    refine ⟨c', w, s', 93, rfl, by omega, fun r3 c3 s3 r30 r31 s30 s31 => ⟨_, rfl, ?_⟩⟩
    obtain ⟨z, hz, hm⟩ := atI_lt (xs := someS.cps.toList) r30 (by rw [someS_len]; exact r31)
    refine idx_str (by rw [show someS.length = someS.cps.toList.length from rfl, someS_len]; decide) hz ?_
    have hz1 : (⟨#[z]⟩ : Str).length = 1 := rfl
    refine plus_str (by rw [hx, hz1]; show pre.length + 1 ≤ 1000000; omega) ⟨_, rfl, ?_⟩
    refine ⟨x ++ ⟨#[z]⟩, c3, s3, some (.d (.int a)), rfl, ?_, ⟨by omega, ?_⟩, fun c hc' => ?_⟩
    · rw [app_len, hx, hz1, List.length_append]; rfl
    · rw [List.length_append]; simp only [List.length_cons, List.length_nil]; omega
    · rw [app_list] at hc'
      rcases List.mem_append.mp hc' with h | h
      · exact hc c h
      · have : c = z := by simpa using h
        rw [this]; exact hm
  · obtain ⟨x, c', s', o, rfl, hx, hs, hc⟩ := hI
    walk_at "sv"
    rw [ixs_len] at hx
    exact q x ⟨by omega, by omega, hc⟩

/-! ### is_word, need_words, put_word, lines -/
def isWordD : PyData → Bool
  | .str s => decide (1 ≤ s.length) && decide (s.length ≤ 12) && s.cps.toList.all fun c => decide (c ∈ someS.cps.toList)
  | _ => false
theorem isWordD_iff {s : Str} : isWordD (.str s) = true ↔ IsWord s := by
  unfold isWordD IsWord
  rw [Bool.and_eq_true, Bool.and_eq_true, decide_eq_true_eq, decide_eq_true_eq, List.all_eq_true, and_assoc]
  constructor
  · exact fun ⟨a, b, c⟩ => ⟨a, b, fun x hx => of_decide_eq_true (c x hx)⟩
  · exact fun ⟨a, b, c⟩ => ⟨a, b, fun x hx => decide_eq_true (c x hx)⟩
/-- no text too long to be asked for its length -/
def shortD : PyData → Prop
  | .str s => s.length ≤ 100000
  | _ => True
def G_is_word : GF := fun ls Po _ => ∃ x, ls = [.d x] ∧ shortD x ∧ Po (.d (.bool (isWordD x))) []
theorem ok_is_word (T : Txt K mg) : FnOk P w K mg base CX0 1 T.f_is_word T.fd_is_word ["thing"] (SpG K none G_is_word) := by
  refine T.d_is_word.F.ok sc_is_word (SpG.len (n := 1) fun ls Po Pe h => by obtain ⟨_, rfl, _⟩ := h; rfl) (fun cdv A outer s H vs Q E hr h => ⟨_, (pss_cons (ps_if (PW.pt (pw_or (pt_not (pt_val (pe_callB (k_isi K) (by rfl) T.b_isinstance (by decide +kernel) (pa_cons (pv 0) (pa_cons (pe_bltn (v := .ty "str") (by rfl) T.b_str (by decide +kernel) rfl) pa_nil))))) (pw_or (pt_cmpR op_lt (pe_callB (k_len K) (by rfl) T.b_len PySem.boot_len (pa_cons (pv 0) pa_nil)) pe_int (nomark _)) (pw_or1 (pt_cmpR op_gt (pe_callB (k_len K) (by rfl) T.b_len PySem.boot_len (pa_cons (pv 0) pa_nil)) (pe_glob (v := .int 12) rfl T.c_MOST_SIGNS ⟨_, rfl⟩) (nomark _)))))) (pss_one (ps_ret pe_bl)) pss_nil)
 (pss_cons (ps_for PassesOwn.never rfl (pi_str (pv 0)) (pg_name (i := 1) sc_is_word.nd rfl (Or.inl rfl)) (pss_one (ps_if (pt_cmpR op_notIn_sign (pv 1) (pe_glob (v := .str "!\"#$&'()*+,-./0123456789:;<=>?@ABCDEFGHIJKLMNOPQRSTUVWXYZ[\\]^_`abcdefghijklmnopqrstuvwxyz{|}~") rfl T.c_SIGNS ⟨_, rfl⟩) (by rfl)) (pss_one (ps_ret pe_bl)) pss_nil)))
 (pss_one (ps_ret pe_bl)))), rd_of h fun B ls Po Pe hB hG hE => ?_⟩)
  obtain ⟨x, rfl, hs, q⟩ := hG
  show WS B K _ [some (.d x), none] _
  cases x
  case str z =>
    have hl : z.length ≤ lim := Nat.le_trans hs (by decide)
    walk_at "sv"
    · have e : isWordD (.str z) = false := Bool.eq_false_iff.mpr fun h => by have := (isWordD_iff.mp h).1; omega
      rw [e] at q
      exact q
    · have e : isWordD (.str z) = false := Bool.eq_false_iff.mpr fun h => by have := (isWordD_iff.mp h).2.1; omega
      rw [e] at q
      exact q
    · refine ws_forS ?_
      walk_at "sv"
      refine ⟨fun pre ρ => (∃ o, ρ = [some (.d (.str z)), o]) ∧ ∀ c, c ∈ pre → c ∈ someS.cps.toList, ⟨⟨_, rfl⟩, fun c hc => nomatch hc⟩, fun pre a post ρ2 ha hI => ?_, fun ρ2 hI => ?_⟩
      · obtain ⟨⟨o, rfl⟩, hp⟩ := hI
        walk_at "sv"
        · intro c hc'
          rcases List.mem_append.mp hc' with h | h
          · exact hp c h
          · have : c = a := by simpa using h
            rw [this]
            exact hc
        · have e : isWordD (.str z) = false := Bool.eq_false_iff.mpr fun h => absurd ((isWordD_iff.mp h).2.2 a (by rw [ha]; simp)) hc
          rw [e] at q
          exact q
      · obtain ⟨⟨o, rfl⟩, hp⟩ := hI
        walk_at "sv"
        have e : isWordD (.str z) = true := isWordD_iff.mpr ⟨by omega, by omega, hp⟩
        rw [e] at q
        exact q
  all_goals
    walk_at "sv"
    exact q
def wordsD : PyData → Bool
  | .list xs => xs.all isWordD
  | _ => false
def shortsD : PyData → Prop
  | .list xs => ∀ x, x ∈ xs → shortD x
  | _ => True
def G_need_words (C : Addr) : GF := fun ls Po Pe => ∃ x, ls = [.d x] ∧ shortsD x ∧ (wordsD x = true → Po (.d .none) []) ∧ (wordsD x = false → Pe C)
theorem ok_need_words (T : Txt K mg) : FnOk P w K mg base (L2.CX P w) 2 T.f_need_words T.fd_need_words ["things"] (SpG K none (G_need_words T.a_NoTexts)) := by
  refine T.d_need_words.F.okX sc_need_words (SpG.len (n := 1) fun ls Po Pe h => by obtain ⟨_, rfl, _⟩ := h; rfl) (fun cdv A outer s H vs Q E hr h => ⟨_, (pss_cons (ps_if (pt_not (pt_val (pe_callB (k_isi K) (by rfl) T.b_isinstance (by decide +kernel) (pa_cons (pv 0) (pa_cons (pe_bltn (v := .ty "list") (by rfl) T.b_list (by decide +kernel) rfl) pa_nil))))) (pss_one (p_raise (takes_of rfl rfl rfl rfl) (pmk_own PySem.F.excBase_ValueError T.NoTexts.x T.NoTexts.g T.NoTexts.k (raises_own T.NoTexts.b T.NoTexts.t) (by exact rfl)))) pss_nil)
 (pss_one (ps_for (passes_of rfl) rfl (k_piL K rfl (pv 0)) (pg_name (i := 1) sc_need_words.nd rfl (Or.inl rfl)) (pss_one (ps_if (pt_not (pt_val (pe_call (ok_is_word T) hr (by rfl) T.d_is_word.g T.d_is_word.kp T.d_is_word.b .nil pass0 (pa_cons (pv 1) pa_nil)))) (pss_one (p_raise (takes_of rfl rfl rfl rfl) (pmk_own PySem.F.excBase_ValueError T.NoTexts.x T.NoTexts.g T.NoTexts.k (raises_own T.NoTexts.b T.NoTexts.t) (by exact rfl)))) pss_nil))))), rd_of h fun B ls Po Pe hB hG hE => ?_⟩)
  obtain ⟨x, rfl, hs, q1, q2⟩ := hG
  show WS B K _ [some (.d x), none] _
  cases x
  case list xs =>
    walk_at "sv"
    refine ws_forL id ?_
    walk_at "sv"
    refine ⟨xs, by rw [List.map_id], fun pre ρ => (∃ o, ρ = [some (.d (.list xs)), o]) ∧ ∀ y, y ∈ pre → isWordD y = true, ⟨⟨_, rfl⟩, fun c hc => nomatch hc⟩, fun pre a post ρ2 ha hI => ?_, fun ρ2 hI => ?_⟩
    · obtain ⟨⟨o, rfl⟩, hp⟩ := hI
      have hm : a ∈ xs := by rw [ha]; simp
      walk_at "sv"
      refine ⟨_, rfl, hs a hm, _, rfl, _, rfl, fk_not ⟨fun e => ?_, fun e => ?_⟩⟩
      · walk_at "sv"
        intro y hy
        rcases List.mem_append.mp hy with h | h
        · exact hp y h
        · have : y = a := by simpa using h
          rw [this]
          exact e
      · refine ws_raise (hE _ (q2 (Bool.eq_false_iff.mpr fun h => ?_)))
        have e2 := List.all_eq_true.mp (show xs.all isWordD = true from h) a hm
        exact absurd (e2.symm.trans e) (by decide)
    · obtain ⟨_, hp⟩ := hI
      exact q1 (List.all_eq_true.mpr hp)
  all_goals
    walk_at "sv"
    exact ws_raise (hE _ (q2 rfl))
/-! ### put_word, lines -/
def spS : Str := (" " : String)
theorem spS_len : spS.length = 1 := by decide +kernel
/-- a word more: into the last line, where it has room, else into a new one -/
def putW (w : Int) (fs : List Str) (x : Str) : List Str :=
  match fs.getLast? with
  | none => [x]
  | some l => if (l.length : Int) + 1 + x.length ≤ w then fs.dropLast ++ [l ++ spS ++ x] else fs ++ [x]
theorem putW_nil (w : Int) (x : Str) : putW w [] x = [x] := rfl
theorem putW_in {w : Int} {gs : List Str} {l x : Str} (h : (l.length : Int) + 1 + x.length ≤ w) : putW w (gs ++ [l]) x = gs ++ [l ++ spS ++ x] := by
  unfold putW
  rw [List.getLast?_concat]
  simp only [h, if_true, List.dropLast_concat]
theorem putW_out {w : Int} {gs : List Str} {l x : Str} (h : ¬ (l.length : Int) + 1 + x.length ≤ w) : putW w (gs ++ [l]) x = gs ++ [l] ++ [x] := by
  unfold putW
  rw [List.getLast?_concat]
  simp only [h, if_false]
theorem snoc_cases {α : Type} (l : List α) : l = [] ∨ ∃ g x, l = g ++ [x] := by
  rcases List.eq_nil_or_concat l with h | ⟨g, x, h⟩
  · exact .inl h
  · exact .inr ⟨g, x, by rw [h, List.concat_eq_append]⟩
theorem set_snoc {α : Type} (g : List α) (x y : α) : (g ++ [x]).set g.length y = g ++ [y] := by
  rw [List.set_append_right _ _ (Nat.le_refl _), Nat.sub_self]
  rfl
theorem ixN_snoc {α : Type} (g : List α) (x : α) : ixN (g ++ [x]).length (-1) = some g.length := by
  unfold ixN
  rw [List.length_append, if_neg (by omega), if_pos (by simp only [List.length_cons, List.length_nil]; omega)]
  congr 1
  simp only [List.length_cons, List.length_nil]
  omega
def G_put_word : GF := fun ls Po _ => ∃ (fs : List Str) (x : Str) (w : Int), ls = [.own (fs.map .str), .d (.str x), .d (.int w)] ∧ (fs.length ≤ 10000 ∧ x.length ≤ 10000 ∧ ∀ f, f ∈ fs → f.length ≤ 100000 ∧ PyData.strOk f = true) ∧ ∀ b, Po (.d (.bool b)) ((putW w fs x).map .str)
theorem ok_put_word (T : Txt K mg) : FnOk P w K mg base CX0 1 T.f_put_word T.fd_put_word ["found", "word", "wide"] (SpG K (some 0) G_put_word) := by
  refine T.d_put_word.F.ok sc_put_word (SpG.len (n := 3) fun ls Po Pe h => by obtain ⟨_, _, _, rfl, _⟩ := h; rfl) (fun cdv A outer s H vs Q E hr h => ⟨_, (pss_cons (ps_if (PW.pt (pw_and (pt_cmpR (k_neD K rfl hr.units) (pv 0) (pe_lst pa_nil) (nomark _)) (pw_and1 (pt_cmpR op_le (pe_op (k_plus K) (pe_op (k_plus K) (pe_callB (k_len K) (by rfl) T.b_len PySem.boot_len (pa_cons (pe_ix (k_ix K) (pv 0) (pe_un un_neg pe_int) (fun _ _ => rfl)) pa_nil)) pe_int) (pe_callB (k_len K) (by rfl) T.b_len PySem.boot_len (pa_cons (pv 1) pa_nil))) (pv 2) (nomark _))))) (pss_cons (ps_asg (pe_op (k_plus K) (pe_op (k_plus K) (pe_ix (k_ix K) (pv 0) (pe_un un_neg pe_int) (fun _ _ => rfl)) pe_str) (pv 1)) (pg_sub (pv 0) (pe_un un_neg pe_int) set_list))
 (pss_one (ps_ret pe_bl))) pss_nil)
 (pss_cons (ps_expr (k_bm K rfl PySem.F.plainAttrs_list PySem.F.slot_list_append PySem.F.type_list_append mt_append (pv 0) (pa_cons (pv 1) pa_nil)))
 (pss_one (ps_ret pe_bl)))), rd_of h fun B ls Po Pe hB hG hE => ?_⟩)
  obtain ⟨fs, x, w, rfl, ⟨h1, h2, h3⟩, q⟩ := hG
  show WS B K _ [some (.own (fs.map .str)), some (.d (.str x)), some (.d (.int w))] _
  walk_at "sv"
  refine ⟨ok2O (OkD.strs fun f hf => (h3 f hf).2) OkD.nil, ?_⟩
  rcases snoc_cases fs with rfl | ⟨gs, l, rfl⟩
  · walk_at "sv"
    · refine ⟨by decide, ?_⟩
      walk_at "sv"
      exact q true
    · exact absurd rfl hc
  · have hl := h3 l (by simp)
    have e : (gs ++ [l]).map PyData.str = gs.map .str ++ [.str l] := by rw [List.map_append]; rfl
    have gl : atI ((gs ++ [l]).map PyData.str) (-1) = some (.str l) := by rw [e]; exact atI_last _ _
    have sl := spS_len
    walk_at "sv"
    · exact absurd hc (by simp)
    · refine ⟨_, _, _, rfl, rfl, gl, ?_⟩
      refine ⟨by show l.length ≤ 1000000; omega, ?_⟩
      walk_at "sv"
      · refine ⟨_, _, _, rfl, rfl, gl, ?_⟩
        walk_at "sv"
        · show l.length + spS.length ≤ 1000000
          omega
        · show (l ++ spS).length + x.length ≤ 1000000
          rw [app_len]
          omega
        · refine ⟨_, _, _, rfl, rfl, by rw [e]; exact ixN_snoc _ _, ?_⟩
          walk_at "sv"
          have e2 := q false
          rw [putW_in hc, List.map_append] at e2
          show Po _ (((gs ++ [l]).map PyData.str).set (gs.map PyData.str).length _)
          rw [e, set_snoc]
          exact e2
      · refine ⟨by rw [List.length_map]; show _ < 1000000; omega, ?_⟩
        walk_at "sv"
        have e2 := q true
        rw [putW_out hc, List.map_append] at e2
        exact e2
theorem snoc_ind {α : Type} {P : List α → Prop} (h0 : P []) (hs : ∀ l x, P l → P (l ++ [x])) : ∀ l, P l := by
  have key : ∀ n (l : List α), l.length = n → P l := by
    intro n
    induction n with
    | zero => intro l h; rw [List.eq_nil_of_length_eq_zero h]; exact h0
    | succ n ih =>
      intro l h
      rcases snoc_cases l with rfl | ⟨g, x, rfl⟩
      · cases h
      · refine hs g x (ih g ?_)
        rw [List.length_append] at h
        simp only [List.length_cons, List.length_nil] at h
        omega
  exact fun l => key _ l rfl
/-! the lines of words -/
def linesW (w : Int) (ws : List Str) : List Str := ws.foldl (putW w) []
theorem linesW_snoc (w : Int) (ws : List Str) (x : Str) : linesW w (ws ++ [x]) = putW w (linesW w ws) x := by
  unfold linesW
  rw [List.foldl_append]
  rfl
theorem putW_mem {w : Int} {fs : List Str} {x f : Str} (h : f ∈ putW w fs x) : f ∈ fs ∨ f = x ∨ ∃ l, l ∈ fs ∧ f = l ++ spS ++ x ∧ (l.length : Int) + 1 + x.length ≤ w := by
  rcases snoc_cases fs with rfl | ⟨gs, l, rfl⟩
  · rw [putW_nil] at h
    exact .inr (.inl (by simpa using h))
  · by_cases c : (l.length : Int) + 1 + x.length ≤ w
    · rw [putW_in c] at h
      rcases List.mem_append.mp h with h | h
      · exact .inl (List.mem_append_left _ h)
      · exact .inr (.inr ⟨l, by simp, by simpa using h, c⟩)
    · rw [putW_out c] at h
      rcases List.mem_append.mp h with h | h
      · exact .inl h
      · exact .inr (.inl (by simpa using h))
theorem putW_len {w : Int} {fs : List Str} {x : Str} : (putW w fs x).length ≤ fs.length + 1 := by
  rcases snoc_cases fs with rfl | ⟨gs, l, rfl⟩
  · rw [putW_nil]; simp
  · by_cases c : (l.length : Int) + 1 + x.length ≤ w
    · rw [putW_in c]; simp
    · rw [putW_out c]; simp
theorem strOk_app {a b : Str} (ha : PyData.strOk a = true) (hb : PyData.strOk b = true) : PyData.strOk (a ++ b) = true := by
  unfold PyData.strOk at *
  rw [← Array.all_toList] at *
  rw [app_list, List.all_append, ha, hb]
  rfl
theorem strOk_word {x : Str} (h : IsWord x) : PyData.strOk x = true := by
  unfold PyData.strOk
  rw [← Array.all_toList, List.all_eq_true]
  intro c hc
  have h2 : someS.cps.toList.all (fun c => decide (c < 1114112)) = true := by decide +kernel
  exact List.all_eq_true.mp h2 c (h.2.2 c hc)
theorem strOk_sp : PyData.strOk spS = true := by decide +kernel
/-- what every line is: not too long, signs as they should be, within the width where each word is -/
structure LineOk (w : Int) (n : Nat) (f : Str) : Prop where
  len : f.length ≤ 13 * n
  ok : PyData.strOk f = true
theorem lines_ok {w : Int} : ∀ {ws : List Str}, (∀ x, x ∈ ws → IsWord x) → ∀ f, f ∈ linesW w ws → LineOk w ws.length f := by
  intro ws
  induction ws using snoc_ind with
  | h0 => intro _ f hf; cases hf
  | hs ws x ih =>
    intro hw f hf
    have hx := hw x (by simp)
    have ih' := ih fun y hy => hw y (List.mem_append_left _ hy)
    rw [linesW_snoc] at hf
    rw [List.length_append]
    simp only [List.length_cons, List.length_nil]
    rcases putW_mem hf with h | rfl | ⟨l, hl, rfl, _⟩
    · exact ⟨by have := (ih' f h).len; omega, (ih' f h).ok⟩
    · exact ⟨by have := hx.2.1; omega, strOk_word hx⟩
    · refine ⟨?_, strOk_app (strOk_app (ih' l hl).ok strOk_sp) (strOk_word hx)⟩
      rw [app_len, app_len, spS_len]
      have := (ih' l hl).len
      have := hx.2.1
      omega
theorem lines_len {w : Int} : ∀ (ws : List Str), (linesW w ws).length ≤ ws.length := by
  intro ws
  induction ws using snoc_ind with
  | h0 => exact Nat.le_refl _
  | hs ws x ih =>
    rw [linesW_snoc, List.length_append]
    exact Nat.le_trans putW_len (Nat.add_le_add_right ih 1)
theorem wordsD_of {ws : List Str} (h : ∀ x, x ∈ ws → IsWord x) : wordsD (.list (ws.map .str)) = true := by
  show (ws.map PyData.str).all isWordD = true
  rw [List.all_map, List.all_eq_true]
  exact fun x hx => isWordD_iff.mpr (h x hx)
def G_lines (aT aR : Addr) : GF := fun ls Po Pe => ∃ (x : PyData) (w : Int), ls = [.d x, .d (.int w)] ∧ shortsD x ∧
  ((wordsD x = false ∧ Pe aT) ∨ ∃ ws : List Str, x = .list (ws.map .str) ∧ (∀ v, v ∈ ws → IsWord v) ∧ ws.length ≤ 700 ∧
    ((∀ v, v ∈ ws → (v.length : Int) ≤ w) → Po (.new ((linesW w ws).map .str)) []) ∧ ((∃ v, v ∈ ws ∧ ¬ (v.length : Int) ≤ w) → Pe aR))
theorem ok_lines (T : Txt K mg) : FnOk P w K mg base (L2.CX P w) 3 T.f_lines T.fd_lines ["words", "wide"] (SpG K none (G_lines T.a_NoTexts T.a_NoRoom)) := by
  refine T.d_lines.F.okX sc_lines (SpG.len (n := 2) fun ls Po Pe h => by obtain ⟨_, _, rfl, _⟩ := h; rfl) (fun cdv A outer s H vs Q E hr h => ⟨_, (pss_cons (ps_expr (pe_call (ok_need_words T) hr (by rfl) T.d_need_words.g T.d_need_words.kp T.d_need_words.b .nil (passes_call (takes_of rfl rfl rfl rfl) fun _ _ _ _ h => h) (pa_cons (pv 0) pa_nil)))
 (pss_cons (ps_setO (i := 2) sc_lines.nd rfl (.inl rfl) (pe_lst pa_nil))
 (pss_cons (ps_for (passes_of rfl) rfl (k_piL K rfl (pv 0)) (pg_name (i := 3) sc_lines.nd rfl (Or.inl rfl)) (pss_cons (ps_if (pt_cmpR op_gt (pe_callB (k_len K) (by rfl) T.b_len PySem.boot_len (pa_cons (pv 3) pa_nil)) (pv 1) (nomark _)) (pss_one (p_raise (takes_of rfl rfl rfl rfl) (pmk_own PySem.F.excBase_ValueError T.NoRoom.x T.NoRoom.g T.NoRoom.k (raises_own T.NoRoom.b T.NoRoom.t) (by exact rfl)))) pss_nil)
 (pss_one (ps_expr (pe_call (ok_put_word T) (hr.mono (by decide)) (by rfl) T.d_put_word.g T.d_put_word.kp T.d_put_word.b .nil pass0 (pa_cons (pv 2) (pa_cons (pv 3) (pa_cons (pv 1) pa_nil))))))))
 (pss_one (ps_ret (pv 2)))))), rd_of h fun B ls Po Pe hB hG hE => ?_⟩)
  obtain ⟨x, w, rfl, hs, q⟩ := hG
  show WS B K _ [some (.d x), some (.d (.int w)), none, none] _
  walk_at "sv"
  refine ⟨_, Pe, rfl, ⟨x, rfl, hs, fun hw => ?_, fun hw => ?_⟩, hE⟩
  · rcases q with ⟨hn, _⟩ | ⟨ws, rfl, hws, hl, q1, q2⟩
    · rw [hn] at hw; cases hw
    walk_at "sv"
    refine ws_forL PyData.str ?_
    walk_at "sv"
    refine ⟨fun pre ρ => (∃ o, ρ = [some (.d (.list (ws.map .str))), some (.d (.int w)), some (.own ((linesW w pre).map .str)), o]) ∧ ∀ v, v ∈ pre → (v.length : Int) ≤ w, ⟨⟨_, rfl⟩, fun c hc => nomatch hc⟩, fun pre a post ρ2 ha hI => ?_, fun ρ2 hI => ?_⟩
    · obtain ⟨⟨o, rfl⟩, hp⟩ := hI
      have hm : a ∈ ws := by rw [ha]; simp
      have hpre : ∀ v, v ∈ pre → IsWord v := fun v hv => hws v (by rw [ha]; exact List.mem_append_left _ hv)
      have hpl : pre.length ≤ 700 := by
        have := congrArg List.length ha
        rw [List.length_append] at this
        omega
      have ha12 := (hws a hm).2.1
      walk_at "sv"
      · exact ws_raise (hE _ (q2 ⟨a, hm, by omega⟩))
      · refine ⟨linesW w pre, a, w, rfl, ⟨Nat.le_trans (lines_len pre) (by omega), by omega, fun f hf => ?_⟩, fun b => ?_⟩
        · have k := lines_ok hpre f hf
          exact ⟨by have := k.len; omega, k.ok⟩
        · refine ⟨⟨_, by rw [linesW_snoc]; rfl⟩, fun v hv => ?_⟩
          rcases List.mem_append.mp hv with h | h
          · exact hp v h
          · have : v = a := by simpa using h
            rw [this]
            omega
    · obtain ⟨⟨o, rfl⟩, hp⟩ := hI
      walk_at "sv"
      exact q1 hp
  · rcases q with ⟨_, h⟩ | ⟨ws, rfl, hws, _⟩
    · exact h
    · rw [wordsD_of hws] at hw; cases hw

/-! ### no breaking into lines has fewer of them -/
def tot (ws : List Str) : Int := (ws.map fun x => (x.length : Int) + 1).sum - 1
theorem tot_nil : tot [] = -1 := rfl
theorem tot_cons (x : Str) (ws : List Str) : tot (x :: ws) = tot ws + 1 + x.length := by
  unfold tot
  rw [List.map_cons, List.sum_cons]
  omega
theorem tot_snoc (ws : List Str) (x : Str) : tot (ws ++ [x]) = tot ws + 1 + x.length := by
  unfold tot
  rw [List.map_append, List.sum_append]
  simp only [List.map_cons, List.map_nil, List.sum_cons, List.sum_nil]
  omega
theorem tot_ge (ws : List Str) : -1 ≤ tot ws := by
  induction ws with
  | nil => exact Int.le_refl _
  | cons x ws ih => rw [tot_cons]; omega
theorem tot_app (a b : List Str) : tot b ≤ tot (a ++ b) := by
  induction a with
  | nil => exact Int.le_refl _
  | cons x a ih =>
    rw [List.cons_append, tot_cons]
    omega
/-- the last line's length -/
def lastL (fs : List Str) : Int := match fs.getLast? with | none => -1 | some l => l.length
theorem lastL_snoc (gs : List Str) (l : Str) : lastL (gs ++ [l]) = l.length := by
  unfold lastL
  rw [List.getLast?_concat]
theorem joined_len (l x : Str) : ((l ++ spS ++ x).length : Int) = l.length + 1 + x.length := by
  rw [app_len, app_len, spS_len]
  omega
theorem seg_most {w : Int} (p : List Str) : ∀ seg : List Str, tot seg ≤ w →
    (linesW w (p ++ seg)).length = (linesW w p).length ∨ ((linesW w (p ++ seg)).length = (linesW w p).length + 1 ∧ lastL (linesW w (p ++ seg)) ≤ tot seg) := by
  intro seg
  induction seg using snoc_ind with
  | h0 => intro _; rw [List.append_nil]; exact .inl rfl
  | hs seg x ih =>
    intro ht
    rw [tot_snoc] at ht ⊢
    have ih' := ih (by omega)
    have t0 := tot_ge seg
    rw [← List.append_assoc, linesW_snoc]
    rcases snoc_cases (linesW w (p ++ seg)) with e | ⟨gs, l, e⟩
    · rw [e] at ih' ⊢
      rw [putW_nil]
      right
      rcases ih' with h | ⟨h, _⟩
      · exact ⟨by rw [← h]; rfl, by rw [show [x] = [] ++ [x] from rfl, lastL_snoc]; omega⟩
      · simp at h
    · rw [e] at ih' ⊢
      by_cases c : (l.length : Int) + 1 + x.length ≤ w
      · rw [putW_in c]
        rw [lastL_snoc] at ih' ⊢
        rcases ih' with h | ⟨h, hl⟩
        · left; rw [← h]; simp
        · right
          exact ⟨by rw [← h]; simp, by rw [joined_len]; omega⟩
      · rw [putW_out c]
        rw [lastL_snoc] at ih' ⊢
        rcases ih' with h | ⟨h, hl⟩
        · right
          exact ⟨by rw [List.length_append, h]; rfl, by omega⟩
        · exact absurd (show (l.length : Int) + 1 + x.length ≤ w by omega) c
theorem seg_last {w : Int} : ∀ ws : List Str, (∀ v, v ∈ ws → (v.length : Int) ≤ w) → ws ≠ [] → ∃ p seg, ws = p ++ seg ∧ seg ≠ [] ∧ tot seg ≤ w ∧ (linesW w p).length + 1 = (linesW w ws).length ∧ lastL (linesW w ws) = tot seg := by
  intro ws
  induction ws using snoc_ind with
  | h0 => intro _ h; exact absurd rfl h
  | hs ws x ih =>
    intro hf _
    have hx := hf x (by simp)
    have hf' : ∀ v, v ∈ ws → (v.length : Int) ≤ w := fun v hv => hf v (List.mem_append_left _ hv)
    have one : tot [x] = x.length := by rw [tot_cons, tot_nil]; omega
    rw [linesW_snoc]
    rcases snoc_cases (linesW w ws) with e | ⟨gs, l, e⟩
    · rw [e, putW_nil]
      exact ⟨ws, [x], rfl, by simp, by rw [one]; exact hx, by rw [e]; rfl, by rw [one, show [x] = [] ++ [x] from rfl, lastL_snoc]⟩
    · by_cases c : (l.length : Int) + 1 + x.length ≤ w
      · have hne : ws ≠ [] := fun z => by subst z; simp [linesW] at e
        obtain ⟨p, seg, hps, hs, ht, hg, hl⟩ := ih hf' hne
        rw [e, lastL_snoc] at hl
        rw [e, putW_in c]
        refine ⟨p, seg ++ [x], by rw [hps, List.append_assoc], by simp, by rw [tot_snoc]; omega, by rw [hg, e]; simp, ?_⟩
        rw [lastL_snoc, joined_len, tot_snoc]
        omega
      · rw [e, putW_out c]
        exact ⟨ws, [x], rfl, by simp, by rw [one]; exact hx, by rw [e]; simp, by rw [one, lastL_snoc]⟩
/-- the first n words' number of lines -/
def gN (w : Int) (ws : List Str) (n : Nat) : Nat := (linesW w (ws.take n)).length
theorem take_split (ws : List Str) {f n : Nat} (h : f ≤ n) : ws.take n = ws.take f ++ (ws.take n).drop f := by
  have e := List.take_append_drop f (ws.take n)
  rw [List.take_take, Nat.min_eq_left h] at e
  exact e.symm
theorem gN_le {w : Int} {ws : List Str} {f n : Nat} (h : f ≤ n) (ht : tot ((ws.take n).drop f) ≤ w) : gN w ws n ≤ gN w ws f + 1 := by
  have k := seg_most (w := w) (ws.take f) ((ws.take n).drop f) ht
  rw [← take_split ws h] at k
  unfold gN
  rcases k with k | ⟨k, _⟩ <;> omega
theorem gN_at {w : Int} {ws : List Str} {n : Nat} (hn : n ≤ ws.length) (h0 : 0 < n) (hf : ∀ v, v ∈ ws → (v.length : Int) ≤ w) : ∃ f, f < n ∧ tot ((ws.take n).drop f) ≤ w ∧ gN w ws f + 1 = gN w ws n := by
  have hl : (ws.take n).length = n := by rw [List.length_take]; omega
  obtain ⟨p, seg, hps, hs, ht, hg, _⟩ := seg_last (w := w) (ws.take n) (fun v hv => hf v (List.mem_of_mem_take hv)) (fun z => by rw [z] at hl; simp at hl; omega)
  have hlen := congrArg List.length hps
  rw [hl, List.length_append] at hlen
  have hsl : 0 < seg.length := List.length_pos_iff.mpr hs
  have hp : p = ws.take p.length := by
    have e := congrArg (List.take p.length) hps
    rw [List.take_left, List.take_take, Nat.min_eq_left (by omega)] at e
    exact e.symm
  refine ⟨p.length, by omega, ?_, ?_⟩
  · rw [hps, List.drop_left]; exact ht
  · unfold gN
    rw [← hp, hg]
theorem tot_drop (ws : List Str) {m n : Nat} (h : m < n) (hn : n ≤ ws.length) : tot ((ws.take n).drop m) = tot ((ws.take n).drop (m + 1)) + 1 + (ws[m]'(by omega)).length := by
  have hl : m < (ws.take n).length := by rw [List.length_take]; omega
  rw [List.drop_eq_getElem_cons hl, tot_cons, List.getElem_take]
theorem tot_mono (ws : List Str) {a b n : Nat} (h : a ≤ b) : tot ((ws.take n).drop b) ≤ tot ((ws.take n).drop a) := by
  have e : (ws.take n).drop a = ((ws.take n).drop a).take (b - a) ++ (ws.take n).drop b := by
    have := (List.take_append_drop (b - a) ((ws.take n).drop a)).symm
    rw [List.drop_drop, show a + (b - a) = b by omega] at this
    exact this
  rw [e]
  exact tot_app _ _
theorem gN_zero (w : Int) (ws : List Str) : gN w ws 0 = 0 := rfl
def leastD (w : Int) (ws : List Str) (n : Nat) : List PyData := (List.range n).map fun (i : Nat) => .int (gN w ws i : Int)
theorem leastD_len {w : Int} {ws : List Str} {n : Nat} : (leastD w ws n).length = n := by unfold leastD; rw [List.length_map, List.length_range]
theorem leastD_at {w : Int} {ws : List Str} {n i : Nat} (h : i < n) : (leastD w ws n)[i]? = some (.int (gN w ws i : Int)) := by
  unfold leastD
  rw [List.getElem?_map, List.getElem?_range h]
  rfl
theorem leastD_snoc {w : Int} {ws : List Str} {n : Nat} : leastD w ws (n + 1) = leastD w ws n ++ [.int (gN w ws n : Int)] := by
  unfold leastD
  rw [List.range_succ, List.map_append]
  rfl
theorem ixs_split {lo : Int} {n : Nat} {pre : List Int} {a : Int} {post : List Int} (h : ixs lo n = pre ++ a :: post) : a = lo + (pre.length : Int) ∧ pre.length < n := by
  have hl := congrArg List.length h
  rw [ixs_len, List.length_append, List.length_cons] at hl
  have e : (ixs lo n)[pre.length]? = some a := by rw [h, List.getElem?_append_right (Nat.le_refl _), Nat.sub_self]; rfl
  rw [ixs_at, if_pos (by omega)] at e
  exact ⟨(Option.some.inj e).symm, by omega⟩

/-! ### the lines put together by blanks are the words put together -/
open TL (joinL tl tl_join join_eq)
theorem joinL_snoc {S x : List Nat} : ∀ {fs : List (List Nat)}, fs ≠ [] → joinL S (fs ++ [x]) = joinL S fs ++ S ++ x
  | [], h => absurd rfl h
  | [p], _ => by simp [joinL]
  | p :: q :: r, _ => by
    have ih := joinL_snoc (S := S) (x := x) (fs := q :: r) (by simp)
    show p ++ (S ++ joinL S ((q :: r) ++ [x])) = (p ++ (S ++ joinL S (q :: r))) ++ S ++ x
    rw [ih]
    simp only [List.append_assoc]
theorem linesW_ne {w : Int} {ws : List Str} (h : ws ≠ []) : linesW w ws ≠ [] := by
  rcases snoc_cases ws with rfl | ⟨g, x, rfl⟩
  · exact absurd rfl h
  · rw [linesW_snoc]
    rcases snoc_cases (linesW w g) with e | ⟨gs, l, e⟩
    · rw [e, putW_nil]; simp
    · rw [e]
      by_cases c : (l.length : Int) + 1 + x.length ≤ w
      · rw [putW_in c]; simp
      · rw [putW_out c]; simp
theorem join_lines {w : Int} : ∀ ws : List Str, joinL (tl spS) ((linesW w ws).map tl) = joinL (tl spS) (ws.map tl) := by
  intro ws
  induction ws using snoc_ind with
  | h0 => rfl
  | hs ws x ih =>
    rw [linesW_snoc, List.map_append]
    by_cases hw : ws = []
    · subst hw
      rfl
    · have hne : ws.map tl ≠ [] := fun z => hw (List.map_eq_nil_iff.mp z)
      rw [List.map_cons, List.map_nil, joinL_snoc hne, ← ih]
      rcases snoc_cases (linesW w ws) with e | ⟨gs, l, e⟩
      · exact absurd e (linesW_ne hw)
      · rw [e]
        by_cases c : (l.length : Int) + 1 + x.length ≤ w
        · rw [putW_in c, List.map_append, List.map_append]
          simp only [List.map_cons, List.map_nil]
          by_cases hg : gs.map tl = []
          · rw [hg]
            show tl (l ++ spS ++ x) = tl l ++ tl spS ++ tl x
            unfold tl
            rw [app_list, app_list]
          · rw [joinL_snoc hg, joinL_snoc hg]
            have e2 : tl (l ++ spS ++ x) = tl l ++ tl spS ++ tl x := by
              unfold tl
              rw [app_list, app_list]
            rw [e2]
            simp only [List.append_assoc]
        · rw [putW_out c, List.map_append (l₁ := gs ++ [l])]
          simp only [List.map_cons, List.map_nil]
          exact joinL_snoc (by simp)
theorem txt_join_lines {w : Int} (ws : List Str) : Txt.join spS (linesW w ws) = Txt.join spS ws := by
  rw [join_eq, join_eq]
  have e := join_lines (w := w) ws
  rw [← tl_join, ← tl_join] at e
  cases h1 : Str.join spS (linesW w ws) with
  | mk a =>
    cases h2 : Str.join spS ws with
    | mk b =>
      rw [h1, h2] at e
      exact congrArg Str.mk (Array.toList_inj.mp e)
theorem sum_le {n : Nat} : ∀ {ws : List Str}, (∀ v, v ∈ ws → v.length ≤ n) → (ws.map (·.length)).sum ≤ n * ws.length
  | [], _ => Nat.le_refl _
  | x :: ws, h => by
    have ih := sum_le (ws := ws) fun v hv => h v (List.mem_cons_of_mem _ hv)
    have hx := h x List.mem_cons_self
    rw [List.map_cons, List.sum_cons, List.length_cons, Nat.mul_succ]
    omega
theorem mem_joinL {S : List Nat} {c : Nat} : ∀ {ps : List (List Nat)}, c ∈ joinL S ps → c ∈ S ∨ ∃ p, p ∈ ps ∧ c ∈ p
  | [], h => by cases h
  | [p], h => .inr ⟨p, List.mem_cons_self, h⟩
  | p :: q :: r, h => by
    rcases List.mem_append.mp (show c ∈ p ++ (S ++ joinL S (q :: r)) from h) with h | h
    · exact .inr ⟨p, List.mem_cons_self, h⟩
    · rcases List.mem_append.mp h with h | h
      · exact .inl h
      · rcases mem_joinL h with h | ⟨p', h1, h2⟩
        · exact .inl h
        · exact .inr ⟨p', List.mem_cons_of_mem _ h1, h2⟩
theorem strOk_join {ws : List Str} (h : ∀ w, w ∈ ws → PyData.strOk w = true) : PyData.strOk (Txt.join spS ws) = true := by
  have hs : ∀ (x : Str), PyData.strOk x = true ↔ ∀ c, c ∈ tl x → c < 0x110000 := fun x => by
    unfold PyData.strOk
    rw [← Array.all_toList, List.all_eq_true]
    exact ⟨fun k c hc => of_decide_eq_true (k c hc), fun k c hc => decide_eq_true (k c hc)⟩
  rw [hs, join_eq, tl_join]
  intro c hc
  rcases mem_joinL hc with h1 | ⟨p, h1, h2⟩
  · exact (hs spS).mp strOk_sp c h1
  · obtain ⟨w, hw, rfl⟩ := List.mem_map.mp h1
    exact (hs w).mp (h w hw) c h2
theorem lines_fit {w : Int} : ∀ {ws : List Str}, (∀ v, v ∈ ws → (v.length : Int) ≤ w) → ∀ f, f ∈ linesW w ws → (f.length : Int) ≤ w := by
  intro ws
  induction ws using snoc_ind with
  | h0 => intro _ f hf; cases hf
  | hs ws x ih =>
    intro hw f hf
    rw [linesW_snoc] at hf
    rcases putW_mem hf with h | rfl | ⟨l, hl, rfl, c⟩
    · exact ih (fun v hv => hw v (List.mem_append_left _ hv)) f h
    · exact hw f (by simp)
    · rw [joined_len]; exact c

/-! ### the words of a script -/
theorem cutD_len {α : Type} (xs : List α) (lo hi : Option Int) : (cutD xs lo hi).length ≤ xs.length := by
  unfold cutD
  rw [List.length_take, List.length_drop]
  omega
theorem words_of {xs : List Int} {ys : List PyData} (h : Sel (fun (_ : Int) o => ∃ x, IsWord x ∧ o = some (.str x)) xs ys) : ∃ ws : List Str, ys = ws.map .str ∧ (∀ v, v ∈ ws → IsWord v) ∧ ws.length = xs.length := by
  induction h with
  | nil => exact ⟨[], rfl, fun v hv => (nomatch hv), rfl⟩
  | @yes a as y ys _ hp ih =>
    obtain ⟨ws, rfl, hw, hl⟩ := ih
    obtain ⟨x, hx, e⟩ := hp
    cases e
    refine ⟨ws ++ [x], by rw [List.map_append]; rfl, fun v hv => ?_, by rw [List.length_append, List.length_append, hl]; rfl⟩
    rcases List.mem_append.mp hv with h | h
    · exact hw v h
    · rw [show v = x by simpa using h]; exact hx
  | no _ hp => obtain ⟨x, _, e⟩ := hp; cases e
theorem cutD_mem {α : Type} {xs : List α} {lo hi : Option Int} {x : α} (h : x ∈ cutD xs lo hi) : x ∈ xs := List.mem_of_mem_drop (List.mem_of_mem_take h)

/-! ### taken, next_stair, text_stairs -/
def sizD (ws : List Str) : PyData := .list (ws.map fun x => .int (x.length : Int))
def cW (ws : List Str) (w : Int) : Nat := (linesW w ws).length
theorem cW_anti {ws : List Str} {w w' : Int} (h : w ≤ w') (hf : ∀ v, v ∈ ws → (v.length : Int) ≤ w) : cW ws w' ≤ cW ws w := by
  have key : ∀ n, n ≤ ws.length → gN w' ws n ≤ gN w ws n := by
    intro n
    induction n using Nat.strongRecOn with
    | ind n ih =>
      intro hn
      by_cases h0 : n = 0
      · subst h0; exact Nat.le_refl _
      · obtain ⟨f, h1, h2, h3⟩ := gN_at (w := w) (ws := ws) hn (by omega) hf
        have k1 := gN_le (w := w') (ws := ws) (f := f) (n := n) (by omega) (by omega)
        have k2 := ih f h1 (by omega)
        omega
  have e := key ws.length (Nat.le_refl _)
  unfold gN at e
  rw [List.take_length] at e
  exact e
theorem cW_pos {ws : List Str} {w : Int} (h : ws ≠ []) : 1 ≤ cW ws w := List.length_pos_iff.mpr (linesW_ne h)
theorem cW_tot {ws : List Str} {w : Int} (h : ws ≠ []) (ht : tot ws ≤ w) : cW ws w = 1 := by
  have k := gN_le (w := w) (ws := ws) (f := 0) (n := ws.length) (by omega) (by rw [List.take_length]; exact ht)
  unfold gN at k
  rw [List.take_length] at k
  have := cW_pos (w := w) h
  have e0 : (linesW w (ws.take 0)).length = 0 := rfl
  unfold cW at *
  omega
def G_taken : GF := fun ls Po _ => ∃ (ws : List Str) (w : Int), ls = [.d (sizD ws), .d (.int w)] ∧ (ws ≠ [] ∧ ws.length ≤ 700 ∧ ∀ v, v ∈ ws → (v.length : Int) ≤ w) ∧ Po (.d (.int (cW ws w : Int))) []
theorem ok_taken (T : Txt K mg) : FnOk P w K mg base CX0 1 T.f_taken T.fd_taken ["sizes", "wide"] (SpG K none G_taken) := by
  refine T.d_taken.F.ok sc_taken (SpG.len (n := 2) fun ls Po Pe h => by obtain ⟨_, _, rfl, _⟩ := h; rfl) (fun cdv A outer s H vs Q E hr h => ⟨_, (pss_cons (ps_set (i := 2) sc_taken.nd rfl (.inl rfl) pe_int)
 (pss_cons (ps_set (i := 3) sc_taken.nd rfl (.inl rfl) (pe_un un_neg pe_int))
 (pss_cons (ps_for PassesOwn.never rfl (k_piL K rfl (pv 0)) (pg_name (i := 4) sc_taken.nd rfl (Or.inl rfl)) (pss_cons (ps_if (pt_cmpR op_gt (pe_op (k_plus K) (pe_op (k_plus K) (pv 3) pe_int) (pv 4)) (pv 1) (nomark _)) (pss_cons (ps_aug (i := 2) sc_taken.nd rfl (.inl rfl) pe_int ip_add)
 (pss_one (ps_set (i := 3) sc_taken.nd rfl (.inl rfl) (pe_un un_neg pe_int)))) pss_nil)
 (pss_one (ps_aug (i := 3) sc_taken.nd rfl (.inl rfl) (pe_op (k_plus K) pe_int (pv 4)) ip_add))))
 (pss_one (ps_ret (pv 2)))))), rd_of h fun B ls Po Pe hB hG hE => ?_⟩)
  obtain ⟨ws, w, rfl, ⟨hne, hl, hf⟩, q⟩ := hG
  show WS B K _ [some (.d (.list (ws.map fun x => .int (x.length : Int)))), some (.d (.int w)), none, none, none] _
  walk_at "sv"
  refine ws_forL (fun x : Str => PyData.int (x.length : Int)) ?_
  walk_at "sv"
  refine ⟨fun pre ρ => ∃ (m : Nat) (o : Option L), ρ = [some (.d (.list (ws.map fun x => .int (x.length : Int)))), some (.d (.int w)), some (.d (.int (m : Int))), some (.d (.int (lastL (linesW w pre)))), o] ∧ ((pre = [] ∧ m = 1) ∨ (pre ≠ [] ∧ m = (linesW w pre).length)), ⟨1, none, rfl, .inl ⟨rfl, rfl⟩⟩, fun pre a post ρ2 ha hI => ?_, fun ρ2 hI => ?_⟩
  · obtain ⟨m, o, rfl, hm⟩ := hI
    have haf := hf a (by rw [ha]; simp)
    rcases snoc_cases (linesW w pre) with e | ⟨g, l, e⟩
    · have hp : pre = [] := Classical.byContradiction fun z => linesW_ne z e
      have hm1 : m = 1 := by rcases hm with h | h; exact h.2; exact absurd hp h.1
      have el : lastL (linesW w pre) = -1 := by rw [e]; rfl
      rw [el]
      walk_at "sv"
      all_goals first | (exfalso; omega) | skip
      refine ⟨m, some (.d (.int (a.length : Int))), ?_, .inr ⟨by simp, ?_⟩⟩
      · rw [linesW_snoc, e, putW_nil, show [a] = [] ++ [a] from rfl, lastL_snoc, show (-1 : Int) + (1 + (a.length : Int)) = a.length by omega]
        rfl
      · rw [linesW_snoc, e, putW_nil, hm1]
        rfl
    · have hp : pre ≠ [] := fun z => by subst z; simp [linesW] at e
      have hm1 : m = (linesW w pre).length := by rcases hm with h | h; exact absurd h.1 hp; exact h.2
      have el : lastL (linesW w pre) = l.length := by rw [e, lastL_snoc]
      rw [el]
      walk_at "sv"
      · refine ⟨m + 1, some (.d (.int (a.length : Int))), ?_, .inr ⟨by simp, ?_⟩⟩
        · rw [linesW_snoc, e, putW_out (by omega), lastL_snoc, show (-1 : Int) + (1 + (a.length : Int)) = a.length by omega]
          rfl
        · rw [linesW_snoc, hm1, e, putW_out (by omega)]
          simp
      · refine ⟨m, some (.d (.int (a.length : Int))), ?_, .inr ⟨by simp, ?_⟩⟩
        · rw [linesW_snoc, e, putW_in (by omega), lastL_snoc, joined_len, show (l.length : Int) + (1 + (a.length : Int)) = l.length + 1 + a.length by omega]
          rfl
        · rw [linesW_snoc, hm1, e, putW_in (by omega)]
          simp
  · obtain ⟨m, o, rfl, hm⟩ := hI
    walk_at "sv"
    rcases hm with h | h
    · exact absurd h.1 hne
    · rw [h.2]
      exact q
def G_next_stair : GF := fun ls Po _ => ∃ (ws : List Str) (wide : Int) (many : Int) (whole : Int), ls = [.d (sizD ws), .d (.int wide), .d (.int many), .d (.int whole)] ∧ (ws ≠ [] ∧ ws.length ≤ 700 ∧ (∀ v, v ∈ ws → (v.length : Int) ≤ wide) ∧ wide < whole ∧ (cW ws whole : Int) < many) ∧
  ∀ r : Int, wide < r → r ≤ whole → (cW ws r : Int) < many → (∀ u, wide < u → u < r → many ≤ (cW ws u : Int)) → Po (.d (.int r)) []
theorem ok_next_stair (T : Txt K mg) : FnOk P w K mg base CX0 2 T.f_next_stair T.fd_next_stair ["sizes", "wide", "many", "whole"] (SpG K none G_next_stair) := by
  refine T.d_next_stair.F.ok sc_next_stair (SpG.len (n := 4) fun ls Po Pe h => by obtain ⟨_, _, _, _, rfl, _⟩ := h; rfl) (fun cdv A outer s H vs Q E hr h => ⟨_, (pss_cons (ps_while PassesOwn.never (pt_cmpR op_gt (pe_op op_sub (pv 3) (pv 1)) pe_int (nomark _)) (pss_cons (ps_set (i := 4) sc_next_stair.nd rfl (.inl rfl) (pe_op op_fdivN (pe_op (k_plus K) (pv 1) (pv 3)) pe_int))
 (pss_one (ps_if (pt_cmpR op_lt (pe_call (ok_taken T) hr (by rfl) T.d_taken.g T.d_taken.kp T.d_taken.b .nil pass0 (pa_cons (pv 0) (pa_cons (pv 4) pa_nil))) (pv 2) (nomark _)) (pss_one (ps_set (i := 3) sc_next_stair.nd rfl (.inl rfl) (pv 4))) (pss_one (ps_set (i := 1) sc_next_stair.nd rfl (.inl rfl) (pv 4)))))))
 (pss_one (ps_ret (pv 3)))), rd_of h fun B ls Po Pe hB hG hE => ?_⟩)
  obtain ⟨ws, wide, many, whole, rfl, ⟨hne, hl, hf, hww, hcw⟩, q⟩ := hG
  show WS B K _ [some (.d (sizD ws)), some (.d (.int wide)), some (.d (.int many)), some (.d (.int whole)), none] _
  walk_at "sv"
  refine ws_while (fun k ρ => ∃ (a b : Int) (o : Option L), ρ = [some (.d (sizD ws)), some (.d (.int a)), some (.d (.int many)), some (.d (.int b)), o] ∧ (b - a).toNat = k ∧ (wide ≤ a ∧ a < b ∧ b ≤ whole) ∧ (cW ws b : Int) < many ∧ ∀ u, wide < u → u ≤ a → many ≤ (cW ws u : Int)) ⟨(whole - wide).toNat, wide, whole, none, rfl, rfl, ⟨by omega, hww, by omega⟩, hcw, fun u h1 h2 => by omega⟩ fun k ρ1 hW => ?_
  obtain ⟨a, b, o, rfl, hk, ⟨h1, h2, h3⟩, h4, h5⟩ := hW
  walk_at "sv"
  · refine ⟨ws, (a + b) / 2, rfl, ⟨hne, hl, fun v hv => by have := hf v hv; omega⟩, ?_⟩
    walk_at "sv"
    · exact ⟨((a + b) / 2 - a).toNat, by omega, a, (a + b) / 2, _, rfl, rfl, ⟨h1, by omega, by omega⟩, hc, h5⟩
    · refine ⟨(b - (a + b) / 2).toNat, by omega, (a + b) / 2, b, _, rfl, rfl, ⟨by omega, by omega, h3⟩, h4, fun u u1 u2 => ?_⟩
      have := cW_anti (ws := ws) (w := u) (w' := (a + b) / 2) (by omega) fun v hv => by have := hf v hv; omega
      omega
  · exact q b (by omega) h3 h4 fun u u1 u2 => h5 u u1 (by omega)

/-! ### text_stairs -/
def stD (p : Int × Nat) : PyData := .tuple [.int p.1, .int (p.2 : Int)]
/-- the drops of c from lo on, n places long -/
def dueL (c : Int → Nat) (lo : Int) : Nat → List (Int × Nat)
  | 0 => []
  | n + 1 => match (dueL c lo n).getLast? with
    | none => [(lo + n, c (lo + n))]
    | some l => if c (lo + n) < l.2 then dueL c lo n ++ [(lo + n, c (lo + n))] else dueL c lo n
theorem dueL_skip {c : Int → Nat} {lo : Int} {g : List (Int × Nat)} {l : Int × Nat} {n : Nat} (h : dueL c lo n = g ++ [l]) : ∀ j : Nat, (∀ u : Int, lo + n ≤ u → u < lo + n + j → l.2 ≤ c u) → dueL c lo (n + j) = g ++ [l]
  | 0, _ => h
  | j + 1, hu => by
    have ih := dueL_skip h j fun u h1 h2 => hu u h1 (by omega)
    show (match (dueL c lo (n + j)).getLast? with | none => [(lo + ((n + j : Nat) : Int), c (lo + ((n + j : Nat) : Int)))] | some l => if c (lo + ((n + j : Nat) : Int)) < l.2 then dueL c lo (n + j) ++ [(lo + ((n + j : Nat) : Int), c (lo + ((n + j : Nat) : Int)))] else dueL c lo (n + j)) = _
    rw [ih, List.getLast?_concat]
    have := hu (lo + ((n + j : Nat) : Int)) (by omega) (by omega)
    simp only [show ¬ c (lo + ((n + j : Nat) : Int)) < l.2 by omega, if_false]
theorem dueL_drop {c : Int → Nat} {lo : Int} {g : List (Int × Nat)} {l : Int × Nat} {n : Nat} (h : dueL c lo n = g ++ [l]) (hd : c (lo + n) < l.2) : dueL c lo (n + 1) = g ++ [l] ++ [(lo + n, c (lo + n))] := by
  show (match (dueL c lo n).getLast? with | none => [(lo + (n : Int), c (lo + n))] | some l => if c (lo + n) < l.2 then dueL c lo n ++ [(lo + (n : Int), c (lo + n))] else dueL c lo n) = _
  rw [h, List.getLast?_concat]
  simp only [hd, if_true]
theorem dueL_len (c : Int → Nat) (lo : Int) : ∀ n, (dueL c lo n).length ≤ n
  | 0 => Nat.le_refl _
  | n + 1 => by
    have ih := dueL_len c lo n
    unfold dueL
    split
    · simp
    · split
      · rw [List.length_append]; simp only [List.length_cons, List.length_nil]; omega
      · omega
def IsMax (ws : List Str) (m : Int) : Prop := (∃ v, v ∈ ws ∧ (v.length : Int) = m) ∧ ∀ v, v ∈ ws → (v.length : Int) ≤ m
theorem IsMax.eq {ws : List Str} {m k : Int} (h : IsMax ws m) (h' : IsMax ws k) : m = k := by
  obtain ⟨⟨v, hv, e⟩, a⟩ := h
  obtain ⟨⟨u, hu, e'⟩, b⟩ := h'
  have := a u hu
  have := b v hv
  omega
theorem tot_len {ws : List Str} : ∀ {v : Str}, v ∈ ws → (v.length : Int) ≤ tot ws := by
  induction ws with
  | nil => intro v hv; cases hv
  | cons x ws ih =>
    intro v hv
    rw [tot_cons]
    have := tot_ge ws
    rcases List.mem_cons.mp hv with h | h
    · rw [h]; omega
    · have := ih h; omega
theorem tot_sum (ws : List Str) : (ws.map fun x => (x.length : Int)).sum + (ws.length : Int) - 1 = tot ws := by
  induction ws with
  | nil => rfl
  | cons x ws ih =>
    rw [tot_cons, List.map_cons, List.sum_cons, List.length_cons, ← ih]
    omega
theorem tot_le {ws : List Str} (h : ∀ v, v ∈ ws → v.length ≤ 12) : tot ws + 1 ≤ 13 * (ws.length : Int) := by
  induction ws with
  | nil => rw [tot_nil]; simp
  | cons x ws ih =>
    have := ih fun v hv => h v (List.mem_cons_of_mem _ hv)
    have := h x List.mem_cons_self
    rw [tot_cons, List.length_cons]
    omega
/-- the stairs up to the first whose width is w -/
def dueW (ws : List Str) (m w : Int) : List (Int × Nat) := dueL (cW ws) m (w - m + 1).toNat
def G_text_stairs (aT : Addr) : GF := fun ls Po Pe => ∃ x : PyData, ls = [.d x] ∧ shortsD x ∧
  ((wordsD x = false ∧ Pe aT) ∨ ∃ ws : List Str, x = .list (ws.map .str) ∧ (∀ v, v ∈ ws → IsWord v) ∧ ws.length ≤ 700 ∧
    (ws = [] → Po (.new [stD (1, 1)]) []) ∧ (ws ≠ [] → ∀ m, IsMax ws m → Po (.new ((dueW ws m (tot ws)).map stD)) []))
theorem ok_text_stairs (T : Txt K mg) : FnOk P w K mg base (L2.CX P w) 3 T.f_text_stairs T.fd_text_stairs ["words"] (SpG K none (G_text_stairs T.a_NoTexts)) := by
  refine T.d_text_stairs.F.okX sc_text_stairs (SpG.len (n := 1) fun ls Po Pe h => by obtain ⟨_, rfl, _⟩ := h; rfl) (fun cdv A outer s H vs Q E hr h => ⟨_, (pss_cons (ps_expr (pe_call (ok_need_words T) hr (by rfl) T.d_need_words.g T.d_need_words.kp T.d_need_words.b .nil (passes_call (takes_of rfl rfl rfl rfl) fun _ _ _ _ h => h) (pa_cons (pv 0) pa_nil)))
 (pss_cons (ps_if (pt_cmpR (k_eqD K rfl hr.units) (pv 0) (pe_lst pa_nil) (nomark _)) (pss_one (ps_ret (pe_lst (pa_cons (pe_tup (pa_cons pe_int (pa_cons pe_int pa_nil))) pa_nil)))) pss_nil)
 (pss_cons (ps_setLc (i := 1) (own := [("word", 2)]) (g := _) (tt := _) rfl sc_text_stairs.nd rfl rfl (sw_true rfl rfl rfl (by decide +kernel)) (k_piL K rfl (pv 0)) (blkOk_by (N := N_text_stairs) (sc := defScope s_text_stairs) (by decide +kernel)) (fun _ _ _ _ _ => (pg_name (i := 2) sc_text_stairs.nd rfl (Or.inl rfl))) (fun _ _ _ _ _ => pts_nil) (fun _ _ _ _ _ => (pe_callB (k_len K) (by rfl) T.b_len PySem.boot_len (pa_cons (pv 2) pa_nil))))
 (pss_cons (ps_set (i := 3) sc_text_stairs.nd rfl (.inl rfl) (pe_op op_sub (pe_op (k_plus K) (pe_callB (k_sum K rfl rfl) (by rfl) T.b_sum (by decide +kernel) (pa_cons (pv 1) pa_nil)) (pe_callB (k_len K) (by rfl) T.b_len PySem.boot_len (pa_cons (pv 1) pa_nil))) pe_int))
 (pss_cons (ps_setO (i := 4) sc_text_stairs.nd rfl (.inl rfl) (pe_lst (pa_cons (pe_tup (pa_cons (pe_callB (k_max K rfl rfl) (by rfl) T.b_max (by decide +kernel) (pa_cons (pv 1) pa_nil)) (pa_cons (pe_call (ok_taken T) (hr.mono (by decide)) (by rfl) T.d_taken.g T.d_taken.kp T.d_taken.b .nil pass0 (pa_cons (pv 1) (pa_cons (pe_callB (k_max K rfl rfl) (by rfl) T.b_max (by decide +kernel) (pa_cons (pv 1) pa_nil)) pa_nil))) pa_nil))) pa_nil)))
 (pss_cons (ps_while (passes_of rfl) (pt_cmpR op_gt (pe_ix (k_ix K) (pe_ix (k_ix K) (pv 4) (pe_un un_neg pe_int) (fun _ _ => rfl)) pe_int (fun _ _ => rfl)) pe_int (nomark _)) (pss_cons (ps_set (i := 5) sc_text_stairs.nd rfl (.inl rfl) (pe_call (ok_next_stair T) hr (by rfl) T.d_next_stair.g T.d_next_stair.kp T.d_next_stair.b .nil pass0 (pa_cons (pv 1) (pa_cons (pe_ix (k_ix K) (pe_ix (k_ix K) (pv 4) (pe_un un_neg pe_int) (fun _ _ => rfl)) pe_int (fun _ _ => rfl)) (pa_cons (pe_ix (k_ix K) (pe_ix (k_ix K) (pv 4) (pe_un un_neg pe_int) (fun _ _ => rfl)) pe_int (fun _ _ => rfl)) (pa_cons (pv 3) pa_nil))))))
 (pss_one (ps_expr (k_bm K rfl PySem.F.plainAttrs_list PySem.F.slot_list_append PySem.F.type_list_append mt_append (pv 4) (pa_cons (pe_tup (pa_cons (pv 5) (pa_cons (pe_call (ok_taken T) (hr.mono (by decide)) (by rfl) T.d_taken.g T.d_taken.kp T.d_taken.b .nil pass0 (pa_cons (pv 1) (pa_cons (pv 5) pa_nil))) pa_nil))) pa_nil))))))
 (pss_one (ps_ret (pv 4))))))))), rd_of h fun B ls Po Pe hB hG hE => ?_⟩)
  obtain ⟨x, rfl, hs, q⟩ := hG
  show WS B K _ [some (.d x), none, none, none, none, none] _
  walk_at "sn"
  refine ⟨_, Pe, rfl, ⟨x, rfl, hs, fun hw => ?_, fun hw => ?_⟩, hE⟩
  · rcases q with ⟨hn, _⟩ | ⟨ws, rfl, hws, hl, q0, q1⟩
    · rw [hn] at hw; cases hw
    have hok : ∀ v, v ∈ ws → PyData.strOk v = true := fun v hv => strOk_word (hws v hv)
    have h12 : ∀ v, v ∈ ws → v.length ≤ 12 := fun v hv => (hws v hv).2.1
    walk_at "sv"
    · have e : ws = [] := by cases ws with
        | nil => rfl
        | cons a b => cases hc
      exact q0 e
    · have hne : ws ≠ [] := fun z => by subst z; exact absurd rfl hc
      refine wd_e (we_lcL PyData.str (fun (x : Str) o => o = some (.int (x.length : Int))) (.name 2) ?_)
      walk_at "sv"
      refine ⟨fun a ha B' hB' => ?_, fun ys hy2 => ?_⟩
      · walk_at "sv"
        exact ⟨by have := h12 a ha; show _ ≤ 1000000; omega, rfl⟩
      have e2 := Sel.map (f := fun x : Str => PyData.int (x.length : Int)) hy2
      subst e2
      have emap : ws.map (fun x : Str => PyData.int (x.length : Int)) = (ws.map fun x : Str => (x.length : Int)).map .int := by rw [List.map_map]; rfl
      have maxok : ∀ m : Int, m ∈ (ws.map fun x : Str => (x.length : Int)) → (∀ y, y ∈ (ws.map fun x : Str => (x.length : Int)) → y ≤ m) → IsMax ws m := fun m h1 h2 => by
        obtain ⟨v, hv, e⟩ := List.mem_map.mp h1
        exact ⟨⟨v, hv, e⟩, fun u hu => h2 _ (List.mem_map.mpr ⟨u, hu, rfl⟩)⟩
      have hlen0 : 0 < (ws.map fun x : Str => (x.length : Int)).length := by rw [List.length_map]; exact List.length_pos_iff.mpr hne
      walk_at "sn"
      refine wd_sum ?_
      walk_at "sn"
      refine ⟨ws.map fun x : Str => (x.length : Int), by rw [emap], ?_⟩
      walk_at "sn"
      rw [tot_sum]
      refine wd_maxL ?_
      walk_at "sn"
      refine ⟨ws.map fun x : Str => (x.length : Int), by rw [emap], hlen0, fun m hm1 hm2 => ?_⟩
      have hM := maxok m hm1 hm2
      walk_at "sn"
      refine wd_maxL ?_
      walk_at "sn"
      refine ⟨ws.map fun x : Str => (x.length : Int), by rw [emap], hlen0, fun m2 hn1 hn2 => ?_⟩
      have hM2 := hM.eq (maxok m2 hn1 hn2)
      subst hM2
      walk_at "sn"
      refine ⟨ws, m, rfl, ⟨hne, hl, hM.2⟩, ?_⟩
      walk_at "sn"
      have hMt : m ≤ tot ws := by
        obtain ⟨v, hv, e⟩ := hM.1
        have := tot_len hv
        omega
      refine ws_while (fun k ρ => ∃ (g : List (Int × Nat)) (l : Int × Nat) (o5 : Option L), ρ = [some (.d (.list (ws.map .str))), some (.d (sizD ws)), none, some (.d (.int (tot ws))), some (.own (g.map stD ++ [stD l])), o5] ∧ k = l.2 ∧ dueW ws m l.1 = g ++ [l] ∧ (m ≤ l.1 ∧ l.1 ≤ tot ws) ∧ l.2 = cW ws l.1) ⟨_, [], (m, cW ws m), none, rfl, rfl, ?_, ⟨Int.le_refl _, hMt⟩, rfl⟩ fun k ρ1 hW => ?_
      · unfold dueW
        rw [show (m - m + 1).toNat = 0 + 1 by omega]
        show [(m + ((0 : Nat) : Int), cW ws (m + ((0 : Nat) : Int)))] = _
        rw [show m + ((0 : Nat) : Int) = m by omega]
        rfl
      · obtain ⟨g, l, o5, rfl, rfl, hd, ⟨hl1, hl2⟩, hl3⟩ := hW
        have gl : atI (g.map stD ++ [stD l]) (-1) = some (stD l) := atI_last _ _
        have hfl : ∀ v, v ∈ ws → (v.length : Int) ≤ l.1 := fun v hv => by have := hM.2 v hv; omega
        have hgl : g.length + 1 ≤ 13 * 700 := by
          have k1 := dueL_len (cW ws) m (l.1 - m + 1).toNat
          have k2 := tot_le h12
          have k3 : 0 ≤ m := by obtain ⟨v, hv, e⟩ := hM.1; omega
          rw [show dueL (cW ws) m (l.1 - m + 1).toNat = g ++ [l] from hd, List.length_append] at k1
          simp only [List.length_cons, List.length_nil] at k1
          omega
        walk_at "sn"
        refine ⟨_, -1, _, rfl, rfl, gl, ?_⟩
        walk_at "sn"
        · have hlt : l.1 < tot ws := Int.not_le.mp fun z => by have := cW_tot hne z; omega
          refine ⟨_, -1, _, rfl, rfl, gl, ?_⟩
          walk_at "sn"
          refine ⟨_, -1, _, rfl, rfl, gl, ?_⟩
          walk_at "sn"
          refine ⟨ws, l.1, (l.2 : Int), tot ws, rfl, ⟨hne, hl, hfl, hlt, by rw [cW_tot hne (Int.le_refl _)]; exact hc⟩, fun r r1 r2 r3 r4 => ?_⟩
          walk_at "sn"
          refine ⟨ws, r, rfl, ⟨hne, hl, fun v hv => by have := hfl v hv; omega⟩, ?_⟩
          walk_at "sn"
          refine ⟨by rw [List.length_append, List.length_map]; show _ < 1000000; simp only [List.length_cons, List.length_nil]; omega, ?_⟩
          have hrd : dueW ws m r = g ++ [l] ++ [(r, cW ws r)] := by
            have s1 := dueL_skip (c := cW ws) (lo := m) (n := (l.1 - m + 1).toNat) hd (r - l.1 - 1).toNat fun u u1 u2 => by have := r4 u (by omega) (by omega); omega
            have s2 := dueL_drop s1 (by rw [show m + (((l.1 - m + 1).toNat + (r - l.1 - 1).toNat : Nat) : Int) = r by omega]; omega)
            rw [show m + (((l.1 - m + 1).toNat + (r - l.1 - 1).toNat : Nat) : Int) = r by omega] at s2
            unfold dueW
            rw [show (r - m + 1).toNat = (l.1 - m + 1).toNat + (r - l.1 - 1).toNat + 1 by omega]
            exact s2
          refine ⟨cW ws r, by omega, g ++ [l], (r, cW ws r), some (.d (.int r)), ?_, rfl, hrd, ⟨by omega, r2⟩, rfl⟩
          rw [List.map_append]
          rfl
        · walk_at "sn"
          have s1 := dueL_skip (c := cW ws) (lo := m) (n := (l.1 - m + 1).toNat) hd (tot ws - l.1).toNat fun u u1 u2 => by have := cW_pos (ws := ws) (w := u) hne; omega
          have k := q1 hne m hM
          unfold dueW at k
          rw [show (tot ws - m + 1).toNat = (l.1 - m + 1).toNat + (tot ws - l.1).toNat by omega, s1, List.map_append] at k
          exact k
  · rcases q with ⟨_, h⟩ | ⟨ws, rfl, hws, _⟩
    · exact h
    · rw [wordsD_of hws] at hw; cases hw

/-! ### _law_count, _law_due -/
def G_law_count : GF := fun ls Po _ => ∃ (ws : List Str) (w : Int), ls = [.d (.list (ws.map .str)), .d (.int w)] ∧ (∀ v, v ∈ ws → v.length ≤ 12 ∧ (v.length : Int) ≤ w) ∧ Po (.d (.int (cW ws w : Int))) []
theorem ok_law_count (T : Txt K mg) : FnOk P w K mg base CX0 1 T.f_law_count T.fd_law_count ["words", "wide"] (SpG K none G_law_count) := by
  refine T.d_law_count.F.ok sc_law_count (SpG.len (n := 2) fun ls Po Pe h => by obtain ⟨_, _, rfl, _⟩ := h; rfl) (fun cdv A outer s H vs Q E hr h => ⟨_, (pss_cons (ps_set (i := 2) sc_law_count.nd rfl (.inl rfl) pe_int)
 (pss_cons (ps_set (i := 3) sc_law_count.nd rfl (.inl rfl) (pv 1))
 (pss_cons (ps_for PassesOwn.never rfl (k_piL K rfl (pv 0)) (pg_name (i := 4) sc_law_count.nd rfl (Or.inl rfl)) (pss_cons (ps_if (pt_cmpR op_gt (pe_op (k_plus K) (pe_op (k_plus K) (pv 3) pe_int) (pe_callB (k_len K) (by rfl) T.b_len PySem.boot_len (pa_cons (pv 4) pa_nil))) (pv 1) (nomark _)) (pss_cons (ps_set (i := 2) sc_law_count.nd rfl (.inl rfl) (pe_op (k_plus K) (pv 2) pe_int))
 (pss_one (ps_set (i := 3) sc_law_count.nd rfl (.inl rfl) (pe_un un_neg pe_int)))) pss_nil)
 (pss_one (ps_set (i := 3) sc_law_count.nd rfl (.inl rfl) (pe_op (k_plus K) (pe_op (k_plus K) (pv 3) pe_int) (pe_callB (k_len K) (by rfl) T.b_len PySem.boot_len (pa_cons (pv 4) pa_nil)))))))
 (pss_one (ps_ret (pv 2)))))), rd_of h fun B ls Po Pe hB hG hE => ?_⟩)
  obtain ⟨ws, w, rfl, hw, q⟩ := hG
  show WS B K _ [some (.d (.list (ws.map .str))), some (.d (.int w)), none, none, none] _
  walk_at "sn"
  refine ws_forL PyData.str ?_
  walk_at "sn"
  refine ⟨fun pre ρ => ∃ (u : Int) (o : Option L), ρ = [some (.d (.list (ws.map .str))), some (.d (.int w)), some (.d (.int ((linesW w pre).length : Int))), some (.d (.int u)), o] ∧ ((pre = [] ∧ u = w) ∨ (pre ≠ [] ∧ u = lastL (linesW w pre))), ⟨w, none, rfl, .inl ⟨rfl, rfl⟩⟩, fun pre a post ρ2 ha hI => ?_, fun ρ2 hI => ?_⟩
  · obtain ⟨u, o, rfl, hu⟩ := hI
    have haf := hw a (by rw [ha]; simp)
    have hal : a.length ≤ lim := Nat.le_trans haf.1 (by decide)
    rcases snoc_cases (linesW w pre) with e | ⟨g, l, e⟩
    · have hp : pre = [] := Classical.byContradiction fun z => linesW_ne z e
      have hu1 : u = w := by rcases hu with h | h; exact h.2; exact absurd hp h.1
      subst hu1
      walk_at "sv"
      all_goals first | (exfalso; omega) | skip
      refine ⟨a.length, some (.d (.str a)), ?_, .inr ⟨by simp, ?_⟩⟩
      · rw [linesW_snoc, e, putW_nil, show (-1 : Int) + 1 + (a.length : Int) = a.length by omega]
        rfl
      · rw [linesW_snoc, e, putW_nil, show [a] = [] ++ [a] from rfl, lastL_snoc]
    · have hp : pre ≠ [] := fun z => by subst z; simp [linesW] at e
      have hu1 : u = l.length := by rcases hu with h | h; exact absurd h.1 hp; rw [h.2, e, lastL_snoc]
      subst hu1
      walk_at "sv"
      · refine ⟨a.length, some (.d (.str a)), ?_, .inr ⟨by simp, ?_⟩⟩
        · rw [linesW_snoc, e, putW_out (by omega), show (-1 : Int) + 1 + (a.length : Int) = a.length by omega, List.length_append (as := g ++ [l])]
          rfl
        · rw [linesW_snoc, e, putW_out (by omega), lastL_snoc]
      · refine ⟨(l.length : Int) + 1 + a.length, some (.d (.str a)), ?_, .inr ⟨by simp, ?_⟩⟩
        · rw [linesW_snoc, e, putW_in (by omega)]
          simp
        · rw [linesW_snoc, e, putW_in (by omega), lastL_snoc, joined_len]
  · obtain ⟨u, o, rfl, hu⟩ := hI
    walk_at "sn"
    exact q

def Pdue (ws : List Str) (D : List (Int × Nat)) : Prop := (ws = [] ∧ D = [(1, 1)]) ∨ (ws ≠ [] ∧ ∃ m, IsMax ws m ∧ D = dueW ws m (tot ws))
def G_law_due : GF := fun ls Po _ => ∃ ws : List Str, ls = [.d (.list (ws.map .str))] ∧ (ws.length ≤ 700 ∧ (∀ v, v ∈ ws → v.length ≤ 12) ∧ ∀ v, v ∈ ws → PyData.strOk v = true) ∧ ∀ D, Pdue ws D → Po (.new (D.map stD)) []
theorem ok_law_due (T : Txt K mg) : FnOk P w K mg base CX0 2 T.f_law_due T.fd_law_due ["words"] (SpG K none G_law_due) := by
  refine T.d_law_due.F.ok sc_law_due (SpG.len (n := 1) fun ls Po Pe h => by obtain ⟨_, rfl, _⟩ := h; rfl) (fun cdv A outer s H vs Q E hr h => ⟨_, (pss_cons (ps_if (pt_cmpR (k_eqD K rfl hr.units) (pv 0) (pe_lst pa_nil) (nomark _)) (pss_one (ps_ret (pe_lst (pa_cons (pe_tup (pa_cons pe_int (pa_cons pe_int pa_nil))) pa_nil)))) pss_nil)
 (pss_cons (ps_setLc (i := 1) (own := [("word", 2)]) (g := _) (tt := _) rfl sc_law_due.nd rfl rfl (sw_true rfl rfl rfl (by decide +kernel)) (k_piL K rfl (pv 0)) (blkOk_by (N := N_law_due) (sc := defScope s_law_due) (by decide +kernel)) (fun _ _ _ _ _ => (pg_name (i := 2) sc_law_due.nd rfl (Or.inl rfl))) (fun _ _ _ _ _ => pts_nil) (fun _ _ _ _ _ => (pe_callB (k_len K) (by rfl) T.b_len PySem.boot_len (pa_cons (pv 2) pa_nil))))
 (pss_cons (ps_setO (i := 3) sc_law_due.nd rfl (.inl rfl) (pe_lst pa_nil))
 (pss_cons (ps_for PassesOwn.never rfl (pi_range2 (by rfl) T.b_range (pa_cons (pe_callB (k_max K rfl rfl) (by rfl) T.b_max (by decide +kernel) (pa_cons (pv 1) pa_nil)) (pa_cons (pe_op (k_plus K) (pe_callB (k_sum K rfl rfl) (by rfl) T.b_sum (by decide +kernel) (pa_cons (pv 1) pa_nil)) (pe_callB (k_len K) (by rfl) T.b_len PySem.boot_len (pa_cons (pv 1) pa_nil))) pa_nil))) (pg_name (i := 4) sc_law_due.nd rfl (Or.inl rfl)) (pss_cons (ps_set (i := 5) sc_law_due.nd rfl (.inl rfl) (pe_call (ok_law_count T) hr (by rfl) T.d_law_count.g T.d_law_count.kp T.d_law_count.b .nil pass0 (pa_cons (pv 0) (pa_cons (pv 4) pa_nil))))
 (pss_one (ps_if (PW.pt (pw_or (pt_cmpR (k_eqD K rfl hr.units) (pv 3) (pe_lst pa_nil) (nomark _)) (pw_or1 (pt_cmpR op_lt (pv 5) (pe_ix (k_ix K) (pe_ix (k_ix K) (pv 3) (pe_un un_neg pe_int) (fun _ _ => rfl)) pe_int (fun _ _ => rfl)) (nomark _))))) (pss_one (ps_expr (k_bm K rfl PySem.F.plainAttrs_list PySem.F.slot_list_append PySem.F.type_list_append mt_append (pv 3) (pa_cons (pe_tup (pa_cons (pv 4) (pa_cons (pv 5) pa_nil))) pa_nil)))) pss_nil))))
 (pss_one (ps_ret (pv 3))))))), rd_of h fun B ls Po Pe hB hG hE => ?_⟩)
  obtain ⟨ws, rfl, ⟨hl, h12, hok⟩, qq⟩ := hG
  have q0 : ws = [] → Po (.new [stD (1, 1)]) [] := fun h => qq [(1, 1)] (.inl ⟨h, rfl⟩)
  have q1 : ws ≠ [] → ∀ m, IsMax ws m → Po (.new ((dueW ws m (tot ws)).map stD)) [] := fun h m hm => qq _ (.inr ⟨h, m, hm, rfl⟩)
  show WS B K _ [some (.d (.list (ws.map .str))), none, none, none, none, none] _
  walk_at "sv"
  · have e : ws = [] := by cases ws with
      | nil => rfl
      | cons a b => cases hc
    exact q0 e
  · have hne : ws ≠ [] := fun z => by subst z; exact absurd rfl hc
    refine wd_e (we_lcL PyData.str (fun (x : Str) o => o = some (.int (x.length : Int))) (.name 2) ?_)
    walk_at "sv"
    refine ⟨fun a ha B' hB' => ?_, fun ys hy2 => ?_⟩
    · walk_at "sv"
      exact ⟨by have := h12 a ha; show _ ≤ 1000000; omega, rfl⟩
    have e2 := Sel.map (f := fun x : Str => PyData.int (x.length : Int)) hy2
    subst e2
    have emap : ws.map (fun x : Str => PyData.int (x.length : Int)) = (ws.map fun x : Str => (x.length : Int)).map .int := by rw [List.map_map]; rfl
    have maxok : ∀ m : Int, m ∈ (ws.map fun x : Str => (x.length : Int)) → (∀ y, y ∈ (ws.map fun x : Str => (x.length : Int)) → y ≤ m) → IsMax ws m := fun m h1 h2 => by
      obtain ⟨v, hv, e⟩ := List.mem_map.mp h1
      exact ⟨⟨v, hv, e⟩, fun u hu => h2 _ (List.mem_map.mpr ⟨u, hu, rfl⟩)⟩
    have hlen0 : 0 < (ws.map fun x : Str => (x.length : Int)).length := by rw [List.length_map]; exact List.length_pos_iff.mpr hne
    walk_at "sn"
    refine wd_maxL ?_
    walk_at "sn"
    refine ⟨ws.map fun x : Str => (x.length : Int), by rw [emap], hlen0, fun m hm1 hm2 => ?_⟩
    have hM := maxok m hm1 hm2
    walk_at "sn"
    refine wd_sum ?_
    walk_at "sn"
    refine ⟨ws.map fun x : Str => (x.length : Int), by rw [emap], ?_⟩
    walk_at "sn"
    have hts := tot_sum ws
    have htl := tot_le h12
    have hMt : m ≤ tot ws ∧ 0 ≤ m := by
      obtain ⟨v, hv, e⟩ := hM.1
      have := tot_len hv
      omega
    rw [show (ws.map fun x : Str => (x.length : Int)).sum + (ws.length : Int) = tot ws + 1 by omega]
    refine ⟨by omega, ?_⟩
    refine ⟨fun pre ρ => ∃ o4 o5, ρ = [some (.d (.list (ws.map .str))), some (.d (sizD ws)), none, some (.own ((dueL (cW ws) m pre.length).map stD)), o4, o5], ⟨_, _, rfl⟩, fun pre a post ρ2 ha hI => ?_, fun ρ2 hI => ?_⟩
    · obtain ⟨o4, o5, rfl⟩ := hI
      obtain ⟨ea, hpn⟩ := ixs_split ha
      walk_at "sn"
      refine ⟨ws, a, rfl, fun v hv => ⟨h12 v hv, by have := hM.2 v hv; omega⟩, ?_⟩
      have hokd : ∀ g : List (Int × Nat), OkD 60 (.list (g.map stD)) := fun g => .list fun x hx => by
        obtain ⟨p, _, rfl⟩ := List.mem_map.mp hx
        exact .tuple fun y hy => by
          simp only [List.mem_cons, List.not_mem_nil, or_false] at hy
          rcases hy with rfl | rfl <;> exact .int _
      have hd := hokd (dueL (cW ws) m pre.length)
      have hnl := dueL_len (cW ws) m pre.length
      have hdef : dueL (cW ws) m (pre.length + 1) = match (dueL (cW ws) m pre.length).getLast? with
        | none => [(m + (pre.length : Int), cW ws (m + pre.length))]
        | some l => if cW ws (m + pre.length) < l.2 then dueL (cW ws) m pre.length ++ [(m + (pre.length : Int), cW ws (m + pre.length))] else dueL (cW ws) m pre.length := rfl
      rw [← ea] at hdef
      rcases snoc_cases (dueL (cW ws) m pre.length) with e | ⟨g, l, e⟩
      · rw [e] at hdef hd ⊢
        walk_at "sv"
        · refine ⟨by decide, ?_⟩
          refine ⟨some (.d (.int a)), some (.d (.int (cW ws a : Int))), ?_⟩
          rw [List.length_append, show pre.length + [a].length = pre.length + 1 from rfl, hdef]
          rfl
        · exact absurd rfl hc
      · rw [e] at hdef hd ⊢
        rw [List.getLast?_concat] at hdef
        have em : (g ++ [l]).map stD = g.map stD ++ [stD l] := by rw [List.map_append]; rfl
        rw [em] at hd ⊢
        have gl : atI (g.map stD ++ [stD l]) (-1) = some (stD l) := atI_last _ _
        rw [e, List.length_append] at hnl
        simp only [List.length_cons, List.length_nil] at hnl
        walk_at "sv"
        · exact absurd hc (by simp)
        · refine ⟨_, -1, _, rfl, rfl, gl, ?_⟩
          walk_at "sv"
          · refine ⟨by rw [List.length_append, List.length_map]; simp only [List.length_cons, List.length_nil]; show _ < 1000000; omega, ?_⟩
            refine ⟨some (.d (.int a)), some (.d (.int (cW ws a : Int))), ?_⟩
            have hlt : cW ws a < l.2 := by omega
            simp only [hlt, if_true] at hdef
            rw [List.length_append, show pre.length + [a].length = pre.length + 1 from rfl, hdef, List.map_append, em]
            rfl
          · refine ⟨some (.d (.int a)), some (.d (.int (cW ws a : Int))), ?_⟩
            have hlt : ¬ cW ws a < l.2 := by omega
            simp only [hlt, if_false] at hdef
            rw [List.length_append, show pre.length + [a].length = pre.length + 1 from rfl, hdef, em]
            rfl
    · obtain ⟨o4, o5, rfl⟩ := hI
      walk_at "sn"
      rw [ixs_len]
      have k := q1 hne m hM
      unfold dueW at k
      rw [show tot ws + 1 - m = tot ws - m + 1 by omega]
      exact k

/-! ### _law_many -/
def G_law_many : GF := fun ls Po _ => ∃ (ws : List Str) (w : Int), ls = [.d (.list (ws.map .str)), .d (.int w)] ∧ (ws.length ≤ 700 ∧ ∀ v, v ∈ ws → IsWord v) ∧ ((∀ v, v ∈ ws → (v.length : Int) ≤ w) → Po (.d (.int (cW ws w : Int))) []) ∧ ((∃ v, v ∈ ws ∧ ¬ (v.length : Int) ≤ w) → Po (.d (.int 100)) [])
theorem ok_law_many (T : Txt K mg) : FnOk P w K mg base CX0 4 T.f_law_many T.fd_law_many ["words", "wide"] (SpG K none G_law_many) := by
  refine T.d_law_many.F.ok sc_law_many (SpG.len (n := 2) fun ls Po Pe h => by obtain ⟨_, _, rfl, _⟩ := h; rfl) (fun cdv A outer s H vs Q E hr h => ⟨_, (pss_cons (ps_set (i := 2) sc_law_many.nd rfl (.inl rfl) pe_int)
 (pss_cons (k_tryO (tb := _) (ts := _) K rfl rfl rfl ⟨rfl, by decide, .inl T.NoRoom.g⟩
 (fun W pn xe tk _ => (pss_one (ps_set (i := 2) sc_law_many.nd rfl (.inl rfl) (pe_callB (k_len K) (by rfl) T.b_len PySem.boot_len (pa_cons (by exact (pe_callS (ok_lines T) hr rfl T.d_lines.g T.d_lines.kp T.d_lines.b (fun σ => passAt tk σ) (by exact (pa_cons (pv 0) (pa_cons (pv 1) pa_nil))))) pa_nil)))))
 (fun a oe cls d pn hz hf => (pss_one (ps_set (i := 2) sc_law_many.nd rfl (.inl rfl) pe_int))))
 (pss_one (ps_ret (pv 2))))), rd_of h fun B ls Po Pe hB hG hE => ?_⟩)
  obtain ⟨ws, w, rfl, ⟨hl, hw⟩, q1, q2⟩ := hG
  show WS B K _ [some (.d (.list (ws.map .str))), some (.d (.int w)), none] _
  walk_at "sv"
  refine ws_tryO (fun C ρ1 => C = T.a_NoRoom ∧ (∃ v, v ∈ ws ∧ ¬ (v.length : Int) ≤ w) ∧ ρ1 = [some (.d (.list (ws.map .str))), some (.d (.int w)), some (.d (.int 100))]) (fun F0 W hS => ?_) (fun F0 C ρ1 hC => ?_)
  · walk_at "sv"
    refine ⟨_, fun C => C = T.a_NoRoom ∧ (∃ v, v ∈ ws ∧ ¬ (v.length : Int) ≤ w), rfl, ⟨_, w, rfl, fun x hx => ?_, .inr ⟨ws, rfl, hw, by omega, fun hall => ?_, fun hn => ⟨rfl, hn⟩⟩⟩, fun C hC => hS _ _ ⟨hC.1, hC.2, rfl⟩⟩
    · obtain ⟨v, hv, rfl⟩ := List.mem_map.mp hx
      have := (hw v hv).2.1
      show v.length ≤ 100000
      omega
    · walk_at "sv"
      exact q1 hall
  · obtain ⟨rfl, hn, rfl⟩ := hC
    refine ⟨T.m_NoRoom_NoRoom, fun a => ?_⟩
    walk_at "sv"
    exact q2 hn

/-! ### _law_told -/
theorem okd_st (g : List (Int × Nat)) : OkD 60 (.list (g.map stD)) := .list fun x hx => by
  obtain ⟨p, _, rfl⟩ := List.mem_map.mp hx
  exact .tuple fun y hy => by
    simp only [List.mem_cons, List.not_mem_nil, or_false] at hy
    rcases hy with rfl | rfl <;> exact .int _
theorem noB_st (g : List (Int × Nat)) : noB (.list (g.map stD)) = true := by
  show noBs (g.map stD) = true
  refine noBs_of fun x hx => ?_
  obtain ⟨p, _, rfl⟩ := List.mem_map.mp hx
  rfl
theorem Sel.none {α : Type} {as : List α} {ys : List PyData} (s : Sel (fun (_ : α) o => o = Option.none) as ys) : ys = [] := by
  induction s with
  | nil => rfl
  | yes _ h => cases h
  | no _ _ ih => exact ih
def G_law_told : GF := fun ls Po _ => ∃ g : List (Int × Nat), ls = [.d (.list (g.map stD)), .d (.list (g.map stD))] ∧ g.length ≤ 100000 ∧ Po (.d (.bool true)) []
theorem ok_law_told (T : Txt K mg) : FnOk P w K mg base CX0 1 T.f_law_told T.fd_law_told ["found", "due"] (SpG K none G_law_told) := by
  refine T.d_law_told.F.ok sc_law_told (SpG.len (n := 2) fun ls Po Pe h => by obtain ⟨_, rfl, _⟩ := h; rfl) (fun cdv A outer s H vs Q E hr h => ⟨_, (pss_cons (ps_if (pt_not (pt_val (pe_callB (k_isi K) (by rfl) T.b_isinstance (by decide +kernel) (pa_cons (pv 0) (pa_cons (pe_bltn (v := .ty "list") (by rfl) T.b_list (by decide +kernel) rfl) pa_nil))))) (pss_one (ps_ret pe_bl)) pss_nil)
 (pss_cons (ps_for PassesOwn.never rfl (k_piL K rfl (pv 0)) (pg_name (i := 2) sc_law_told.nd rfl (Or.inl rfl)) (pss_cons (ps_if (PW.pt (pw_or (pt_not (pt_val (pe_callB (k_isi K) (by rfl) T.b_isinstance (by decide +kernel) (pa_cons (pv 2) (pa_cons (pe_bltn (v := .ty "tuple") (by rfl) T.b_tuple (by decide +kernel) rfl) pa_nil))))) (pw_or1 (pt_cmpR (k_neD K rfl hr.units) (pe_callB (k_len K) (by rfl) T.b_len PySem.boot_len (pa_cons (pv 2) pa_nil)) pe_int (nomark _))))) (pss_one (ps_ret pe_bl)) pss_nil)
 (pss_one (ps_if (pt_cmpR (k_neD K rfl hr.units) (pe_lc (own := [("one", 3)]) (g := _) (tt := _) (by rfl) sc_law_told.nd (k_piT K rfl (pv 2)) (blkOk_by (N := N_law_told) (sc := defScope s_law_told) (by decide +kernel)) (fun _ _ _ _ _ => (pg_name (i := 3) sc_law_told.nd rfl (Or.inl rfl))) (fun _ _ _ _ _ => (pts_one (PW.pt (pw_or (pt_not (pt_val (pe_callB (k_isi K) (by rfl) T.b_isinstance (by decide +kernel) (pa_cons (pv 3) (pa_cons (pe_bltn (v := .ty "int") (by rfl) T.b_int (by decide +kernel) rfl) pa_nil))))) (pw_or1 (pt_val (pe_callB (k_isi K) (by rfl) T.b_isinstance (by decide +kernel) (pa_cons (pv 3) (pa_cons (pe_bltn (v := .ty "bool") (by rfl) T.b_bool (by decide +kernel) rfl) pa_nil))))))))) (fun _ _ _ _ _ => (pv 3))) (pe_lst pa_nil) (nomark _)) (pss_one (ps_ret pe_bl)) pss_nil))))
 (pss_one (ps_ret (pe_cmpR (k_eqD K rfl hr.units) (pv 0) (pv 1) (nomark _)))))), rd_of h fun B ls Po Pe hB hG hE => ?_⟩)
  obtain ⟨g, rfl, hl, q⟩ := hG
  show WS B K _ [some (.d (.list (g.map stD))), some (.d (.list (g.map stD))), none, none] _
  walk_at "sv"
  refine ws_forL stD ?_
  walk_at "sv"
  refine ⟨fun pre ρ => ∃ o2 o3, ρ = [some (.d (.list (g.map stD))), some (.d (.list (g.map stD))), o2, o3], ⟨_, _, rfl⟩, fun pre a post ρ2 ha hI => ?_, fun ρ2 hI => ?_⟩
  · obtain ⟨o2, o3, rfl⟩ := hI
    walk_at "sv"
    refine (len_tup (xs := [.int a.1, .int (a.2 : Int)]) ?_ : Len (stD a) _)
    walk_at "sv"
    · refine wd_e (we_lcT PyData.int (fun (x : Int) o => o = none) (.name 3) ?_)
      walk_at "sv"
      refine ⟨[a.1, (a.2 : Int)], rfl, Nat.le_of_ble_eq_true rfl, fun c hcm B' hB' => ?_, fun zs hz => ?_⟩
      · walk_at "sv"
        exact rfl
      · have e : zs = [] := Sel.none hz
        subst e
        walk_at "sv"
        · exact ⟨_, _, rfl⟩
        · exact absurd rfl hc
    · exact absurd rfl hc
  · obtain ⟨o2, o3, rfl⟩ := hI
    walk_at "sv"
    refine ⟨ok2 (okd_st g) (okd_st g), ?_⟩
    have e : PyData.eqv (.list (g.map stD)) (.list (g.map stD)) = true := (eqv_iff (noB_st g) (noB_st g)).mpr rfl
    rw [e]
    exact q

/-! ### the law -/
theorem dueL_low {c : Int → Nat} {lo : Int} : ∀ (n : Nat) {g : List (Int × Nat)} {l : Int × Nat}, dueL c lo n = g ++ [l] → ∀ u, lo ≤ u → u < lo + n → l.2 ≤ c u
  | 0, g, l, h, _, _, _ => by
    have := congrArg List.length h
    simp [dueL] at this
  | n + 1, g, l, h, u, h1, h2 => by
    unfold dueL at h
    rcases snoc_cases (dueL c lo n) with e | ⟨g', l', e⟩
    · rw [e] at h
      have hn : n = 0 := by
        cases n with
        | zero => rfl
        | succ m =>
          exfalso
          unfold dueL at e
          split at e
          · cases e
          · split at e
            · simp at e
            · rename_i l2 e2 _
              rw [e] at e2
              cases e2
      subst hn
      have e3 : [(lo + ((0 : Nat) : Int), c (lo + ((0 : Nat) : Int)))] = g ++ [l] := h
      rcases snoc_cases g with rfl | ⟨g2, x, rfl⟩
      · have e4 := (List.cons.inj e3).1
        rw [← e4, show u = lo + ((0 : Nat) : Int) by omega]
        exact Nat.le_refl _
      · have := congrArg List.length e3
        simp at this
    · have ih := dueL_low n e
      rw [e, List.getLast?_concat] at h
      by_cases hc : c (lo + n) < l'.2
      · simp only [hc, if_true] at h
        have e4 := List.append_inj' h (by simp)
        have e5 := (List.cons.inj e4.2).1
        rw [← e5]
        by_cases hu : u = lo + n
        · rw [hu]; exact Nat.le_refl _
        · have := ih u h1 (by omega)
          show c (lo + n) ≤ c u
          omega
      · simp only [hc, if_false] at h
        have e4 := List.append_inj' h (by simp)
        have e5 := (List.cons.inj e4.2).1
        rw [← e5]
        by_cases hu : u = lo + n
        · rw [hu]; omega
        · exact ih u h1 (by omega)
theorem dueL_mem {c : Int → Nat} {lo : Int} : ∀ (n : Nat) {p : Int × Nat}, p ∈ dueL c lo n → p.2 = c p.1 ∧ lo ≤ p.1 ∧ p.1 < lo + n ∧ (p.1 = lo ∨ p.2 < c (p.1 - 1))
  | 0, p, h => by cases h
  | n + 1, p, h => by
    have up : p ∈ dueL c lo n → p.2 = c p.1 ∧ lo ≤ p.1 ∧ p.1 < lo + ((n + 1 : Nat) : Int) ∧ (p.1 = lo ∨ p.2 < c (p.1 - 1)) := fun h => by
      obtain ⟨a, b, c', d⟩ := dueL_mem n h
      exact ⟨a, b, by omega, d⟩
    by_cases h0 : n = 0
    · subst h0
      have e : p = (lo + ((0 : Nat) : Int), c (lo + ((0 : Nat) : Int))) := by
        have h' : p ∈ [(lo + ((0 : Nat) : Int), c (lo + ((0 : Nat) : Int)))] := h
        simpa using h'
      rw [e]
      exact ⟨rfl, by simp, by show lo + ((0 : Nat) : Int) < lo + ((0 + 1 : Nat) : Int); omega, .inl (by simp)⟩
    · unfold dueL at h
      split at h
      · rename_i e
        have e : p = (lo + (n : Int), c (lo + n)) := by simpa using h
        rename_i e0
        exfalso
        obtain ⟨m, rfl⟩ : ∃ m, n = m + 1 := ⟨n - 1, by omega⟩
        unfold dueL at e0
        split at e0
        · cases e0
        · split at e0
          · rw [List.getLast?_concat] at e0; cases e0
          · rename_i l2 e2 _
            rw [e0] at e2; cases e2
      · rename_i l e
        split at h
        · rename_i hc
          rcases List.mem_append.mp h with h | h
          · exact up h
          · have e2 : p = (lo + (n : Int), c (lo + n)) := by simpa using h
            rcases snoc_cases (dueL c lo n) with e3 | ⟨g, l', e3⟩
            · rw [e3] at e; cases e
            · rw [e3, List.getLast?_concat] at e
              cases e
              have := dueL_low n e3 (lo + n - 1) (by omega) (by omega)
              rw [e2]
              exact ⟨rfl, by omega, by omega, .inr (by show c (lo + n) < c (lo + n - 1); omega)⟩
        · exact up h
theorem Pdue.eq {ws : List Str} {D E : List (Int × Nat)} (h : Pdue ws D) (h' : Pdue ws E) : D = E := by
  rcases h with ⟨h, e⟩ | ⟨h, m, hm, e⟩ <;> rcases h' with ⟨h', e'⟩ | ⟨h', m', hm', e'⟩
  · rw [e, e']
  · exact absurd h h'
  · exact absurd h' h
  · rw [e, e', hm.eq hm']
theorem Pdue.ne {ws : List Str} {D : List (Int × Nat)} (h : Pdue ws D) : ∃ g l, D = g ++ [l] := by
  rcases h with ⟨h, e⟩ | ⟨h, m, hm, e⟩
  · exact ⟨[], _, e⟩
  · rcases snoc_cases D with h0 | h1
    · exfalso
      obtain ⟨v, hv, ev⟩ := hm.1
      have := tot_len hv
      rw [h0] at e
      unfold dueW at e
      rw [show (tot ws - m + 1).toNat = (tot ws - m).toNat + 1 by omega] at e
      unfold dueL at e
      split at e
      · cases e
      · split at e
        · simp at e
        · rename_i l e3 _
          rw [← e] at e3
          cases e3
    · exact h1
theorem Pdue.len {ws : List Str} {D : List (Int × Nat)} (h : Pdue ws D) (h12 : ∀ v, v ∈ ws → v.length ≤ 12) (hl : ws.length ≤ 40) : D.length ≤ 1000 := by
  rcases h with ⟨h, e⟩ | ⟨h, m, hm, e⟩
  · rw [e]; decide
  · rw [e]
    have := dueL_len (cW ws) m (tot ws - m + 1).toNat
    have := tot_le h12
    obtain ⟨v, hv, ev⟩ := hm.1
    unfold dueW
    omega
theorem tstairs_of {aT : Addr} {ws : List Str} {ls : List L} {Po : R → List PyData → Prop} {Pe : Addr → Prop} (e : ls = [.d (.list (ws.map .str))]) (hw : ∀ v, v ∈ ws → IsWord v) (hl : ws.length ≤ 700) (key : ∀ D, Pdue ws D → Po (.new (D.map stD)) []) : G_text_stairs aT ls Po Pe :=
  ⟨_, e, fun x hx => by
    obtain ⟨v, hv, rfl⟩ := List.mem_map.mp hx
    have := (hw v hv).2.1
    show v.length ≤ 100000
    omega, .inr ⟨ws, rfl, hw, hl, fun h0 => key [(1, 1)] (.inl ⟨h0, rfl⟩), fun h0 m hm => key _ (.inr ⟨h0, m, hm, rfl⟩)⟩⟩
theorem ok_law (T : Txt K mg) : FnOk P w K mg base CX0 5 T.f_law T.fd_law ["script"] (SpG K none G_law) := by
  refine T.d_law.F.ok sc_law (SpG.len (n := 1) fun ls Po Pe h => by obtain ⟨_, rfl, _⟩ := h; rfl) (fun cdv A outer s H vs Q E hr h => ⟨_, (pss_cons (ps_set (i := 1) sc_law.nd rfl (.inr rfl) (pe_op op_modN (pe_call (ok_law_cell_at T) (hr.mono (by decide)) (by rfl) T.d_law_cell_at.g T.d_law_cell_at.kp T.d_law_cell_at.b .nil pass0 (pa_cons (pv 0) (pa_cons pe_int pa_nil))) pe_int))
 (pss_cons (ps_setLc (i := 2) (own := [("k", 3)]) (g := _) (tt := _) rfl sc_law.nd rfl rfl (sw_true rfl rfl rfl (by decide +kernel)) (pi_range1 (by rfl) T.b_range (pa_cons (pe_callB (call_min2 rfl) (by rfl) T.b_min (by decide +kernel) (pa_cons pe_int (pa_cons (pe_callB (call_max2 rfl) (by rfl) T.b_max (by decide +kernel) (pa_cons pe_int (pa_cons (pe_op op_sub (pe_callB (k_len K) (by rfl) T.b_len PySem.boot_len (pa_cons (pv 0) pa_nil)) pe_int) pa_nil))) pa_nil))) pa_nil)) (blkOk_by (N := N_law) (sc := defScope s_law) (by decide +kernel)) (fun _ _ _ _ _ => (pg_name (i := 3) sc_law.nd rfl (Or.inl rfl))) (fun _ _ _ _ _ => pts_nil) (fun _ _ _ _ _ => (pe_callB (k_sum K rfl rfl) (by rfl) T.b_sum (by decide +kernel) (pa_cons (k_slice3 K rfl (pv 0) (po_some (pe_op (k_plus K) pe_int (pv 3))) (po_some pe_int) (po_some pe_int)) pa_nil))))
 (pss_cons (ps_setLc (i := 4) (own := [("cell", 5)]) (g := _) (tt := _) rfl sc_law.nd rfl rfl (sw_true rfl rfl rfl (by decide +kernel)) (k_piL K rfl (pv 2)) (blkOk_by (N := N_law) (sc := defScope s_law) (by decide +kernel)) (fun _ _ _ _ _ => (pg_name (i := 5) sc_law.nd rfl (Or.inl rfl))) (fun _ _ _ _ _ => pts_nil) (fun _ _ _ _ _ => (pe_call (ok_law_word T) (hr.mono (by decide)) (by rfl) T.d_law_word.g T.d_law_word.kp T.d_law_word.b .nil pass0 (pa_cons (pv 5) (pa_cons (pv 1) pa_nil)))))
 (pss_cons (ps_set (i := 6) sc_law.nd rfl (.inl rfl) (pe_call (ok_law_due T) (hr.mono (by decide)) (by rfl) T.d_law_due.g T.d_law_due.kp T.d_law_due.b .nil pass0 (pa_cons (pv 4) pa_nil)))
 (pss_cons (ps_set (i := 7) sc_law.nd rfl (.inl rfl) (pe_callTy (k_listOf K) (by rfl) T.b_list (by decide +kernel) (pa_cons (pv 4) pa_nil)))
 (pss_cons (ps_setO (i := 8) sc_law.nd rfl (.inl rfl) (pe_call (ok_text_stairs T) (hr.mono (by decide)) (by rfl) T.d_text_stairs.g T.d_text_stairs.kp T.d_text_stairs.b .nil passL (pa_cons (pv 7) pa_nil)))
 (pss_cons (ps_if (PW.pt (pw_or (pt_not (pt_val (pe_ro (pe_call (ok_law_told T) (hr.mono (by decide)) (by rfl) T.d_law_told.g T.d_law_told.kp T.d_law_told.b .nil pass0 (pa_cons (pv 8) (pa_cons (pv 6) pa_nil)))))) (pw_or1 (pt_cmpR (k_neD K rfl hr.units) (pv 7) (pv 4) (nomark _))))) (pss_one (ps_ret pe_bl)) pss_nil)
 (pss_cons (ps_for PassesOwn.never rfl (k_piL K rfl (pv 6)) (k_gTup K rfl rfl (pgs_cons (pg_name (i := 9) sc_law.nd rfl (Or.inl rfl)) (pgs_cons (pg_name (i := 10) sc_law.nd rfl (Or.inl rfl)) pgs_nil))) (pss_one (ps_if (PW.pt (pw_and (pt_cmpR (k_neD K rfl hr.units) (pv 4) (pe_lst pa_nil) (nomark _)) (pw_and1 (PW.pt (pw_or (pt_cmpR (k_neD K rfl hr.units) (pe_call (ok_law_many T) hr (by rfl) T.d_law_many.g T.d_law_many.kp T.d_law_many.b .nil pass0 (pa_cons (pv 4) (pa_cons (pv 9) pa_nil))) (pv 10) (nomark _)) (pw_or1 (pt_cmpR op_le (pe_call (ok_law_many T) hr (by rfl) T.d_law_many.g T.d_law_many.kp T.d_law_many.b .nil pass0 (pa_cons (pv 4) (pa_cons (pe_op op_sub (pv 9) pe_int) pa_nil))) (pv 10) (nomark _)))))))) (pss_one (ps_ret pe_bl)) pss_nil)))
 (pss_cons (ps_expr (k_bm0 K rfl PySem.F.plainAttrs_list PySem.F.slot_list_pop PySem.F.type_list_pop mt_pop (pv 8)))
 (pss_one (ps_ret (pe_call (ok_law_told T) (hr.mono (by decide)) (by rfl) T.d_law_told.g T.d_law_told.kp T.d_law_told.b .nil pass0 (pa_cons (pe_call (ok_text_stairs T) (hr.mono (by decide)) (by rfl) T.d_text_stairs.g T.d_text_stairs.kp T.d_text_stairs.b .nil passL (pa_cons (pv 7) pa_nil)) (pa_cons (pv 6) pa_nil)))))))))))))), rd_of h fun B ls Po Pe hB hG hE => ?_⟩)
  obtain ⟨ns, rfl, hn, q⟩ := hG
  show WS B K _ [some (.scr ns), none, none, none, none, none, none, none, none, none, none] _
  walk_at "sn"
  refine ⟨ns, 0, rfl, by omega, fun z => ?_⟩
  walk_at "sn"
  refine wd_e (we_lc1 (fun (_ : Int) o => ∃ x : Int, o = some (.int x)) (.name 3) ?_)
  walk_at "sn"
  refine ⟨fun a ha B' hB' => ?_, fun ys hy => ?_⟩
  · walk_at "sn"
    refine wd_sum ?_
    walk_at "sn"
    refine ⟨by decide, fun ms hms => ⟨_, rfl, ms, rfl, ?_⟩⟩
    exact ⟨_, rfl⟩
  have hcells : ∃ cs : List Int, ys = cs.map .int ∧ cs.length ≤ 40 := by
    have hl := Sel.len hy
    rw [ixs_len] at hl
    have key : ∀ {xs : List Int} {ys : List PyData}, Sel (fun (_ : Int) o => ∃ x : Int, o = some (.int x)) xs ys → ∃ cs : List Int, ys = cs.map .int := by
      intro xs ys h
      induction h with
      | nil => exact ⟨[], rfl⟩
      | yes _ hp ih =>
        obtain ⟨cs, rfl⟩ := ih
        obtain ⟨x, e⟩ := hp
        cases e
        exact ⟨cs ++ [x], by rw [List.map_append]; rfl⟩
      | no _ hp => obtain ⟨x, e⟩ := hp; cases e
    obtain ⟨cs, rfl⟩ := key hy
    rw [List.length_map] at hl
    refine ⟨cs, rfl, Nat.le_trans hl ?_⟩
    split <;> (try split) <;> omega
  obtain ⟨cs, rfl, hcl⟩ := hcells
  walk_at "sn"
  refine wd_e (we_lcL PyData.int (fun (_ : Int) o => ∃ x, IsWord x ∧ o = some (.str x)) (.name 5) ?_)
  walk_at "sn"
  refine ⟨fun a ha B' hB' => ?_, fun ys hy => ?_⟩
  · walk_at "sn"
    exact ⟨_, _, rfl, fun x hx => ⟨_, rfl, x, hx, rfl⟩⟩
  obtain ⟨ws, rfl, hw, hl⟩ := words_of hy
  clear hy
  have h12 : ∀ v, v ∈ ws → v.length ≤ 12 := fun v hv => (hw v hv).2.1
  have hok : ∀ v, v ∈ ws → PyData.strOk v = true := fun v hv => strOk_word (hw v hv)
  have hwl : ws.length ≤ 40 := by omega
  walk_at "sn"
  refine ⟨ws, rfl, ⟨by omega, h12, hok⟩, fun D hD => ?_⟩
  have hDl := hD.len h12 hwl
  walk_at "sn"
  refine tstairs_of rfl hw (by omega) fun D2 hD2 => ?_
  obtain rfl := hD.eq hD2
  walk_at "sn"
  walk_at "sv"
  · refine ⟨D, rfl, by omega, rfl, ?_⟩
    walk_at "sv"
    rotate_left
    · exact absurd rfl hc
    refine ws_forL stD ?_
    walk_at "sv"
    refine ⟨fun pre ρ => ∃ o9 o10, ρ = [some (.scr ns), some (.d (.int (z % 2))), some (.d (.list (cs.map .int))), none, some (.d (.list (ws.map .str))), none, some (.d (.list (D.map stD))), some (.d (.list (ws.map .str))), some (.own (D.map stD)), o9, o10], ⟨_, _, rfl⟩, fun pre a post ρ2 ha hI => ?_, fun ρ2 hI => ?_⟩
    · obtain ⟨o9, o10, rfl⟩ := hI
      have hm : a ∈ D := by rw [ha]; simp
      show WG B K _ (.tuple [.int a.1, .int (a.2 : Int)]) _ _
      walk_at "sv"
      · exact ⟨_, _, rfl⟩
      · rcases hD with ⟨h0, e0⟩ | ⟨h0, m, hM, e0⟩
        · exact absurd (by rw [h0]; rfl) hc
        obtain ⟨p1, p2, p3, p4⟩ := dueL_mem _ (show a ∈ dueL (cW ws) m (tot ws - m + 1).toNat by rw [e0] at hm; exact hm)
        have hfit : ∀ v, v ∈ ws → (v.length : Int) ≤ a.1 := fun v hv => by have := hM.2 v hv; omega
        refine ⟨ws, a.1, rfl, ⟨by omega, hw⟩, fun _ => ?_, fun ⟨v, hv, hn⟩ => absurd (hfit v hv) hn⟩
        walk_at "sv"
        rotate_left
        · exact absurd (by rw [p1]) hc
        have hcw : cW ws a.1 ≤ 40 := by have := lines_len (w := a.1) ws; unfold cW; omega
        refine ⟨ws, a.1 - 1, rfl, ⟨by omega, hw⟩, fun hf1 => ?_, fun hn => ?_⟩
        · have hlt : a.2 < cW ws (a.1 - 1) := by
            rcases p4 with h | h
            · obtain ⟨v, hv, ev⟩ := hM.1
              have := hf1 v hv
              omega
            · exact h
          walk_at "sv"
          · omega
          · exact ⟨_, _, rfl⟩
        · walk_at "sv"
          · omega
          · exact ⟨_, _, rfl⟩
    · obtain ⟨o9, o10, rfl⟩ := hI
      obtain ⟨g, l, e⟩ := hD.ne
      walk_at "sv"
      refine wd_e (we_pop (y := stD l) (by exact rfl) (by rw [e]; simp) ?_)
      walk_at "sv"
      refine tstairs_of rfl hw (by omega) fun D3 hD3 => ?_
      obtain rfl := hD.eq hD3
      walk_at "sv"
      exact ⟨D, rfl, by omega, q⟩


end
theorem all_mk {l : PySem.W.OpenLaw} {w : World} {K : Fr} {h : Heap} {mg : Str → Option Value} {fa : Addr} (X : K.In h) (G : h.Ns mainGlobals mg) (hfa : mg "law" = some (.ref fa))
    {t_MOST_SIGNS : Tok}
    {t_SIGNS : Tok}
    {a_PartError : Addr}
    {a_NoTexts : Addr}
    {a_NoRoom : Addr}
    {f_is_word : Addr} {od_is_word an_is_word : Option Addr} {sl_is_word : Array (Option Value)} {oc_is_word kV_is_word dc_is_word pm_is_word cd_is_word ct_is_word : Value}
    {f_need_words : Addr} {od_need_words an_need_words : Option Addr} {sl_need_words : Array (Option Value)} {oc_need_words kV_need_words dc_need_words pm_need_words cd_need_words ct_need_words : Value}
    {f_put_word : Addr} {od_put_word an_put_word : Option Addr} {sl_put_word : Array (Option Value)} {oc_put_word kV_put_word dc_put_word pm_put_word cd_put_word ct_put_word : Value}
    {f_lines : Addr} {od_lines an_lines : Option Addr} {sl_lines : Array (Option Value)} {oc_lines kV_lines dc_lines pm_lines cd_lines ct_lines : Value}
    {f_taken : Addr} {od_taken an_taken : Option Addr} {sl_taken : Array (Option Value)} {oc_taken kV_taken dc_taken pm_taken cd_taken ct_taken : Value}
    {f_next_stair : Addr} {od_next_stair an_next_stair : Option Addr} {sl_next_stair : Array (Option Value)} {oc_next_stair kV_next_stair dc_next_stair pm_next_stair cd_next_stair ct_next_stair : Value}
    {f_text_stairs : Addr} {od_text_stairs an_text_stairs : Option Addr} {sl_text_stairs : Array (Option Value)} {oc_text_stairs kV_text_stairs dc_text_stairs pm_text_stairs cd_text_stairs ct_text_stairs : Value}
    {f_law_cell_at : Addr} {od_law_cell_at an_law_cell_at : Option Addr} {sl_law_cell_at : Array (Option Value)} {oc_law_cell_at kV_law_cell_at dc_law_cell_at pm_law_cell_at cd_law_cell_at ct_law_cell_at : Value}
    {f_law_take : Addr} {od_law_take an_law_take : Option Addr} {sl_law_take : Array (Option Value)} {oc_law_take kV_law_take dc_law_take pm_law_take cd_law_take ct_law_take : Value}
    {f_law_word : Addr} {od_law_word an_law_word : Option Addr} {sl_law_word : Array (Option Value)} {oc_law_word kV_law_word dc_law_word pm_law_word cd_law_word ct_law_word : Value}
    {f_law_count : Addr} {od_law_count an_law_count : Option Addr} {sl_law_count : Array (Option Value)} {oc_law_count kV_law_count dc_law_count pm_law_count cd_law_count ct_law_count : Value}
    {f_law_due : Addr} {od_law_due an_law_due : Option Addr} {sl_law_due : Array (Option Value)} {oc_law_due kV_law_due dc_law_due pm_law_due cd_law_due ct_law_due : Value}
    {f_law_told : Addr} {od_law_told an_law_told : Option Addr} {sl_law_told : Array (Option Value)} {oc_law_told kV_law_told dc_law_told pm_law_told cd_law_told ct_law_told : Value}
    {f_law_many : Addr} {od_law_many an_law_many : Option Addr} {sl_law_many : Array (Option Value)} {oc_law_many kV_law_many dc_law_many pm_law_many cd_law_many ct_law_many : Value}
    {f_law : Addr} {od_law an_law : Option Addr} {sl_law : Array (Option Value)} {oc_law kV_law dc_law pm_law cd_law ct_law : Value}
    (z_ValueError : PySem.W.nsIn K mainGlobals "ValueError" = some none)
    (z_bool : PySem.W.nsIn K mainGlobals "bool" = some none)
    (z_int : PySem.W.nsIn K mainGlobals "int" = some none)
    (z_isinstance : PySem.W.nsIn K mainGlobals "isinstance" = some none)
    (z_len : PySem.W.nsIn K mainGlobals "len" = some none)
    (z_list : PySem.W.nsIn K mainGlobals "list" = some none)
    (z_max : PySem.W.nsIn K mainGlobals "max" = some none)
    (z_min : PySem.W.nsIn K mainGlobals "min" = some none)
    (z_range : PySem.W.nsIn K mainGlobals "range" = some none)
    (z_str : PySem.W.nsIn K mainGlobals "str" = some none)
    (z_sum : PySem.W.nsIn K mainGlobals "sum" = some none)
    (z_tuple : PySem.W.nsIn K mainGlobals "tuple" = some none)
    (c_MOST_SIGNS : PySem.W.nsIn K mainGlobals "MOST_SIGNS" = some (some (.int 12 t_MOST_SIGNS)))
    (c_SIGNS : PySem.W.nsIn K mainGlobals "SIGNS" = some (some (.str "!\"#$&'()*+,-./0123456789:;<=>?@ABCDEFGHIJKLMNOPQRSTUVWXYZ[\\]^_`abcdefghijklmnopqrstuvwxyz{|}~" t_SIGNS)))
    (n_PartError : PySem.W.nsIn K mainGlobals "PartError" = some (some (.ref a_PartError)))
    (x_PartError : PySem.W.excIn K a_PartError veX "ValueError.__new__" = true)
    (k_PartError : PySem.W.keepIn K (.ref a_PartError) = true)
    (s_PartError : PySem.W.subIn K (.ref a_PartError) (.type "BaseException") = some true)
    (y_PartError : PySem.W.typeIn K (.ref a_PartError) = some (.type "type"))
    (n_NoTexts : PySem.W.nsIn K mainGlobals "NoTexts" = some (some (.ref a_NoTexts)))
    (x_NoTexts : PySem.W.excIn K a_NoTexts veX "ValueError.__new__" = true)
    (k_NoTexts : PySem.W.keepIn K (.ref a_NoTexts) = true)
    (s_NoTexts : PySem.W.subIn K (.ref a_NoTexts) (.type "BaseException") = some true)
    (y_NoTexts : PySem.W.typeIn K (.ref a_NoTexts) = some (.type "type"))
    (n_NoRoom : PySem.W.nsIn K mainGlobals "NoRoom" = some (some (.ref a_NoRoom)))
    (x_NoRoom : PySem.W.excIn K a_NoRoom veX "ValueError.__new__" = true)
    (k_NoRoom : PySem.W.keepIn K (.ref a_NoRoom) = true)
    (s_NoRoom : PySem.W.subIn K (.ref a_NoRoom) (.type "BaseException") = some true)
    (y_NoRoom : PySem.W.typeIn K (.ref a_NoRoom) = some (.type "type"))
    (n_is_word : PySem.W.nsIn K mainGlobals "is_word" = some (some (.ref f_is_word)))
    (l_is_word : K.lookup f_is_word = some ⟨oc_is_word, od_is_word, .func (PySem.W.fnOf "is_word" "is_word" (defArgs s_is_word) (defBody s_is_word) (defScope s_is_word) .none kV_is_word dc_is_word pm_is_word an_is_word cd_is_word ct_is_word), sl_is_word⟩)
    (c_is_word : PySem.W.codeIn K cd_is_word "is_word" = true)
    (k_is_word : PySem.W.keepIn K (.ref f_is_word) = true)
    (n_need_words : PySem.W.nsIn K mainGlobals "need_words" = some (some (.ref f_need_words)))
    (l_need_words : K.lookup f_need_words = some ⟨oc_need_words, od_need_words, .func (PySem.W.fnOf "need_words" "need_words" (defArgs s_need_words) (defBody s_need_words) (defScope s_need_words) .none kV_need_words dc_need_words pm_need_words an_need_words cd_need_words ct_need_words), sl_need_words⟩)
    (c_need_words : PySem.W.codeIn K cd_need_words "need_words" = true)
    (k_need_words : PySem.W.keepIn K (.ref f_need_words) = true)
    (n_put_word : PySem.W.nsIn K mainGlobals "put_word" = some (some (.ref f_put_word)))
    (l_put_word : K.lookup f_put_word = some ⟨oc_put_word, od_put_word, .func (PySem.W.fnOf "put_word" "put_word" (defArgs s_put_word) (defBody s_put_word) (defScope s_put_word) .none kV_put_word dc_put_word pm_put_word an_put_word cd_put_word ct_put_word), sl_put_word⟩)
    (c_put_word : PySem.W.codeIn K cd_put_word "put_word" = true)
    (k_put_word : PySem.W.keepIn K (.ref f_put_word) = true)
    (n_lines : PySem.W.nsIn K mainGlobals "lines" = some (some (.ref f_lines)))
    (l_lines : K.lookup f_lines = some ⟨oc_lines, od_lines, .func (PySem.W.fnOf "lines" "lines" (defArgs s_lines) (defBody s_lines) (defScope s_lines) .none kV_lines dc_lines pm_lines an_lines cd_lines ct_lines), sl_lines⟩)
    (c_lines : PySem.W.codeIn K cd_lines "lines" = true)
    (k_lines : PySem.W.keepIn K (.ref f_lines) = true)
    (n_taken : PySem.W.nsIn K mainGlobals "taken" = some (some (.ref f_taken)))
    (l_taken : K.lookup f_taken = some ⟨oc_taken, od_taken, .func (PySem.W.fnOf "taken" "taken" (defArgs s_taken) (defBody s_taken) (defScope s_taken) .none kV_taken dc_taken pm_taken an_taken cd_taken ct_taken), sl_taken⟩)
    (c_taken : PySem.W.codeIn K cd_taken "taken" = true)
    (k_taken : PySem.W.keepIn K (.ref f_taken) = true)
    (n_next_stair : PySem.W.nsIn K mainGlobals "next_stair" = some (some (.ref f_next_stair)))
    (l_next_stair : K.lookup f_next_stair = some ⟨oc_next_stair, od_next_stair, .func (PySem.W.fnOf "next_stair" "next_stair" (defArgs s_next_stair) (defBody s_next_stair) (defScope s_next_stair) .none kV_next_stair dc_next_stair pm_next_stair an_next_stair cd_next_stair ct_next_stair), sl_next_stair⟩)
    (c_next_stair : PySem.W.codeIn K cd_next_stair "next_stair" = true)
    (k_next_stair : PySem.W.keepIn K (.ref f_next_stair) = true)
    (n_text_stairs : PySem.W.nsIn K mainGlobals "text_stairs" = some (some (.ref f_text_stairs)))
    (l_text_stairs : K.lookup f_text_stairs = some ⟨oc_text_stairs, od_text_stairs, .func (PySem.W.fnOf "text_stairs" "text_stairs" (defArgs s_text_stairs) (defBody s_text_stairs) (defScope s_text_stairs) .none kV_text_stairs dc_text_stairs pm_text_stairs an_text_stairs cd_text_stairs ct_text_stairs), sl_text_stairs⟩)
    (c_text_stairs : PySem.W.codeIn K cd_text_stairs "text_stairs" = true)
    (k_text_stairs : PySem.W.keepIn K (.ref f_text_stairs) = true)
    (n_law_cell_at : PySem.W.nsIn K mainGlobals "_law_cell_at" = some (some (.ref f_law_cell_at)))
    (l_law_cell_at : K.lookup f_law_cell_at = some ⟨oc_law_cell_at, od_law_cell_at, .func (PySem.W.fnOf "_law_cell_at" "_law_cell_at" (defArgs s_law_cell_at) (defBody s_law_cell_at) (defScope s_law_cell_at) .none kV_law_cell_at dc_law_cell_at pm_law_cell_at an_law_cell_at cd_law_cell_at ct_law_cell_at), sl_law_cell_at⟩)
    (c_law_cell_at : PySem.W.codeIn K cd_law_cell_at "_law_cell_at" = true)
    (k_law_cell_at : PySem.W.keepIn K (.ref f_law_cell_at) = true)
    (n_law_take : PySem.W.nsIn K mainGlobals "_law_take" = some (some (.ref f_law_take)))
    (l_law_take : K.lookup f_law_take = some ⟨oc_law_take, od_law_take, .func (PySem.W.fnOf "_law_take" "_law_take" (defArgs s_law_take) (defBody s_law_take) (defScope s_law_take) .none kV_law_take dc_law_take pm_law_take an_law_take cd_law_take ct_law_take), sl_law_take⟩)
    (c_law_take : PySem.W.codeIn K cd_law_take "_law_take" = true)
    (k_law_take : PySem.W.keepIn K (.ref f_law_take) = true)
    (n_law_word : PySem.W.nsIn K mainGlobals "_law_word" = some (some (.ref f_law_word)))
    (l_law_word : K.lookup f_law_word = some ⟨oc_law_word, od_law_word, .func (PySem.W.fnOf "_law_word" "_law_word" (defArgs s_law_word) (defBody s_law_word) (defScope s_law_word) .none kV_law_word dc_law_word pm_law_word an_law_word cd_law_word ct_law_word), sl_law_word⟩)
    (c_law_word : PySem.W.codeIn K cd_law_word "_law_word" = true)
    (k_law_word : PySem.W.keepIn K (.ref f_law_word) = true)
    (n_law_count : PySem.W.nsIn K mainGlobals "_law_count" = some (some (.ref f_law_count)))
    (l_law_count : K.lookup f_law_count = some ⟨oc_law_count, od_law_count, .func (PySem.W.fnOf "_law_count" "_law_count" (defArgs s_law_count) (defBody s_law_count) (defScope s_law_count) .none kV_law_count dc_law_count pm_law_count an_law_count cd_law_count ct_law_count), sl_law_count⟩)
    (c_law_count : PySem.W.codeIn K cd_law_count "_law_count" = true)
    (k_law_count : PySem.W.keepIn K (.ref f_law_count) = true)
    (n_law_due : PySem.W.nsIn K mainGlobals "_law_due" = some (some (.ref f_law_due)))
    (l_law_due : K.lookup f_law_due = some ⟨oc_law_due, od_law_due, .func (PySem.W.fnOf "_law_due" "_law_due" (defArgs s_law_due) (defBody s_law_due) (defScope s_law_due) .none kV_law_due dc_law_due pm_law_due an_law_due cd_law_due ct_law_due), sl_law_due⟩)
    (c_law_due : PySem.W.codeIn K cd_law_due "_law_due" = true)
    (k_law_due : PySem.W.keepIn K (.ref f_law_due) = true)
    (n_law_told : PySem.W.nsIn K mainGlobals "_law_told" = some (some (.ref f_law_told)))
    (l_law_told : K.lookup f_law_told = some ⟨oc_law_told, od_law_told, .func (PySem.W.fnOf "_law_told" "_law_told" (defArgs s_law_told) (defBody s_law_told) (defScope s_law_told) .none kV_law_told dc_law_told pm_law_told an_law_told cd_law_told ct_law_told), sl_law_told⟩)
    (c_law_told : PySem.W.codeIn K cd_law_told "_law_told" = true)
    (k_law_told : PySem.W.keepIn K (.ref f_law_told) = true)
    (n_law_many : PySem.W.nsIn K mainGlobals "_law_many" = some (some (.ref f_law_many)))
    (l_law_many : K.lookup f_law_many = some ⟨oc_law_many, od_law_many, .func (PySem.W.fnOf "_law_many" "_law_many" (defArgs s_law_many) (defBody s_law_many) (defScope s_law_many) .none kV_law_many dc_law_many pm_law_many an_law_many cd_law_many ct_law_many), sl_law_many⟩)
    (c_law_many : PySem.W.codeIn K cd_law_many "_law_many" = true)
    (k_law_many : PySem.W.keepIn K (.ref f_law_many) = true)
    (n_law : PySem.W.nsIn K mainGlobals "law" = some (some (.ref f_law)))
    (l_law : K.lookup f_law = some ⟨oc_law, od_law, .func (PySem.W.fnOf "law" "law" (defArgs s_law) (defBody s_law) (defScope s_law) .none kV_law dc_law pm_law an_law cd_law ct_law), sl_law⟩)
    (c_law : PySem.W.codeIn K cd_law "law" = true)
    (k_law : PySem.W.keepIn K (.ref f_law) = true)
    (v_e_NoRoom : ExcC K a_NoRoom)
    (v_m_NoRoom_NoRoom : PySem.W.exmOne K (.ref a_NoRoom) (.ref a_NoRoom) = some true) :
    ∃ fd : FuncData, (∀ (s : Shared) (v : Value), BindsTo s fd ⟨[v], []⟩ [("script", v)]) ∧ ∀ base : Heap, K.In base → base.Ns mainGlobals mg → FnOk l.prog w K mg base CX0 5 fa fd ["script"] (SpG K none G_law) := by
  have e2 : f_law = fa := (Value.ref.inj (Option.some.inj (hfa.symm.trans (PySem.W.mg_of X G n_law)))).symm
  subst e2
  let T : Txt K mg :=
    { b_ValueError := PySem.W.mg_none_of X G z_ValueError
      b_bool := PySem.W.mg_none_of X G z_bool
      b_int := PySem.W.mg_none_of X G z_int
      b_isinstance := PySem.W.mg_none_of X G z_isinstance
      b_len := PySem.W.mg_none_of X G z_len
      b_list := PySem.W.mg_none_of X G z_list
      b_max := PySem.W.mg_none_of X G z_max
      b_min := PySem.W.mg_none_of X G z_min
      b_range := PySem.W.mg_none_of X G z_range
      b_str := PySem.W.mg_none_of X G z_str
      b_sum := PySem.W.mg_none_of X G z_sum
      b_tuple := PySem.W.mg_none_of X G z_tuple
      t_MOST_SIGNS := t_MOST_SIGNS
      c_MOST_SIGNS := PySem.W.mg_of X G c_MOST_SIGNS
      t_SIGNS := t_SIGNS
      c_SIGNS := PySem.W.mg_of X G c_SIGNS
      a_PartError := a_PartError
      PartError := ⟨PySem.W.mg_of X G n_PartError, x_PartError, k_PartError, s_PartError, y_PartError⟩
      a_NoTexts := a_NoTexts
      NoTexts := ⟨PySem.W.mg_of X G n_NoTexts, x_NoTexts, k_NoTexts, s_NoTexts, y_NoTexts⟩
      a_NoRoom := a_NoRoom
      NoRoom := ⟨PySem.W.mg_of X G n_NoRoom, x_NoRoom, k_NoRoom, s_NoRoom, y_NoRoom⟩
      f_is_word := f_is_word
      fd_is_word := _
      d_is_word := ⟨fun_mk (st := s_is_word) l_is_word c_is_word k_is_word, PySem.W.mg_of X G n_is_word, (fun_mk (st := s_is_word) l_is_word c_is_word k_is_word).binds (ps := ["thing"]) fun _ _ _ _ _ _ us hl => match us, hl with | [_], _ => rfl⟩
      f_need_words := f_need_words
      fd_need_words := _
      d_need_words := ⟨fun_mk (st := s_need_words) l_need_words c_need_words k_need_words, PySem.W.mg_of X G n_need_words, (fun_mk (st := s_need_words) l_need_words c_need_words k_need_words).binds (ps := ["things"]) fun _ _ _ _ _ _ us hl => match us, hl with | [_], _ => rfl⟩
      f_put_word := f_put_word
      fd_put_word := _
      d_put_word := ⟨fun_mk (st := s_put_word) l_put_word c_put_word k_put_word, PySem.W.mg_of X G n_put_word, (fun_mk (st := s_put_word) l_put_word c_put_word k_put_word).binds (ps := ["found", "word", "wide"]) fun _ _ _ _ _ _ us hl => match us, hl with | [_, _, _], _ => rfl⟩
      f_lines := f_lines
      fd_lines := _
      d_lines := ⟨fun_mk (st := s_lines) l_lines c_lines k_lines, PySem.W.mg_of X G n_lines, (fun_mk (st := s_lines) l_lines c_lines k_lines).binds (ps := ["words", "wide"]) fun _ _ _ _ _ _ us hl => match us, hl with | [_, _], _ => rfl⟩
      f_taken := f_taken
      fd_taken := _
      d_taken := ⟨fun_mk (st := s_taken) l_taken c_taken k_taken, PySem.W.mg_of X G n_taken, (fun_mk (st := s_taken) l_taken c_taken k_taken).binds (ps := ["sizes", "wide"]) fun _ _ _ _ _ _ us hl => match us, hl with | [_, _], _ => rfl⟩
      f_next_stair := f_next_stair
      fd_next_stair := _
      d_next_stair := ⟨fun_mk (st := s_next_stair) l_next_stair c_next_stair k_next_stair, PySem.W.mg_of X G n_next_stair, (fun_mk (st := s_next_stair) l_next_stair c_next_stair k_next_stair).binds (ps := ["sizes", "wide", "many", "whole"]) fun _ _ _ _ _ _ us hl => match us, hl with | [_, _, _, _], _ => rfl⟩
      f_text_stairs := f_text_stairs
      fd_text_stairs := _
      d_text_stairs := ⟨fun_mk (st := s_text_stairs) l_text_stairs c_text_stairs k_text_stairs, PySem.W.mg_of X G n_text_stairs, (fun_mk (st := s_text_stairs) l_text_stairs c_text_stairs k_text_stairs).binds (ps := ["words"]) fun _ _ _ _ _ _ us hl => match us, hl with | [_], _ => rfl⟩
      f_law_cell_at := f_law_cell_at
      fd_law_cell_at := _
      d_law_cell_at := ⟨fun_mk (st := s_law_cell_at) l_law_cell_at c_law_cell_at k_law_cell_at, PySem.W.mg_of X G n_law_cell_at, (fun_mk (st := s_law_cell_at) l_law_cell_at c_law_cell_at k_law_cell_at).binds (ps := ["script", "k"]) fun _ _ _ _ _ _ us hl => match us, hl with | [_, _], _ => rfl⟩
      f_law_take := f_law_take
      fd_law_take := _
      d_law_take := ⟨fun_mk (st := s_law_take) l_law_take c_law_take k_law_take, PySem.W.mg_of X G n_law_take, (fun_mk (st := s_law_take) l_law_take c_law_take k_law_take).binds (ps := ["deck", "many"]) fun _ _ _ _ _ _ us hl => match us, hl with | [_, _], _ => rfl⟩
      f_law_word := f_law_word
      fd_law_word := _
      d_law_word := ⟨fun_mk (st := s_law_word) l_law_word c_law_word k_law_word, PySem.W.mg_of X G n_law_word, (fun_mk (st := s_law_word) l_law_word c_law_word k_law_word).binds (ps := ["cell", "way"]) fun _ _ _ _ _ _ us hl => match us, hl with | [_, _], _ => rfl⟩
      f_law_count := f_law_count
      fd_law_count := _
      d_law_count := ⟨fun_mk (st := s_law_count) l_law_count c_law_count k_law_count, PySem.W.mg_of X G n_law_count, (fun_mk (st := s_law_count) l_law_count c_law_count k_law_count).binds (ps := ["words", "wide"]) fun _ _ _ _ _ _ us hl => match us, hl with | [_, _], _ => rfl⟩
      f_law_due := f_law_due
      fd_law_due := _
      d_law_due := ⟨fun_mk (st := s_law_due) l_law_due c_law_due k_law_due, PySem.W.mg_of X G n_law_due, (fun_mk (st := s_law_due) l_law_due c_law_due k_law_due).binds (ps := ["words"]) fun _ _ _ _ _ _ us hl => match us, hl with | [_], _ => rfl⟩
      f_law_told := f_law_told
      fd_law_told := _
      d_law_told := ⟨fun_mk (st := s_law_told) l_law_told c_law_told k_law_told, PySem.W.mg_of X G n_law_told, (fun_mk (st := s_law_told) l_law_told c_law_told k_law_told).binds (ps := ["found", "due"]) fun _ _ _ _ _ _ us hl => match us, hl with | [_, _], _ => rfl⟩
      f_law_many := f_law_many
      fd_law_many := _
      d_law_many := ⟨fun_mk (st := s_law_many) l_law_many c_law_many k_law_many, PySem.W.mg_of X G n_law_many, (fun_mk (st := s_law_many) l_law_many c_law_many k_law_many).binds (ps := ["words", "wide"]) fun _ _ _ _ _ _ us hl => match us, hl with | [_, _], _ => rfl⟩
      f_law := f_law
      fd_law := _
      d_law := ⟨fun_mk (st := s_law) l_law c_law k_law, PySem.W.mg_of X G n_law, (fun_mk (st := s_law) l_law c_law k_law).binds (ps := ["script"]) fun _ _ _ _ _ _ us hl => match us, hl with | [_], _ => rfl⟩
      e_NoRoom := v_e_NoRoom
      m_NoRoom_NoRoom := v_m_NoRoom_NoRoom }
  exact ⟨T.fd_law, fun s v => .of_eq rfl, fun base _ _ => ok_law T⟩
end SV
open PySem PySem.W PyProof.Rows
set_option maxHeartbeats 0 in
theorem PySem.Challenge.cw_pagepart_k53_text_stairs_holds : PySem.Challenge.rw_pagepart_k53_text_stairs.Holds := by
  w_on; o_law; k_head; (case hw => w_witness2)
  k_fill
  refine L2.walk_of (l := PySem.Challenge.rw_pagepart_k53_text_stairs) (n := 63) (k := 5) (x := "script") (CX := fun _ => L2.CX0) (sp := fun w => SV.SpG _ none SV.G_law) rfl (by decide) rfl ⟨rfl, by decide, by decide⟩ (fun w h Y => PySem.W.kIn_of Y) ?F (fun _ H a ns hl _ hS => SV.law_sp hS hl) (fun _ _ _ _ _ h => h)
  case F =>
    intro w mg fa h KX G hmg
    refine' SV.all_mk KX G hmg ?z_ValueError ?z_bool ?z_int ?z_isinstance ?z_len ?z_list ?z_max ?z_min ?z_range ?z_str ?z_sum ?z_tuple ?c_MOST_SIGNS ?c_SIGNS ?n_PartError ?x_PartError ?k_PartError ?s_PartError ?y_PartError ?n_NoTexts ?x_NoTexts ?k_NoTexts ?s_NoTexts ?y_NoTexts ?n_NoRoom ?x_NoRoom ?k_NoRoom ?s_NoRoom ?y_NoRoom ?n_is_word ?l_is_word ?c_is_word ?k_is_word ?n_need_words ?l_need_words ?c_need_words ?k_need_words ?n_put_word ?l_put_word ?c_put_word ?k_put_word ?n_lines ?l_lines ?c_lines ?k_lines ?n_taken ?l_taken ?c_taken ?k_taken ?n_next_stair ?l_next_stair ?c_next_stair ?k_next_stair ?n_text_stairs ?l_text_stairs ?c_text_stairs ?k_text_stairs ?n_law_cell_at ?l_law_cell_at ?c_law_cell_at ?k_law_cell_at ?n_law_take ?l_law_take ?c_law_take ?k_law_take ?n_law_word ?l_law_word ?c_law_word ?k_law_word ?n_law_count ?l_law_count ?c_law_count ?k_law_count ?n_law_due ?l_law_due ?c_law_due ?k_law_due ?n_law_told ?l_law_told ?c_law_told ?k_law_told ?n_law_many ?l_law_many ?c_law_many ?k_law_many ?n_law ?l_law ?c_law ?k_law ?v_e_NoRoom ?v_m_NoRoom_NoRoom
    (case z_ValueError => k_is); (case z_bool => k_is); (case z_int => k_is); (case z_isinstance => k_is); (case z_len => k_is); (case z_list => k_is); (case z_max => k_is); (case z_min => k_is); (case z_range => k_is); (case z_str => k_is); (case z_sum => k_is); (case z_tuple => k_is); (case c_MOST_SIGNS => k_is); (case c_SIGNS => k_is); (case n_PartError => k_is); (case x_PartError => k_exc); (case k_PartError => k_is); (case s_PartError => k_is); (case y_PartError => k_is); (case n_NoTexts => k_is); (case x_NoTexts => k_exc); (case k_NoTexts => k_is); (case s_NoTexts => k_is); (case y_NoTexts => k_is); (case n_NoRoom => k_is); (case x_NoRoom => k_exc); (case k_NoRoom => k_is); (case s_NoRoom => k_is); (case y_NoRoom => k_is); (case n_is_word => k_is); (case l_is_word => k_is); (case c_is_word => k_is); (case k_is_word => k_is); (case n_need_words => k_is); (case l_need_words => k_is); (case c_need_words => k_is); (case k_need_words => k_is); (case n_put_word => k_is); (case l_put_word => k_is); (case c_put_word => k_is); (case k_put_word => k_is); (case n_lines => k_is); (case l_lines => k_is); (case c_lines => k_is); (case k_lines => k_is); (case n_taken => k_is); (case l_taken => k_is); (case c_taken => k_is); (case k_taken => k_is); (case n_next_stair => k_is); (case l_next_stair => k_is); (case c_next_stair => k_is); (case k_next_stair => k_is); (case n_text_stairs => k_is); (case l_text_stairs => k_is); (case c_text_stairs => k_is); (case k_text_stairs => k_is); (case n_law_cell_at => k_is); (case l_law_cell_at => k_is); (case c_law_cell_at => k_is); (case k_law_cell_at => k_is); (case n_law_take => k_is); (case l_law_take => k_is); (case c_law_take => k_is); (case k_law_take => k_is); (case n_law_word => k_is); (case l_law_word => k_is); (case c_law_word => k_is); (case k_law_word => k_is); (case n_law_count => k_is); (case l_law_count => k_is); (case c_law_count => k_is); (case k_law_count => k_is); (case n_law_due => k_is); (case l_law_due => k_is); (case c_law_due => k_is); (case k_law_due => k_is); (case n_law_told => k_is); (case l_law_told => k_is); (case c_law_told => k_is); (case k_law_told => k_is); (case n_law_many => k_is); (case l_law_many => k_is); (case c_law_many => k_is); (case k_law_many => k_is); (case n_law => k_is); (case l_law => k_is); (case c_law => k_is); (case k_law => k_is); (case v_e_NoRoom => exact ⟨by k_is, by k_is, by k_is, by k_is, by k_is, by k_is, by k_is, by k_is⟩); (case v_m_NoRoom_NoRoom => exact PySem.W.exm_ref (by k_is) (by k_is) (by k_is) (by k_is))
